import PyProof.Rows.All
import Wide.All
import OpenK.AllK
import Wide.FinOn
import HandS.ForMost
import HandS.Exc
import HandS.WordsExc
import HandS.CallSlots
import HandS.IsInst
import HandS.TupAny
import HandS.TupMul
import HandS.Wide
import HandS.Flow
import HandS.More
import HandS.Zip
import HandS.Star
import HandS.RaiseMore
import HandS.Defaults
import HandS.ClsMeth
import KE.KSuper
import KE.RegKSuper
import KE.GoesMore
import KE.GoesEnum
import PySem.Challenge.RW_unopened_k09_whole_texts_read_back
set_option Elab.async false
set_option linter.all false
set_option maxRecDepth 100000

/-! the functional layer: values as trees (W), a small heap of the objects that change (Gs), and the judgements over the hand layer -/
namespace U
open PySem
open L2

inductive Ty where
  | int | str | bool | list | tuple | dict
  deriving DecidableEq, Inhabited
def Ty.nm : Ty → String
  | .int => "int" | .str => "str" | .bool => "bool" | .list => "list" | .tuple => "tuple" | .dict => "dict"
inductive W where
  | non
  | bl (b : Bool)
  | int (i : Int)
  | str (s : List Nat)
  | tup (xs : List W)
  | lst (xs : List W)
  | fz (xs : List W)
  | dic (es : List W)
  | obj (c : Nat) (xs : List W)
  | ref (i : Nat)
  | ty (t : Ty)
  | cls (c : Nat)
  deriving Inhabited

inductive O where
  | lst (xs : List W)
  | dic (es : List W)
  | ins (c : Nat) (xs : List W)
  | dead
  deriving Inhabited

abbrev Ls := List (Option W)
abbrev Gs := List O
inductive Res where
  | ok (w : W) (G : Gs)
  | exc (w : W) (G : Gs)
  | stuck
inductive SRes where
  | nx (ls : Ls) (G : Gs)
  | rt (w : W) (G : Gs)
  | bk (ls : Ls) (G : Gs)
  | ct (ls : Ls) (G : Gs)
  | exc (w : W) (ls : Ls) (G : Gs)
  | stuck
def Res.bind : Res → (W → Gs → Res) → Res
  | .ok w G, k => k w G
  | .exc w G, _ => .exc w G
  | .stuck, _ => .stuck
@[simp] theorem Res_bind_e1 : Res.bind (.ok w G) k = k w G := rfl
@[simp] theorem Res_bind_e2 : Res.bind (.exc w G) x1 = .exc w G := rfl
@[simp] theorem Res_bind_e3 : Res.bind (.stuck) x1 = .stuck := rfl
@[simp] theorem ite_ok {p : Prop} [Decidable p] (a b : W) (G : Gs) : (if p then Res.ok a G else Res.ok b G) = Res.ok (if p then a else b) G := by split <;> rfl
@[simp] theorem ite_bl {p : Prop} [Decidable p] (a b : Bool) : (if p then W.bl a else W.bl b) = W.bl (if p then a else b) := by split <;> rfl
@[simp] theorem ite_int {p : Prop} [Decidable p] (a b : Int) : (if p then W.int a else W.int b) = W.int (if p then a else b) := by split <;> rfl
@[simp] theorem ite_str {p : Prop} [Decidable p] (a b : List Nat) : (if p then W.str a else W.str b) = W.str (if p then a else b) := by split <;> rfl
def Res.sbind : Res → Ls → (W → Gs → SRes) → SRes
  | .ok w G, _, k => k w G
  | .exc w G, ls, _ => .exc w ls G
  | .stuck, _, _ => .stuck
@[simp] theorem Res_sbind_e1 : Res.sbind (.ok w G) x1 k = k w G := rfl
@[simp] theorem Res_sbind_e2 : Res.sbind (.exc w G) ls x1 = .exc w ls G := rfl
@[simp] theorem Res_sbind_e3 : Res.sbind (.stuck) x1 x2 = .stuck := rfl

structure Tx where
  K : PySem.W.Frag
  ct : Nat → Option Addr
  lay : Nat → List Str

/-- the addresses of what may change, in the order of the small heap; addresses that nothing frozen may have -/
structure Mm where
  r : List Addr
  av : List Addr
def Mm.fr (m : Mm) (a : Addr) : Prop := a ∉ m.r ∧ a ∉ m.av
def Mm.push (m : Mm) (p : Addr) : Mm := ⟨m.r ++ [p], m.av⟩
def Mm.hide (m : Mm) (p : Addr) : Mm := ⟨m.r, p :: m.av⟩
def Mm.unh (m : Mm) (p : Addr) : Mm := ⟨m.r, m.av.filter fun a => decide (a ≠ p)⟩

def KT (K : PySem.W.Frag) (a : Addr) (vs : List V) : Prop :=
  ∃ (o : Obj) (its : Array Value) (n : Nat), K.lookup a = some o ∧ o.cls = .type "tuple" ∧ o.data = .seq its n ∧ its.size ≤ sizeLine ∧ Vals vs its.toList
def KL (K : PySem.W.Frag) (a : Addr) (vs : List V) : Prop :=
  ∃ (o : Obj) (its : Array Value) (n : Nat), K.lookup a = some o ∧ o.cls = .type "list" ∧ o.dict = none ∧ o.data = .seq its n ∧ its.size ≤ sizeLine ∧ Vals vs its.toList
/-- a tuple that stands from the start: an empty one, or one that begins with a text (no key of a dict) -/
def kOnly : List V → Bool
  | [] => true
  | .str _ :: _ => true
  | _ => false
def FzT (K : PySem.W.Frag) (m : Mm) (H : Hp) (a : Addr) (vs : List V) : Prop := (m.fr a ∧ H a = some (.tup vs)) ∨ (KT K a vs ∧ kOnly vs = true)
def FzL (K : PySem.W.Frag) (m : Mm) (H : Hp) (a : Addr) (vs : List V) : Prop := (m.fr a ∧ Rd H a (.lst vs)) ∨ KL K a vs
theorem FzT.sq {K : PySem.W.Frag} {m : Mm} {H : Hp} {a : Addr} {vs : List V} (h : FzT K m H a vs) : SqT K H a vs := h.elim (fun h => .inl (.inl h.2)) fun h => .inr h.1
theorem FzL.sq {K : PySem.W.Frag} {m : Mm} {H : Hp} {a : Addr} {vs : List V} (h : FzL K m H a vs) : SqL K H a vs := h.elim (fun h => .inl h.2) .inr

def kW : Key → W
  | .inl i => .int i
  | .inr s => .str s.cps.toList
mutual
inductive RW (T : Tx) (m : Mm) (H : Hp) : W → V → Prop
  | non : RW T m H .non .non
  | bl (b : Bool) : RW T m H (.bl b) (.bl b)
  | int (i : Int) : RW T m H (.int i) (.int i)
  | str (s : List Nat) : RW T m H (.str s) (.str ⟨s.toArray⟩)
  | tup {ws : List W} {vs : List V} {a : Addr} : RWs T m H ws vs → FzT T.K m H a vs → RW T m H (.tup ws) (.ref a)
  | lst {ws : List W} {vs : List V} {a : Addr} : RWs T m H ws vs → m.fr a → H a = some (.lst vs) → RW T m H (.lst ws) (.ref a)
  | fz {ws : List W} {vs : List V} {a : Addr} : RWs T m H ws vs → FzL T.K m H a vs → RW T m H (.fz ws) (.ref a)
  | dic {es : List W} {kvs : List (Key × V)} {a : Addr} : RWe T m H es kvs → m.fr a → Rd H a (.dK kvs) → RW T m H (.dic es) (.ref a)
  | dit {es : List W} {kvs : List (List Key × V)} {a : Addr} : RWt T m H es kvs → es ≠ [] → m.fr a → Rd H a (.dT kvs) → RW T m H (.dic es) (.ref a)
  | obj {c : Nat} {ws : List W} {vs : List V} {a C dx : Addr} : RWs T m H ws vs → m.fr a → T.ct c = some C → H a = some (.ins C dx (List.zip (T.lay c) vs)) → vs.length ≤ (T.lay c).length → RW T m H (.obj c ws) (.ref a)
  | ref {i : Nat} {a : Addr} : m.r[i]? = some a → RW T m H (.ref i) (.ref a)
  | ty (t : Ty) : RW T m H (.ty t) (.ty t.nm)
  | cls {c : Nat} {C : Addr} : T.ct c = some C → RW T m H (.cls c) (.ref C)
inductive RWs (T : Tx) (m : Mm) (H : Hp) : List W → List V → Prop
  | nil : RWs T m H [] []
  | cons {w : W} {v : V} {ws : List W} {vs : List V} : RW T m H w v → RWs T m H ws vs → RWs T m H (w :: ws) (v :: vs)
inductive RWe (T : Tx) (m : Mm) (H : Hp) : List W → List (Key × V) → Prop
  | nil : RWe T m H [] []
  | consI {k : Int} {w : W} {v : V} {ws : List W} {vs : List (Key × V)} : RW T m H w v → RWe T m H ws vs → RWe T m H (.tup [.int k, w] :: ws) ((.inl k, v) :: vs)
  | consS {k : List Nat} {w : W} {v : V} {ws : List W} {vs : List (Key × V)} : RW T m H w v → RWe T m H ws vs → RWe T m H (.tup [.str k, w] :: ws) ((.inr ⟨k.toArray⟩, v) :: vs)
inductive RWt (T : Tx) (m : Mm) (H : Hp) : List W → List (List Key × V) → Prop
  | nil : RWt T m H [] []
  | cons {ks : List Key} {w : W} {v : V} {ws : List W} {vs : List (List Key × V)} : RW T m H w v → RWt T m H ws vs → RWt T m H (.tup [.tup (ks.map kW), w] :: ws) ((ks, v) :: vs)
end

def DD : HO → Prop
  | .dK _ => True
  | .dT _ => True
  | _ => False
def Pl : HO → Prop
  | .dK _ => False
  | .dT _ => False
  | .frz _ _ => False
  | _ => True
theorem Pl.dd {o : HO} (h : Pl o) : ¬ DD o := by cases o <;> first | exact False.elim h | exact fun q => q
theorem DD.nf {o u : HO} {ob : Obj} (h : DD o) : o ≠ .frz ob u := fun e => by subst e; exact h
/-- what stands frozen stays, no matter what else is done; a dict may be locked -/
structure Keep (m : Mm) (H : Hp) (m' : Mm) (H' : Hp) : Prop where
  ext : ∃ e, m'.r = m.r ++ e
  avL : ∀ a ∈ m.av, a ∈ m'.av
  avU : ∀ a ∈ m'.av, a ∈ m.av ∨ H a = none
  th : ∀ a, H a ≠ none → H' a ≠ none
  fz : ∀ a o, H a = some o → a ∉ m.r → (H' a = some o ∨ (DD o ∧ ∃ od, H' a = some (.frz od o))) ∧ a ∉ m'.r
theorem Keep.refl (m : Mm) (H : Hp) : Keep m H m H := ⟨⟨[], (List.append_nil m.r).symm⟩, fun _ h => h, fun _ h => .inl h, fun _ h => h, fun _ _ h n => ⟨.inl h, n⟩⟩
theorem Keep.trans {m m1 m2 : Mm} {H H1 H2 : Hp} (a : Keep m H m1 H1) (b : Keep m1 H1 m2 H2) : Keep m H m2 H2 := by
  refine ⟨?_, fun x h => b.avL x (a.avL x h), fun x h => ?_, fun x h => b.th x (a.th x h), fun x o h n => ?_⟩
  · obtain ⟨e1, q1⟩ := a.ext
    obtain ⟨e2, q2⟩ := b.ext
    exact ⟨e1 ++ e2, by rw [q2, q1, List.append_assoc]⟩
  · rcases b.avU x h with h | h
    · exact a.avU x h
    · refine .inr ?_
      cases e : H x with
      | none => rfl
      | some o => exact absurd h (a.th x (by rw [e]; simp))
  · obtain ⟨h1, n1⟩ := a.fz x o h n
    rcases h1 with h1 | ⟨d, od, h1⟩
    · exact b.fz x o h1 n1
    · obtain ⟨h2, n2⟩ := b.fz x _ h1 n1
      rcases h2 with h2 | ⟨d2, _⟩
      · exact ⟨.inr ⟨d, od, h2⟩, n2⟩
      · exact d2.elim
theorem Keep.get {m m' : Mm} {H H' : Hp} (k : Keep m H m' H') {i : Nat} {a : Addr} (h : m.r[i]? = some a) : m'.r[i]? = some a := by
  obtain ⟨e, q⟩ := k.ext
  rw [q, List.getElem?_append_left (List.getElem?_eq_some_iff.mp h).1]
  exact h
theorem Keep.frk {m m' : Mm} {H H' : Hp} (k : Keep m H m' H') {a : Addr} (h : H a ≠ none) (n : m.fr a) : m'.fr a := by
  cases e : H a with
  | none => exact absurd e h
  | some o =>
    refine ⟨(k.fz _ _ e n.1).2, fun q => ?_⟩
    rcases k.avU a q with q | q
    · exact n.2 q
    · exact h q
theorem Keep.at_ {m m' : Mm} {H H' : Hp} (k : Keep m H m' H') {a : Addr} {o : HO} (h : H a = some o) (n : m.fr a) (d : ¬ DD o := by exact id) : H' a = some o ∧ m'.fr a := by
  refine ⟨?_, k.frk (by rw [h]; simp) n⟩
  rcases (k.fz _ _ h n.1).1 with h | ⟨h, _⟩
  · exact h
  · exact absurd h d
theorem Keep.fzE {m m' : Mm} {H H' : Hp} (k : Keep m H m' H') {a : Addr} {o : HO} (h : H a = some o) (n : a ∉ m.r) (d : ¬ DD o := by exact id) : H' a = some o ∧ a ∉ m'.r :=
  ⟨(k.fz _ _ h n).1.elim id fun q => absurd q.1 d, (k.fz _ _ h n).2⟩
theorem Keep.rd {m m' : Mm} {H H' : Hp} (k : Keep m H m' H') {a : Addr} {u : HO} (n : m.fr a) (h : Rd H a u) : m'.fr a ∧ Rd H' a u := by
  rcases h with h | ⟨o, h⟩
  · refine ⟨k.frk (by rw [h]; simp) n, ?_⟩
    rcases (k.fz _ _ h n.1).1 with h | ⟨_, od, h⟩
    · exact .inl h
    · exact .inr ⟨od, h⟩
  · obtain ⟨h', n'⟩ := k.at_ h n
    exact ⟨n', .inr ⟨o, h'⟩⟩
/-- what a reading leans on -/
structure KR (m : Mm) (H : Hp) (m' : Mm) (H' : Hp) : Prop where
  get : ∀ {i : Nat} {a : Addr}, m.r[i]? = some a → m'.r[i]? = some a
  at_ : ∀ {a : Addr} {o : HO}, H a = some o → m.fr a → Pl o → H' a = some o ∧ m'.fr a
  rd : ∀ {a : Addr} {u : HO}, m.fr a → Rd H a u → (∀ ob x, u ≠ .frz ob x) → m'.fr a ∧ Rd H' a u
theorem Keep.kr {m m' : Mm} {H H' : Hp} (k : Keep m H m' H') : KR m H m' H' := ⟨k.get, fun h n p => k.at_ h n p.dd, fun n h _ => k.rd n h⟩
/-- a locked thing is unlocked -/
theorem KR.unlock {m : Mm} {H : Hp} {d : Addr} {od : Obj} {u : HO} (h : H d = some (.frz od u)) : KR m H m (upd H d u) := by
  refine ⟨fun h => h, fun {a o} h1 n p => ⟨?_, n⟩, fun {a x} n r hx => ⟨n, ?_⟩⟩
  · rw [upd_ne (fun e => by subst e; rw [h] at h1; cases h1; exact p)]; exact h1
  · by_cases e : a = d
    · subst e
      rcases r with r | ⟨ob, r⟩
      · rw [h] at r; cases r; exact absurd rfl (hx _ _)
      · rw [h] at r; cases r; exact .inl upd_same
    · rcases r with r | ⟨ob, r⟩
      · exact .inl (by rw [upd_ne e]; exact r)
      · exact .inr ⟨ob, by rw [upd_ne e]; exact r⟩
theorem rd_ne {H : Hp} {a : Addr} {u : HO} (h : Rd H a u) : H a ≠ none := by
  rcases h with h | ⟨o, h⟩ <;> rw [h] <;> simp
theorem rd_upd {H : Hp} {a p : Addr} {u o : HO} (n : a ≠ p) (h : Rd H a u) : Rd (upd H p o) a u := by
  rcases h with h | ⟨x, h⟩
  · exact .inl (by rw [upd_ne n]; exact h)
  · exact .inr ⟨x, by rw [upd_ne n]; exact h⟩
theorem fr_unh {m : Mm} {p a : Addr} (n : m.fr a) : (m.unh p).fr a := ⟨n.1, fun q => n.2 (List.mem_filter.mp q).1⟩
theorem fr_ne {m : Mm} {p a : Addr} (hp : p ∈ m.av) (n : m.fr a) : a ≠ p := fun q => n.2 (q ▸ hp)
theorem Keep.fzT {K : PySem.W.Frag} {m m' : Mm} {H H' : Hp} (k : Keep m H m' H') {a : Addr} {vs : List V} (h : FzT K m H a vs) : FzT K m' H' a vs := by
  rcases h with ⟨n, h⟩ | h
  · exact .inl ⟨(k.at_ h n).2, (k.at_ h n).1⟩
  · exact .inr h
theorem Keep.fzL {K : PySem.W.Frag} {m m' : Mm} {H H' : Hp} (k : Keep m H m' H') {a : Addr} {vs : List V} (h : FzL K m H a vs) : FzL K m' H' a vs := by
  rcases h with ⟨n, h⟩ | h
  · exact .inl (k.rd n h)
  · exact .inr h
theorem KR.fzT {K : PySem.W.Frag} {m m' : Mm} {H H' : Hp} (k : KR m H m' H') {a : Addr} {vs : List V} (h : FzT K m H a vs) : FzT K m' H' a vs := by
  rcases h with ⟨n, h⟩ | h
  · exact .inl ⟨(k.at_ h n trivial).2, (k.at_ h n trivial).1⟩
  · exact .inr h
theorem KR.fzL {K : PySem.W.Frag} {m m' : Mm} {H H' : Hp} (k : KR m H m' H') {a : Addr} {vs : List V} (h : FzL K m H a vs) : FzL K m' H' a vs := by
  rcases h with ⟨n, h⟩ | h
  · exact .inl (k.rd n h (fun _ _ e => nomatch e))
  · exact .inr h
mutual
theorem RW.kr {T : Tx} {m m' : Mm} {H H' : Hp} (k : KR m H m' H') : ∀ {w : W} {v : V}, RW T m H w v → RW T m' H' w v
  | _, _, .non => .non
  | _, _, .bl b => .bl b
  | _, _, .int i => .int i
  | _, _, .str s => .str s
  | _, _, .tup r f => .tup (RWs.kr k r) (k.fzT f)
  | _, _, .lst r n f => .lst (RWs.kr k r) (k.at_ f n trivial).2 (k.at_ f n trivial).1
  | _, _, .fz r f => .fz (RWs.kr k r) (k.fzL f)
  | _, _, .dic r n f => .dic (RWe.kr k r) (k.rd n f (fun _ _ e => nomatch e)).1 (k.rd n f (fun _ _ e => nomatch e)).2
  | _, _, .dit r z n f => .dit (RWt.kr k r) z (k.rd n f (fun _ _ e => nomatch e)).1 (k.rd n f (fun _ _ e => nomatch e)).2
  | _, _, .obj r n c h l => .obj (RWs.kr k r) (k.at_ h n trivial).2 c (k.at_ h n trivial).1 l
  | _, _, .ref h => .ref (k.get h)
  | _, _, .ty t => .ty t
  | _, _, .cls h => .cls h
theorem RWs.kr {T : Tx} {m m' : Mm} {H H' : Hp} (k : KR m H m' H') : ∀ {ws : List W} {vs : List V}, RWs T m H ws vs → RWs T m' H' ws vs
  | _, _, .nil => .nil
  | _, _, .cons r t => .cons (RW.kr k r) (RWs.kr k t)
theorem RWe.kr {T : Tx} {m m' : Mm} {H H' : Hp} (k : KR m H m' H') : ∀ {ws : List W} {vs : List (Key × V)}, RWe T m H ws vs → RWe T m' H' ws vs
  | _, _, .nil => .nil
  | _, _, .consI r t => .consI (RW.kr k r) (RWe.kr k t)
  | _, _, .consS r t => .consS (RW.kr k r) (RWe.kr k t)
theorem RWt.kr {T : Tx} {m m' : Mm} {H H' : Hp} (k : KR m H m' H') : ∀ {ws : List W} {vs : List (List Key × V)}, RWt T m H ws vs → RWt T m' H' ws vs
  | _, _, .nil => .nil
  | _, _, .cons r t => .cons (RW.kr k r) (RWt.kr k t)
end
theorem RW.keep {T : Tx} {m m' : Mm} {H H' : Hp} (k : Keep m H m' H') {w : W} {v : V} (r : RW T m H w v) : RW T m' H' w v := r.kr k.kr
theorem RWs.keep {T : Tx} {m m' : Mm} {H H' : Hp} (k : Keep m H m' H') {ws : List W} {vs : List V} (r : RWs T m H ws vs) : RWs T m' H' ws vs := r.kr k.kr
theorem RWe.keep {T : Tx} {m m' : Mm} {H H' : Hp} (k : Keep m H m' H') {ws : List W} {vs : List (Key × V)} (r : RWe T m H ws vs) : RWe T m' H' ws vs := r.kr k.kr
theorem RWt.keep {T : Tx} {m m' : Mm} {H H' : Hp} (k : Keep m H m' H') {ws : List W} {vs : List (List Key × V)} (r : RWt T m H ws vs) : RWt T m' H' ws vs := r.kr k.kr

section
variable {T : Tx} {m : Mm} {H : Hp}
theorem RWs.length : ∀ {ws : List W} {vs : List V}, RWs T m H ws vs → ws.length = vs.length
  | _, _, .nil => rfl
  | _, _, .cons _ t => by rw [List.length_cons, List.length_cons, t.length]
theorem RWs.get : ∀ {ws : List W} {vs : List V} {i : Nat} {w : W}, RWs T m H ws vs → ws[i]? = some w → ∃ v, vs[i]? = some v ∧ RW T m H w v
  | _, _, _, _, .nil, e => by simp at e
  | _, _, 0, _, .cons r _, e => by simp at e; subst e; exact ⟨_, rfl, r⟩
  | _, _, i + 1, w, .cons _ t, e => by
    obtain ⟨u, h1, h2⟩ := RWs.get (i := i) (w := w) t (by simpa using e)
    exact ⟨u, by simpa using h1, h2⟩
theorem RWs.getV : ∀ {ws : List W} {vs : List V} {i : Nat} {v : V}, RWs T m H ws vs → vs[i]? = some v → ∃ w, ws[i]? = some w ∧ RW T m H w v
  | _, _, _, _, .nil, e => by simp at e
  | _, _, 0, _, .cons r _, e => by simp at e; subst e; exact ⟨_, rfl, r⟩
  | _, _, i + 1, w, .cons _ t, e => by
    obtain ⟨u, h1, h2⟩ := RWs.getV (i := i) (v := w) t (by simpa using e)
    exact ⟨u, by simpa using h1, h2⟩
theorem RWs.append : ∀ {ws us : List W} {vs ts : List V}, RWs T m H ws vs → RWs T m H us ts → RWs T m H (ws ++ us) (vs ++ ts)
  | _, _, _, _, .nil, s => s
  | _, _, _, _, .cons r t, s => .cons r (RWs.append t s)
theorem RWs.set {w : W} {v : V} (r : RW T m H w v) : ∀ {ws : List W} {vs : List V} (i : Nat), RWs T m H ws vs → RWs T m H (ws.set i w) (vs.set i v)
  | _, _, _, .nil => .nil
  | _, _, 0, .cons _ t => .cons r t
  | _, _, i + 1, .cons q t => .cons q (RWs.set r i t)
theorem RWs.take : ∀ {ws : List W} {vs : List V} (n : Nat), RWs T m H ws vs → RWs T m H (ws.take n) (vs.take n)
  | _, _, 0, _ => .nil
  | _, _, _ + 1, .nil => .nil
  | _, _, n + 1, .cons r t => .cons r (RWs.take n t)
theorem RWs.drop : ∀ {ws : List W} {vs : List V} (n : Nat), RWs T m H ws vs → RWs T m H (ws.drop n) (vs.drop n)
  | _, _, 0, r => r
  | _, _, _ + 1, .nil => .nil
  | _, _, n + 1, .cons _ t => RWs.drop n t
theorem RWs.reverse : ∀ {ws : List W} {vs : List V}, RWs T m H ws vs → RWs T m H ws.reverse vs.reverse
  | _, _, .nil => .nil
  | _, _, .cons r t => by
    rw [List.reverse_cons, List.reverse_cons]
    exact RWs.append (RWs.reverse t) (.cons r .nil)
end

/-! ### the heap of what changes -/
def RO (T : Tx) (m : Mm) (H : Hp) : O → Addr → Prop
  | .lst xs, a => ∃ vs, H a = some (.lst vs) ∧ RWs T m H xs vs
  | .dic es, a => (∃ kvs, H a = some (.dK kvs) ∧ RWe T m H es kvs) ∨ ∃ kvs, H a = some (.dT kvs) ∧ es ≠ [] ∧ RWt T m H es kvs
  | .ins c xs, a => ∃ C dx vs, T.ct c = some C ∧ H a = some (.ins C dx (List.zip (T.lay c) vs)) ∧ vs.length ≤ (T.lay c).length ∧ RWs T m H xs vs
  | .dead, a => ∃ o, H a = some o
structure RG (T : Tx) (m : Mm) (G : Gs) (H : Hp) : Prop where
  len : m.r.length = G.length
  nd : m.r.Nodup
  ob : ∀ (i : Nat) (o : O) (a : Addr), G[i]? = some o → m.r[i]? = some a → RO T m H o a
  av : ∀ a ∈ m.av, H a ≠ none
  dj : ∀ a ∈ m.r, a ∉ m.av
theorem RO.ne {T : Tx} {m : Mm} {H : Hp} {o : O} {a : Addr} (h : RO T m H o a) : H a ≠ none := by
  cases o with
  | lst xs => obtain ⟨_, e, _⟩ := h; rw [e]; simp
  | dic xs => rcases h with ⟨_, e, _⟩ | ⟨_, e, _, _⟩ <;> rw [e] <;> simp
  | ins c xs => obtain ⟨_, _, _, _, e, _⟩ := h; rw [e]; simp
  | dead => obtain ⟨_, e⟩ := h; rw [e]; simp
theorem RG.ne {T : Tx} {m : Mm} {G : Gs} {H : Hp} (R : RG T m G H) {a : Addr} (h : a ∈ m.r) : H a ≠ none := by
  obtain ⟨i, e⟩ := List.getElem?_of_mem h
  have hi : i < G.length := by rw [← R.len]; exact (List.getElem?_eq_some_iff.mp e).1
  exact (R.ob i G[i] a (by simp [hi]) e).ne
theorem RG.freeR {T : Tx} {m : Mm} {G : Gs} {H : Hp} (R : RG T m G H) {a : Addr} (h : H a = none) : a ∉ m.r := fun q => R.ne q h
theorem RG.free {T : Tx} {m : Mm} {G : Gs} {H : Hp} (R : RG T m G H) {a : Addr} (h : H a = none) : m.fr a := ⟨fun q => R.ne q h, fun q => R.av a q h⟩

/-- what is told of an object leans on that object and on what is kept -/
theorem RO.toR {T : Tx} {m m' : Mm} {H H' : Hp} (k : KR m H m' H') {o : O} {a : Addr} (he : H' a = H a) (r : RO T m H o a) : RO T m' H' o a := by
  cases o with
  | lst xs => obtain ⟨vs, e, r⟩ := r; exact ⟨vs, by rw [he]; exact e, r.kr k⟩
  | dic xs =>
    rcases r with ⟨vs, e, r⟩ | ⟨vs, e, z, r⟩
    · exact .inl ⟨vs, by rw [he]; exact e, r.kr k⟩
    · exact .inr ⟨vs, by rw [he]; exact e, z, r.kr k⟩
  | ins c xs => obtain ⟨C, dx, vs, hc, e, l, r⟩ := r; exact ⟨C, dx, vs, hc, by rw [he]; exact e, l, r.kr k⟩
  | dead => obtain ⟨o, e⟩ := r; exact ⟨o, by rw [he]; exact e⟩
theorem RO.to {T : Tx} {m m' : Mm} {H H' : Hp} (k : Keep m H m' H') {o : O} {a : Addr} (he : H' a = H a) (r : RO T m H o a) : RO T m' H' o a := r.toR k.kr he
theorem upd_ne_none {H : Hp} {a p : Addr} {o : HO} (h : H a ≠ none) : upd H p o a ≠ none := by
  unfold upd
  split
  · simp
  · exact h
/-- a new frozen object -/
theorem Keep.new {T : Tx} {m : Mm} {G : Gs} {H : Hp} (R : RG T m G H) {p : Addr} {o : HO} (h : H p = none) : Keep m H m (upd H p o) :=
  ⟨⟨[], (List.append_nil m.r).symm⟩, fun _ h => h, fun _ h => .inl h, fun a q => upd_ne_none q, fun a u e n => ⟨.inl (by rw [upd_ne (ne_of_none e h)]; exact e), n⟩⟩
theorem RG.new {T : Tx} {m : Mm} {G : Gs} {H : Hp} (R : RG T m G H) {p : Addr} {o : HO} (h : H p = none) : RG T m G (upd H p o) :=
  ⟨R.len, R.nd, fun i x a e1 e2 => (R.ob i x a e1 e2).to (Keep.new R h) (upd_ne (fun e => (R.ob i x a e1 e2).ne (e ▸ h))), fun a q => upd_ne_none (R.av a q), R.dj⟩
/-- a new object that may change -/
theorem Keep.push {T : Tx} {m : Mm} {G : Gs} {H : Hp} (R : RG T m G H) {p : Addr} {o : HO} (h : H p = none) : Keep m H (m.push p) (upd H p o) :=
  ⟨⟨[p], rfl⟩, fun _ h => h, fun _ h => .inl h, fun a q => upd_ne_none q, fun a u e n => ⟨.inl (by rw [upd_ne (ne_of_none e h)]; exact e), fun q => by
    rcases List.mem_append.mp q with q | q
    · exact n q
    · exact ne_of_none e h (List.mem_singleton.mp q)⟩⟩
theorem RG.push {T : Tx} {m : Mm} {G : Gs} {H : Hp} (R : RG T m G H) {p : Addr} {u : HO} {o : O} (h : H p = none) (r : RO T (m.push p) (upd H p u) o p) : RG T (m.push p) (G ++ [o]) (upd H p u) := by
  refine ⟨by simp [Mm.push, R.len], List.nodup_append.mpr ⟨R.nd, by simp, fun a ha b hb => ?_⟩, fun i x a e1 e2 => ?_, fun a q => upd_ne_none (R.av a q), fun a q => by
    rcases List.mem_append.mp q with q | q
    · exact R.dj a q
    · rw [List.mem_singleton.mp q]
      exact fun z => R.av p z h⟩
  · rw [List.mem_singleton.mp hb]
    intro e
    subst e
    exact R.freeR h ha
  · have e2 : (m.r ++ [p])[i]? = some a := e2
    by_cases hi : i < m.r.length
    · rw [List.getElem?_append_left hi] at e2
      rw [List.getElem?_append_left (by rw [← R.len]; exact hi)] at e1
      exact (R.ob i x a e1 e2).to (Keep.push R h) (upd_ne (fun e => (R.ob i x a e1 e2).ne (e ▸ h)))
    · rw [List.getElem?_append_right (by omega)] at e2
      rw [List.getElem?_append_right (by rw [← R.len]; omega)] at e1
      rw [R.len] at e2
      cases q : i - G.length with
      | zero =>
        rw [q] at e1 e2
        simp at e1 e2
        subst e1; subst e2
        exact r
      | succ n =>
        rw [q] at e1
        simp at e1
theorem ix_inj : ∀ {l : List Addr} {i j : Nat}, l.Nodup → (hi : i < l.length) → (hj : j < l.length) → l[i] = l[j] → i = j := by
  intro l i j nd hi hj e
  have nd : l.Pairwise (· ≠ ·) := nd
  have P := List.pairwise_iff_getElem.mp nd
  rcases Nat.lt_trichotomy i j with h | h | h
  · exact absurd e (P i j hi hj h)
  · exact h
  · exact absurd e.symm (P j i hj hi h)
/-- an object that changes -/
theorem Keep.write {m : Mm} {H : Hp} {p : Addr} {o : HO} (h : p ∈ m.r) : Keep m H m (upd H p o) :=
  ⟨⟨[], (List.append_nil m.r).symm⟩, fun _ h => h, fun _ h => .inl h, fun a q => upd_ne_none q, fun a u e n => ⟨.inl (by rw [upd_ne (show a ≠ p from fun q => by subst q; exact n h)]; exact e), n⟩⟩
theorem RG.write {T : Tx} {m : Mm} {G : Gs} {H : Hp} (R : RG T m G H) {i : Nat} {p : Addr} {u : HO} {o : O} (hp : m.r[i]? = some p) (r : RO T m (upd H p u) o p) : RG T m (G.set i o) (upd H p u) := by
  have hpm : p ∈ m.r := List.mem_of_getElem? hp
  refine ⟨by rw [List.length_set]; exact R.len, R.nd, fun j x a e1 e2 => ?_, fun a q => upd_ne_none (R.av a q), R.dj⟩
  by_cases hj : j = i
  · subst hj
    rw [hp] at e2; cases e2
    have hi : j < G.length := by rw [← R.len]; exact (List.getElem?_eq_some_iff.mp hp).1
    rw [List.getElem?_set_self hi] at e1
    cases e1
    exact r
  · rw [List.getElem?_set_ne (Ne.symm hj)] at e1
    have hne : a ≠ p := fun e => by
      subst e
      obtain ⟨h1, h1'⟩ := List.getElem?_eq_some_iff.mp e2
      obtain ⟨h2, h2'⟩ := List.getElem?_eq_some_iff.mp hp
      exact hj (ix_inj R.nd h1 h2 (h1'.trans h2'.symm))
    exact (R.ob j x a e1 e2).to (Keep.write hpm) (upd_ne hne)

/-! ### an object that is being made, hidden from all -/
theorem Keep.hide {T : Tx} {m : Mm} {G : Gs} {H : Hp} (R : RG T m G H) {p : Addr} {o : HO} (h : H p = none) : Keep m H (m.hide p) (upd H p o) :=
  ⟨⟨[], (List.append_nil m.r).symm⟩, fun a q => List.mem_cons_of_mem _ q, fun a q => by
    rcases List.mem_cons.mp q with q | q
    · exact .inr (q ▸ h)
    · exact .inl q, fun a q => upd_ne_none q, fun a u e n => ⟨.inl (by rw [upd_ne (ne_of_none e h)]; exact e), n⟩⟩
theorem RG.hide {T : Tx} {m : Mm} {G : Gs} {H : Hp} {p : Addr} {u : HO} (R : RG T m G H) (h : H p = none) : RG T (m.hide p) G (upd H p u) :=
  ⟨R.len, R.nd, fun i x a e1 e2 => (R.ob i x a e1 e2).to (Keep.hide R h) (upd_ne (fun e => (R.ob i x a e1 e2).ne (e ▸ h))), fun a q => by
    rcases List.mem_cons.mp q with q | q
    · rw [q, upd_same]; simp
    · exact upd_ne_none (R.av a q), fun a q z => by
    rcases List.mem_cons.mp z with z | z
    · exact R.freeR h (z ▸ q)
    · exact R.dj a q z⟩
mutual
theorem RW.unh {T : Tx} {m : Mm} {H : Hp} {p : Addr} : ∀ {w : W} {v : V}, RW T m H w v → RW T (m.unh p) H w v
  | _, _, .non => .non
  | _, _, .bl b => .bl b
  | _, _, .int i => .int i
  | _, _, .str s => .str s
  | _, _, .tup r f => .tup (RWs.unh r) (f.elim (fun f => .inl ⟨fr_unh f.1, f.2⟩) .inr)
  | _, _, .lst r n f => .lst (RWs.unh r) (fr_unh n) f
  | _, _, .fz r f => .fz (RWs.unh r) (f.elim (fun f => .inl ⟨fr_unh f.1, f.2⟩) .inr)
  | _, _, .dic r n f => .dic (RWe.unh r) (fr_unh n) f
  | _, _, .dit r z n f => .dit (RWt.unh r) z (fr_unh n) f
  | _, _, .obj r n c h l => .obj (RWs.unh r) (fr_unh n) c h l
  | _, _, .ref h => .ref h
  | _, _, .ty t => .ty t
  | _, _, .cls h => .cls h
theorem RWs.unh {T : Tx} {m : Mm} {H : Hp} {p : Addr} : ∀ {ws : List W} {vs : List V}, RWs T m H ws vs → RWs T (m.unh p) H ws vs
  | _, _, .nil => .nil
  | _, _, .cons r t => .cons (RW.unh r) (RWs.unh t)
theorem RWe.unh {T : Tx} {m : Mm} {H : Hp} {p : Addr} : ∀ {ws : List W} {vs : List (Key × V)}, RWe T m H ws vs → RWe T (m.unh p) H ws vs
  | _, _, .nil => .nil
  | _, _, .consI r t => .consI (RW.unh r) (RWe.unh t)
  | _, _, .consS r t => .consS (RW.unh r) (RWe.unh t)
theorem RWt.unh {T : Tx} {m : Mm} {H : Hp} {p : Addr} : ∀ {ws : List W} {vs : List (List Key × V)}, RWt T m H ws vs → RWt T (m.unh p) H ws vs
  | _, _, .nil => .nil
  | _, _, .cons r t => .cons (RW.unh r) (RWt.unh t)
end
theorem RO.unh {T : Tx} {m : Mm} {H : Hp} {p : Addr} {o : O} {a : Addr} (r : RO T m H o a) : RO T (m.unh p) H o a := by
  cases o with
  | lst xs => obtain ⟨vs, e, r⟩ := r; exact ⟨vs, e, r.unh⟩
  | dic xs => rcases r with ⟨vs, e, r⟩ | ⟨vs, e, z, r⟩
              · exact .inl ⟨vs, e, r.unh⟩
              · exact .inr ⟨vs, e, z, r.unh⟩
  | ins c xs => obtain ⟨C, dx, vs, hc, e, l, r⟩ := r; exact ⟨C, dx, vs, hc, e, l, r.unh⟩
  | dead => exact r
theorem RG.unh {T : Tx} {m : Mm} {G : Gs} {H : Hp} {p : Addr} (R : RG T m G H) : RG T (m.unh p) G H :=
  ⟨R.len, R.nd, fun i o a e1 e2 => (R.ob i o a e1 e2).unh, fun a q => R.av a (List.mem_filter.mp q).1, fun a q z => R.dj a q (List.mem_filter.mp z).1⟩
/-- back from where p was hidden and written -/
theorem Keep.back {T : Tx} {m m' : Mm} {G : Gs} {H H' : Hp} (R : RG T m G H) {p : Addr} (h : H p = none) (k : Keep m H m' H') : Keep m H (m'.unh p) H' :=
  ⟨k.ext, fun a q => List.mem_filter.mpr ⟨k.avL a q, decide_eq_true fun e => R.av a q (e ▸ h)⟩, fun a q => k.avU a (List.mem_filter.mp q).1, k.th, k.fz⟩
theorem Keep.pen {m m' : Mm} {H H' : Hp} {p : Addr} {o : HO} (h : H p = none) (k : Keep m H m' H') : Keep m H m' (upd H' p o) :=
  ⟨k.ext, k.avL, k.avU, fun a q => upd_ne_none (k.th a q), fun a u e n => ⟨by rw [upd_ne (ne_of_none e h)]; exact (k.fz a u e n).1, (k.fz a u e n).2⟩⟩
mutual
/-- the hidden object is written -/
theorem RW.pen {T : Tx} {m : Mm} {H : Hp} {p : Addr} {o : HO} (hp : p ∈ m.av) : ∀ {w : W} {v : V}, RW T m H w v → RW T m (upd H p o) w v
  | _, _, .non => .non
  | _, _, .bl b => .bl b
  | _, _, .int i => .int i
  | _, _, .str s => .str s
  | _, _, .tup r f => .tup (RWs.pen hp r) (f.elim (fun f => .inl ⟨f.1, by rw [upd_ne (fr_ne hp f.1)]; exact f.2⟩) .inr)
  | _, _, .lst r n f => .lst (RWs.pen hp r) n (by rw [upd_ne (fr_ne hp n)]; exact f)
  | _, _, .fz r f => .fz (RWs.pen hp r) (f.elim (fun f => .inl ⟨f.1, rd_upd (fr_ne hp f.1) f.2⟩) .inr)
  | _, _, .dic r n f => .dic (RWe.pen hp r) n (rd_upd (fr_ne hp n) f)
  | _, _, .dit r z n f => .dit (RWt.pen hp r) z n (rd_upd (fr_ne hp n) f)
  | _, _, .obj r n c h l => .obj (RWs.pen hp r) n c (by rw [upd_ne (fr_ne hp n)]; exact h) l
  | _, _, .ref h => .ref h
  | _, _, .ty t => .ty t
  | _, _, .cls h => .cls h
theorem RWs.pen {T : Tx} {m : Mm} {H : Hp} {p : Addr} {o : HO} (hp : p ∈ m.av) : ∀ {ws : List W} {vs : List V}, RWs T m H ws vs → RWs T m (upd H p o) ws vs
  | _, _, .nil => .nil
  | _, _, .cons r t => .cons (RW.pen hp r) (RWs.pen hp t)
theorem RWe.pen {T : Tx} {m : Mm} {H : Hp} {p : Addr} {o : HO} (hp : p ∈ m.av) : ∀ {ws : List W} {vs : List (Key × V)}, RWe T m H ws vs → RWe T m (upd H p o) ws vs
  | _, _, .nil => .nil
  | _, _, .consI r t => .consI (RW.pen hp r) (RWe.pen hp t)
  | _, _, .consS r t => .consS (RW.pen hp r) (RWe.pen hp t)
theorem RWt.pen {T : Tx} {m : Mm} {H : Hp} {p : Addr} {o : HO} (hp : p ∈ m.av) : ∀ {ws : List W} {vs : List (List Key × V)}, RWt T m H ws vs → RWt T m (upd H p o) ws vs
  | _, _, .nil => .nil
  | _, _, .cons r t => .cons (RW.pen hp r) (RWt.pen hp t)
end
theorem RG.pen {T : Tx} {m : Mm} {G : Gs} {H : Hp} {p : Addr} {u : HO} (R : RG T m G H) (hp : p ∈ m.av) (hr : p ∉ m.r) : RG T m G (upd H p u) := by
  refine ⟨R.len, R.nd, fun i o a e1 e2 => ?_, fun a q => upd_ne_none (R.av a q), R.dj⟩
  have ha : a ≠ p := fun e => hr (by rw [← e]; exact List.mem_of_getElem? e2)
  have r := R.ob i o a e1 e2
  cases o with
  | lst xs => obtain ⟨vs, e, r⟩ := r; exact ⟨vs, by rw [upd_ne ha]; exact e, r.pen hp⟩
  | dic xs => rcases r with ⟨vs, e, r⟩ | ⟨vs, e, z, r⟩
              · exact .inl ⟨vs, by rw [upd_ne ha]; exact e, r.pen hp⟩
              · exact .inr ⟨vs, by rw [upd_ne ha]; exact e, z, r.pen hp⟩
  | ins c xs => obtain ⟨C, dx, vs, hc, e, l, r⟩ := r; exact ⟨C, dx, vs, hc, by rw [upd_ne ha]; exact e, l, r.pen hp⟩
  | dead => obtain ⟨o, e⟩ := r; exact ⟨o, by rw [upd_ne ha]; exact e⟩
/-- a frozen dict is locked -/
theorem Keep.lock {m : Mm} {H : Hp} {d : Addr} {od : Obj} {u : HO} (h : H d = some u) (du : DD u) : Keep m H m (upd H d (.frz od u)) :=
  ⟨⟨[], (List.append_nil m.r).symm⟩, fun _ h => h, fun _ h => .inl h, fun a q => upd_ne_none q, fun a o e n => ⟨by
    by_cases q : a = d
    · subst q
      rw [h] at e; cases e
      exact .inr ⟨du, od, upd_same⟩
    · exact .inl (by rw [upd_ne q]; exact e), n⟩⟩
theorem RG.other {T : Tx} {m : Mm} {G : Gs} {H : Hp} (R : RG T m G H) {d : Addr} {o : HO} (k : KR m H m (upd H d o)) (hd : d ∉ m.r) : RG T m G (upd H d o) :=
  ⟨R.len, R.nd, fun i x a e1 e2 => (R.ob i x a e1 e2).toR k (upd_ne fun e => hd (by rw [← e]; exact List.mem_of_getElem? e2)), fun a q => upd_ne_none (R.av a q), R.dj⟩
theorem RG.lock {T : Tx} {m : Mm} {G : Gs} {H : Hp} (R : RG T m G H) {d : Addr} {od : Obj} {u : HO} (h : H d = some u) (du : DD u) (hd : d ∉ m.r) : RG T m G (upd H d (.frz od u)) := R.other (Keep.lock h du).kr hd
theorem RG.unlock {T : Tx} {m : Mm} {G : Gs} {H : Hp} (R : RG T m G H) {d : Addr} {od : Obj} {u : HO} (h : H d = some (.frz od u)) (hd : d ∉ m.r) : RG T m G (upd H d u) := R.other (KR.unlock h) hd
/-- from before the lock to behind the unlocking -/
theorem Keep.unlock {m m' : Mm} {H H' : Hp} {d : Addr} {od : Obj} {u : HO} (h : H d = some u) (k : Keep m (upd H d (.frz od u)) m' H') (hd : d ∉ m.r) : Keep m H m' (upd H' d u) := by
  refine ⟨k.ext, k.avL, fun a q => ?_, fun a q => upd_ne_none (k.th a (upd_ne_none q)), fun a o e n => ?_⟩
  · rcases k.avU a q with q | q
    · exact .inl q
    · refine .inr ?_
      by_cases z : a = d
      · subst z; rw [upd_same] at q; cases q
      · rwa [upd_ne z] at q
  · by_cases z : a = d
    · subst z
      rw [h] at e; cases e
      exact ⟨.inl upd_same, (k.fz a _ upd_same n).2⟩
    · rw [upd_ne z]
      exact k.fz a o (by rw [upd_ne z]; exact e) n
/-! ### the slots -/
structure RL (T : Tx) (m : Mm) (H : Hp) (ls : Ls) (σ : St) : Prop where
  len : ls.length = σ.length
  at_ : ∀ (i : Nat) (w : W), ls[i]? = some (some w) → ∃ v, σ[i]? = some (some v) ∧ RW T m H w v
theorem RL.keep {T : Tx} {m m' : Mm} {H H' : Hp} {ls : Ls} {σ : St} (h : RL T m H ls σ) (k : Keep m H m' H') : RL T m' H' ls σ :=
  ⟨h.len, fun i w e => by
    obtain ⟨v, e1, r⟩ := h.at_ i w e
    exact ⟨v, e1, r.keep k⟩⟩
theorem RL.set {T : Tx} {m : Mm} {H : Hp} {ls : Ls} {σ : St} (h : RL T m H ls σ) (i : Nat) {w : W} {v : V} (r : RW T m H w v) : RL T m H (ls.set i (some w)) (σ.set i (some v)) := by
  refine ⟨by rw [List.length_set, List.length_set, h.len], fun j x e => ?_⟩
  by_cases hj : j = i
  · subst hj
    have hi : j < ls.length := by
      have := (List.getElem?_eq_some_iff.mp e).1
      rwa [List.length_set] at this
    rw [List.getElem?_set_self hi] at e
    cases e
    exact ⟨v, List.getElem?_set_self (by rw [← h.len]; exact hi), r⟩
  · rw [List.getElem?_set_ne (Ne.symm hj)] at e
    obtain ⟨v', e1, r1⟩ := h.at_ j x e
    exact ⟨v', by rw [List.getElem?_set_ne (Ne.symm hj)]; exact e1, r1⟩
theorem RL.pen {T : Tx} {m : Mm} {H : Hp} {ls : Ls} {σ : St} {p : Addr} {o : HO} (h : RL T m H ls σ) (hp : p ∈ m.av) : RL T m (upd H p o) ls σ :=
  ⟨h.len, fun i w e => by
    obtain ⟨v, e1, r⟩ := h.at_ i w e
    exact ⟨v, e1, r.pen hp⟩⟩
theorem RL.kr {T : Tx} {m m' : Mm} {H H' : Hp} {ls : Ls} {σ : St} (h : RL T m H ls σ) (k : KR m H m' H') : RL T m' H' ls σ :=
  ⟨h.len, fun i w e => by
    obtain ⟨v, e1, r⟩ := h.at_ i w e
    exact ⟨v, e1, r.kr k⟩⟩
/-- slots emptied -/
def wipeL (ls : Ls) : List Nat → Ls
  | [] => ls
  | i :: r => (wipeL ls r).set i none
@[simp] theorem wipeL_nil (ls : Ls) : wipeL ls [] = ls := rfl
@[simp] theorem wipeL_cons (ls : Ls) (i : Nat) (r : List Nat) : wipeL ls (i :: r) = (wipeL ls r).set i none := rfl
theorem RL.wipe {T : Tx} {m : Mm} {H : Hp} {ls : Ls} {σ : St} (h : RL T m H ls σ) : ∀ vs : List Nat, RL T m H (wipeL ls vs) (L2.wipe σ vs)
  | [] => h
  | i :: r => by
    have q := RL.wipe h r
    refine ⟨by show ((wipeL ls r).set i none).length = ((L2.wipe σ r).set i none).length; rw [List.length_set, List.length_set, q.len], fun j w e => ?_⟩
    have e : ((wipeL ls r).set i none)[j]? = some (some w) := e
    show ∃ v, ((L2.wipe σ r).set i none)[j]? = some (some v) ∧ _
    by_cases hj : j = i
    · subst hj
      rw [List.getElem?_set] at e
      simp at e
    · rw [List.getElem?_set_ne (Ne.symm hj)] at e
      rw [List.getElem?_set_ne (Ne.symm hj)]
      exact q.at_ j w e
/-- only these slots were written -/
structure Chg (is : List Nat) (σ σ' : St) : Prop where
  len : σ'.length = σ.length
  at_ : ∀ j, j ∉ is → σ'[j]? = σ[j]?
theorem Chg.refl (is : List Nat) (σ : St) : Chg is σ σ := ⟨rfl, fun _ _ => rfl⟩
theorem Chg.trans {is : List Nat} {σ σ1 σ2 : St} (a : Chg is σ σ1) (b : Chg is σ1 σ2) : Chg is σ σ2 := ⟨b.len.trans a.len, fun j h => (b.at_ j h).trans (a.at_ j h)⟩
theorem Chg.mono {is js : List Nat} {σ σ1 : St} (a : Chg is σ σ1) (h : ∀ j ∈ is, j ∈ js) : Chg js σ σ1 := ⟨a.len, fun j n => a.at_ j fun q => n (h j q)⟩
theorem Chg.set {i : Nat} {σ : St} {v : Option V} : Chg [i] σ (σ.set i v) := ⟨List.length_set, fun j h => by rw [List.getElem?_set_ne (fun e => h (by simp [e]))]⟩
theorem wipe_at (σ : St) : ∀ (vs : List Nat) (j : Nat), (L2.wipe σ vs)[j]? = if j ∈ vs then (if j < σ.length then some none else none) else σ[j]?
  | [], j => by simp [L2.wipe]
  | v :: vs, j => by
    show ((L2.wipe σ vs).set v none)[j]? = _
    rw [List.getElem?_set]
    by_cases h : v = j
    · subst h
      rw [if_pos rfl, wipe_length]
      simp
    · rw [if_neg h, wipe_at σ vs j]
      have h' : ¬ j = v := fun e => h e.symm
      simp [h']
theorem Chg.wipe {is vs : List Nat} {σ σ' : St} (c : Chg is (L2.wipe σ vs) σ') (h : ∀ j ∈ is, j ∈ vs) : L2.wipe σ' vs = L2.wipe σ vs := by
  refine List.ext_getElem? fun j => ?_
  have hl : σ'.length = σ.length := by rw [c.len, wipe_length]
  rw [wipe_at, wipe_at, hl]
  by_cases hj : j ∈ vs
  · rw [if_pos hj, if_pos hj]
  · rw [if_neg hj, if_neg hj, c.at_ j (fun q => hj (h j q)), wipe_at, if_neg hj]
end U


namespace U
open PySem
open L2

/-- an exception that was raised: its class and its own dict -/
def RX (T : Tx) (m : Mm) (H : Hp) (w : W) (cls : Value) (d : Option Addr) : Prop :=
  ∃ (c : Nat) (ws : List W) (C dd : Addr) (vs : List V), w = .obj c ws ∧ T.ct c = some C ∧ cls = .ref C ∧ d = some dd ∧ m.fr dd ∧ H dd = some (.xd (List.zip (T.lay c) vs)) ∧ vs.length ≤ (T.lay c).length ∧ RWs T m H ws vs

def Out (T : Tx) (W0 : WX) (m : Mm) (H : Hp) (σ : St) (Q : VK) : Res → Prop
  | .ok w G' => ∀ m' v H', Keep m H m' H' → RG T m' G' H' → RW T m' H' w v → Q v H'
  | .exc w G' => ∀ m' c d H', Keep m H m' H' → RG T m' G' H' → RX T m' H' w c d → W0 c d σ H'
  | .stuck => False
def OutS (T : Tx) (W0 : WX) (m : Mm) (H : Hp) (D : Ends) : SRes → Prop
  | .nx ls' G' => ∀ m' σ' H', Keep m H m' H' → RG T m' G' H' → RL T m' H' ls' σ' → D.nx σ' H'
  | .rt w G' => ∀ m' v H', Keep m H m' H' → RG T m' G' H' → RW T m' H' w v → D.rt v H'
  | .bk ls' G' => ∀ m' σ' H', Keep m H m' H' → RG T m' G' H' → RL T m' H' ls' σ' → D.bk σ' H'
  | .ct ls' G' => ∀ m' σ' H', Keep m H m' H' → RG T m' G' H' → RL T m' H' ls' σ' → D.ct σ' H'
  | .exc w ls' G' => ∀ m' σ' c d H', Keep m H m' H' → RG T m' G' H' → RL T m' H' ls' σ' → RX T m' H' w c d → W0 c d σ' H'
  | .stuck => False
theorem Out.keep {T : Tx} {W0 : WX} {m m1 : Mm} {H H1 : Hp} {σ : St} {Q : VK} (k : Keep m H m1 H1) {r : Res} (h : Out T W0 m H σ Q r) : Out T W0 m1 H1 σ Q r := by
  cases r with
  | ok w G => exact fun m' v H' k' => h m' v H' (k.trans k')
  | exc w G => exact fun m' c d H' k' => h m' c d H' (k.trans k')
  | stuck => exact h
theorem OutS.keep {T : Tx} {W0 : WX} {m m1 : Mm} {H H1 : Hp} {D : Ends} (k : Keep m H m1 H1) {r : SRes} (h : OutS T W0 m H D r) : OutS T W0 m1 H1 D r := by
  cases r with
  | nx ls G => exact fun m' σ' H' k' => h m' σ' H' (k.trans k')
  | rt w G => exact fun m' v H' k' => h m' v H' (k.trans k')
  | bk ls G => exact fun m' σ' H' k' => h m' σ' H' (k.trans k')
  | ct ls G => exact fun m' σ' H' k' => h m' σ' H' (k.trans k')
  | exc w ls G => exact fun m' σ' c d H' k' => h m' σ' c d H' (k.trans k')
  | stuck => exact h

/-- what a body knows of where it stands -/
structure Ctx (T : Tx) (X : Cx) (W0 : WX) : Prop where
  tk : Takes X W0
  po : PassesOwn (model X.prog X.w) X.A X.env X.xe
  calm : X.calm = true
  nd : X.N.Nodup
  hu : X.A.units + 64 < cLine
  hK : X.K = T.K

abbrev EF := Ls → Gs → Res
abbrev SF := Ls → Gs → SRes

def Imp (T : Tx) (W0 : WX) (t : TE) (f : EF) : Prop :=
  ∀ (m : Mm) (ls : Ls) (G : Gs) (σ : St) (H : Hp) (Q : VK), RG T m G H → RL T m H ls σ → Out T W0 m H σ Q (f ls G) → t σ H Q
/-- a test: the value is a bool -/
def ImpT (T : Tx) (W0 : WX) (t : TT) (f : EF) : Prop :=
  ∀ (m : Mm) (ls : Ls) (G : Gs) (σ : St) (H : Hp) (Q : Bool → Hp → Prop), RG T m G H → RL T m H ls σ → Out T W0 m H σ (fun v H' => ∃ b, v = .bl b ∧ Q b H') (f ls G) → t σ H Q
def ImpS (T : Tx) (W0 : WX) (t : TS) (g : SF) : Prop :=
  ∀ (m : Mm) (ls : Ls) (G : Gs) (σ : St) (H : Hp) (D : Ends), RG T m G H → RL T m H ls σ → OutS T W0 m H D (g ls G) → t D σ H
/-- arguments: as a tuple of values -/
def ImpA (T : Tx) (W0 : WX) (t : TA) (f : EF) : Prop :=
  ∀ (m : Mm) (ls : Ls) (G : Gs) (σ : St) (H : Hp) (Q : List V → Hp → Prop), RG T m G H → RL T m H ls σ →
    (match f ls G with
      | .ok w G' => ∃ ws, w = .tup ws ∧ ∀ m' vs H', Keep m H m' H' → RG T m' G' H' → RWs T m' H' ws vs → Q vs H'
      | .exc w G' => ∀ m' c d H', Keep m H m' H' → RG T m' G' H' → RX T m' H' w c d → W0 c d σ H'
      | .stuck => False) → t σ H Q

def FE (T : Tx) (X : Cx) (W0 : WX) (e : Expr) (f : EF) : Prop := ∃ t, PE X e t ∧ Imp T W0 t f
def FT (T : Tx) (X : Cx) (W0 : WX) (e : Expr) (f : EF) : Prop := ∃ t, PT X e t ∧ ImpT T W0 t f
def FW (T : Tx) (X : Cx) (W0 : WX) (e : Expr) (f : EF) : Prop := ∃ t, PW X e t ∧ ImpT T W0 t f
def FS (T : Tx) (X : Cx) (W0 : WX) (st : Stmt) (g : SF) : Prop := ∃ t, PS X st t ∧ ImpS T W0 t g
def FSs (T : Tx) (X : Cx) (W0 : WX) (st : List Stmt) (g : SF) : Prop := ∃ t, PSs X st t ∧ ImpS T W0 t g
def FA (T : Tx) (X : Cx) (W0 : WX) (es : List Expr) (f : EF) : Prop := ∃ t, PA X es t ∧ ImpA T W0 t f

section
variable {T : Tx} {W0 : WX} {m : Mm} {ls : Ls} {G : Gs} {σ : St} {H : Hp}
/-- an expression, then what is done with its value -/
theorem Imp.go {t : TE} {f : EF} (h : Imp T W0 t f) {Q R : VK} {k : W → Gs → Res} (hG : RG T m G H) (hL : RL T m H ls σ) (ho : Out T W0 m H σ Q ((f ls G).bind k))
    (hk : ∀ (w : W) (G1 : Gs) (m1 : Mm) (v : V) (H1 : Hp), Keep m H m1 H1 → RG T m1 G1 H1 → RW T m1 H1 w v → RL T m1 H1 ls σ → Out T W0 m1 H1 σ Q (k w G1) → R v H1) : t σ H R := by
  refine h m ls G σ H R hG hL ?_
  cases e : f ls G with
  | ok w G1 =>
    rw [e] at ho
    exact fun m1 v H1 k1 g1 r1 => hk w G1 m1 v H1 k1 g1 r1 (hL.keep k1) (Out.keep k1 ho)
  | exc w G1 => rw [e] at ho; exact ho
  | stuck => rw [e] at ho; exact ho
theorem Imp.goS {t : TE} {f : EF} (h : Imp T W0 t f) {D : Ends} {R : VK} {k : W → Gs → SRes} (hG : RG T m G H) (hL : RL T m H ls σ) (ho : OutS T W0 m H D ((f ls G).sbind ls k))
    (hk : ∀ (w : W) (G1 : Gs) (m1 : Mm) (v : V) (H1 : Hp), Keep m H m1 H1 → RG T m1 G1 H1 → RW T m1 H1 w v → RL T m1 H1 ls σ → OutS T W0 m1 H1 D (k w G1) → R v H1) : t σ H R := by
  refine h m ls G σ H R hG hL ?_
  cases e : f ls G with
  | ok w G1 =>
    rw [e] at ho
    exact fun m1 v H1 k1 g1 r1 => hk w G1 m1 v H1 k1 g1 r1 (hL.keep k1) (OutS.keep k1 ho)
  | exc w G1 =>
    rw [e] at ho
    exact fun m1 c d H1 k1 g1 r1 => ho m1 σ c d H1 k1 g1 (hL.keep k1) r1
  | stuck => rw [e] at ho; exact ho
/-- the value of a test -/
def asB : W → (Bool → Res) → Res
  | .bl b, k => k b
  | _, _ => .stuck
@[simp] theorem asB_e1 : asB (.bl b) k = k b := rfl
def asBS : W → (Bool → SRes) → SRes
  | .bl b, k => k b
  | _, _ => .stuck
@[simp] theorem asBS_e1 : asBS (.bl b) k = k b := rfl
theorem ImpT.go {t : TT} {f : EF} (h : ImpT T W0 t f) {Q : VK} {R : Bool → Hp → Prop} {k : Bool → Gs → Res} (hG : RG T m G H) (hL : RL T m H ls σ) (ho : Out T W0 m H σ Q ((f ls G).bind fun w G1 => asB w fun b => k b G1))
    (hk : ∀ (b : Bool) (G1 : Gs) (m1 : Mm) (H1 : Hp), Keep m H m1 H1 → RG T m1 G1 H1 → RL T m1 H1 ls σ → Out T W0 m1 H1 σ Q (k b G1) → R b H1) : t σ H R := by
  refine h m ls G σ H R hG hL ?_
  cases e : f ls G with
  | ok w G1 =>
    rw [e] at ho
    intro m1 v H1 k1 g1 r1
    cases r1 with
    | bl b => exact ⟨b, rfl, hk b G1 m1 H1 k1 g1 (hL.keep k1) (Out.keep k1 ho)⟩
    | _ => exact False.elim ho
  | exc w G1 => rw [e] at ho; exact ho
  | stuck => rw [e] at ho; exact ho
theorem ImpT.goS {t : TT} {f : EF} (h : ImpT T W0 t f) {D : Ends} {R : Bool → Hp → Prop} {k : Bool → Gs → SRes} (hG : RG T m G H) (hL : RL T m H ls σ) (ho : OutS T W0 m H D ((f ls G).sbind ls fun w G1 => asBS w fun b => k b G1))
    (hk : ∀ (b : Bool) (G1 : Gs) (m1 : Mm) (H1 : Hp), Keep m H m1 H1 → RG T m1 G1 H1 → RL T m1 H1 ls σ → OutS T W0 m1 H1 D (k b G1) → R b H1) : t σ H R := by
  refine h m ls G σ H R hG hL ?_
  cases e : f ls G with
  | ok w G1 =>
    rw [e] at ho
    intro m1 v H1 k1 g1 r1
    cases r1 with
    | bl b => exact ⟨b, rfl, hk b G1 m1 H1 k1 g1 (hL.keep k1) (OutS.keep k1 ho)⟩
    | _ => exact False.elim ho
  | exc w G1 =>
    rw [e] at ho
    exact fun m1 c d H1 k1 g1 r1 => ho m1 σ c d H1 k1 g1 (hL.keep k1) r1
  | stuck => rw [e] at ho; exact ho
/-- arguments, then what is done with them -/
def asT : W → (List W → Res) → Res
  | .tup ws, k => k ws
  | _, _ => .stuck
@[simp] theorem asT_e1 : asT (.tup ws) k = k ws := rfl
theorem ImpA.go {t : TA} {f : EF} (h : ImpA T W0 t f) {Q : VK} {R : List V → Hp → Prop} {k : List W → Gs → Res} (hG : RG T m G H) (hL : RL T m H ls σ) (ho : Out T W0 m H σ Q ((f ls G).bind fun w G1 => asT w fun ws => k ws G1))
    (hk : ∀ (ws : List W) (G1 : Gs) (m1 : Mm) (vs : List V) (H1 : Hp), Keep m H m1 H1 → RG T m1 G1 H1 → RWs T m1 H1 ws vs → RL T m1 H1 ls σ → Out T W0 m1 H1 σ Q (k ws G1) → R vs H1) : t σ H R := by
  refine h m ls G σ H R hG hL ?_
  cases e : f ls G with
  | ok w G1 =>
    rw [e] at ho
    cases w with
    | tup ws => exact ⟨ws, rfl, fun m1 vs H1 k1 g1 r1 => hk ws G1 m1 vs H1 k1 g1 r1 (hL.keep k1) (Out.keep k1 ho)⟩
    | _ => exact False.elim ho
  | exc w G1 => rw [e] at ho; exact ho
  | stuck => rw [e] at ho; exact ho
end

/-! ### names, constants -/
@[simp] def lget : Ls → Nat → Option W
  | [], _ => none
  | x :: _, 0 => x
  | _ :: r, i + 1 => lget r i
theorem lget_some : ∀ {ls : Ls} {i : Nat} {w : W}, lget ls i = some w → ls[i]? = some (some w)
  | [], _, _, h => by cases h
  | x :: _, 0, _, h => by simp only [lget] at h; subst h; rfl
  | _ :: r, i + 1, _, h => by rw [List.getElem?_cons_succ]; exact lget_some (ls := r) h
@[simp] def eVar (i : Nat) : EF := fun ls G => match lget ls i with
  | some w => .ok w G
  | none => .stuck
@[simp] def eC (w : W) : EF := fun _ G => .ok w G
section
variable {T : Tx} {X : Cx} {W0 : WX}
theorem fe_var (i : Nat) {x : Str} {pos : Pos} (hN : X.N[i]? = some x := by rfl) (hv : Vis X.env.scope x := by first | exact Or.inl rfl | exact Or.inr (Or.inl rfl) | exact Or.inr (Or.inr rfl))
    (hd : (x == ("__debug__" : Str)) = false := by decide +kernel) (hcd : (x == ("__classdict__" : Str)) = false := by decide +kernel) : FE T X W0 (.Name x pos) (eVar i) := by
  refine ⟨_, pe_var hN hv hd hcd, fun m ls G σ H Q hG hL ho => ?_⟩
  unfold eVar at ho
  cases e : lget ls i with
  | none => rw [e] at ho; exact False.elim ho
  | some w =>
    rw [e] at ho
    obtain ⟨v, hv, r⟩ := hL.at_ i w (lget_some e)
    exact ⟨v, hv, ho m v H (.refl m H) hG r⟩
theorem fe_int {i : Int} {j pos} : FE T X W0 (.Constant (.int i) j pos) (eC (.int i)) := ⟨_, pe_int, fun m _ _ _ H _ hG _ ho => ho m _ H (.refl m H) hG (.int i)⟩
theorem fe_bl {b : Bool} {j pos} : FE T X W0 (.Constant (.bool b) j pos) (eC (.bl b)) := ⟨_, pe_bl, fun m _ _ _ H _ hG _ ho => ho m _ H (.refl m H) hG (.bl b)⟩
theorem fe_non {j pos} : FE T X W0 (.Constant .none j pos) (eC .non) := ⟨_, pe_non, fun m _ _ _ H _ hG _ ho => ho m _ H (.refl m H) hG .non⟩
theorem fe_str {x : Str} (s : List Nat) {j pos} (h : x = ⟨s.toArray⟩ := by decide +kernel) : FE T X W0 (.Constant (.str x) j pos) (eC (.str s)) := by
  subst h
  exact ⟨_, pe_str, fun m _ _ _ H _ hG _ ho => ho m _ H (.refl m H) hG (.str s)⟩
end

/-! ### two-place operations by values -/
abbrev OF := W → W → Gs → Res
/-- the reading r of an operation is implied by f -/
def ImpO (T : Tx) (W0 : WX) (r : R2) (f : OF) : Prop :=
  ∀ (m : Mm) (G : Gs) (σ : St) (H : Hp) (Q : VK) (a b : W) (x y : V), RG T m G H → RW T m H a x → RW T m H b y → Out T W0 m H σ Q (f a b G) → r x y H Q
@[simp] def eOp (f : OF) (fa fb : EF) : EF := fun ls G => (fa ls G).bind fun a G1 => (fb ls G1).bind fun b G2 => f a b G2
section
variable {T : Tx} {X : Cx} {W0 : WX} {a b c : Expr} {fa fb fc : EF} {pos : Pos}
theorem imp_op {r : R2} {f : OF} {ta tb : TE} (hr : ImpO T W0 r f) (ha : Imp T W0 ta fa) (hb : Imp T W0 tb fb) : Imp T W0 (tOp r ta tb) (eOp f fa fb) := by
  intro m ls G σ H Q hG hL ho
  refine ha.go hG hL ho fun w G1 m1 v H1 k1 g1 r1 l1 o1 => ?_
  refine hb.go g1 l1 o1 fun w2 G2 m2 v2 H2 k2 g2 r2 l2 o2 => ?_
  exact hr m2 G2 σ H2 Q w w2 v v2 g2 (r1.keep k2) r2 o2
theorem fe_op {op : Operator} {r : R2} {f : OF} (ho : OpR X (binaryOp op) r) (hr : ImpO T W0 r f) (ha : FE T X W0 a fa) (hb : FE T X W0 b fb) : FE T X W0 (.BinOp a op b pos) (eOp f fa fb) := by
  obtain ⟨ta, ha, ia⟩ := ha
  obtain ⟨tb, hb, ib⟩ := hb
  exact ⟨_, pe_op ho ha hb, imp_op hr ia ib⟩
theorem fe_cmp {op : CmpOp} {r : R2} {f : OF} (ho : OpR X (compareOp op) r) (hr : ImpO T W0 r f) (ha : FE T X W0 a fa) (hb : FE T X W0 b fb) (hm : behindInMarks op b = false := by rfl) : FE T X W0 (.Compare a [op] [b] pos) (eOp f fa fb) := by
  obtain ⟨ta, ha, ia⟩ := ha
  obtain ⟨tb, hb, ib⟩ := hb
  exact ⟨_, pe_cmpR ho ha hb hm, imp_op hr ia ib⟩
theorem impT_of {t : TE} {f : EF} (h : Imp T W0 t f) : ImpT T W0 (tTest t) f := fun m ls G σ H Q hG hL ho => h m ls G σ H _ hG hL ho
theorem ft_cmp {op : CmpOp} {r : R2} {f : OF} (ho : OpR X (compareOp op) r) (hr : ImpO T W0 r f) (ha : FE T X W0 a fa) (hb : FE T X W0 b fb) (hm : behindInMarks op b = false := by rfl) : FT T X W0 (.Compare a [op] [b] pos) (eOp f fa fb) := by
  obtain ⟨ta, ha, ia⟩ := ha
  obtain ⟨tb, hb, ib⟩ := hb
  exact ⟨_, pt_cmpR ho ha hb hm, impT_of (imp_op hr ia ib)⟩
/-- a < b < c -/
@[simp] def eChain (f f' : OF) (fa fb fc : EF) : EF := fun ls G => (fa ls G).bind fun a G1 => (fb ls G1).bind fun b G2 => (f a b G2).bind fun z G3 => asB z fun k => if k then (fc ls G3).bind fun c G4 => f' b c G4 else .ok (.bl false) G3
theorem imp_chain {r r' : R2} {f f' : OF} {ta tb tc : TE} (hr : ImpO T W0 r f) (hr' : ImpO T W0 r' f') (ha : Imp T W0 ta fa) (hb : Imp T W0 tb fb) (hc : Imp T W0 tc fc) : Imp T W0 (tChain r r' ta tb tc) (eChain f f' fa fb fc) := by
  intro m ls G σ H Q hG hL ho
  refine ha.go hG hL ho fun w G1 m1 v H1 k1 g1 r1 l1 o1 => ?_
  refine hb.go g1 l1 o1 fun w2 G2 m2 v2 H2 k2 g2 r2 l2 o2 => ?_
  refine hr m2 G2 σ H2 _ w w2 v v2 g2 (r1.keep k2) r2 ?_
  cases e : f w w2 G2 with
  | stuck => rw [e] at o2; exact o2
  | exc x G3 => rw [e] at o2; exact o2
  | ok z G3 =>
    rw [e] at o2
    intro m3 v3 H3 k3 g3 r3
    cases r3 with
    | bl k =>
      refine ⟨k, rfl, ?_⟩
      cases k with
      | false => exact (Out.keep k3 o2) m3 _ H3 (.refl _ _) g3 (.bl false)
      | true => exact hc.go g3 (l2.keep k3) (Out.keep k3 o2) fun w4 G4 m4 v4 H4 k4 g4 r4 l4 o4 => hr' m4 G4 σ H4 Q w2 w4 v2 v4 g4 ((r2.keep k3).keep k4) r4 o4
    | _ => exact False.elim o2
theorem fe_chain {op op' : CmpOp} {r r' : R2} {f f' : OF} (ho : OpR X (compareOp op) r) (ho' : OpR X (compareOp op') r') (hr : ImpO T W0 r f) (hr' : ImpO T W0 r' f') (ha : FE T X W0 a fa) (hb : FE T X W0 b fb) (hc : FE T X W0 c fc)
    (hm : lastMarks [op, op'] [b, c] = false := by rfl) : FE T X W0 (.Compare a [op, op'] [b, c] pos) (eChain f f' fa fb fc) := by
  obtain ⟨ta, ha, ia⟩ := ha
  obtain ⟨tb, hb, ib⟩ := hb
  obtain ⟨tc, hc, ic⟩ := hc
  exact ⟨_, pe_chain ho ho' ha hb hc hm, imp_chain hr hr' ia ib ic⟩
theorem ft_chain {op op' : CmpOp} {r r' : R2} {f f' : OF} (ho : OpR X (compareOp op) r) (ho' : OpR X (compareOp op') r') (hr : ImpO T W0 r f) (hr' : ImpO T W0 r' f') (ha : FE T X W0 a fa) (hb : FE T X W0 b fb) (hc : FE T X W0 c fc)
    (hm : lastMarks [op, op'] [b, c] = false := by rfl) : FT T X W0 (.Compare a [op, op'] [b, c] pos) (eChain f f' fa fb fc) := by
  obtain ⟨ta, ha, ia⟩ := ha
  obtain ⟨tb, hb, ib⟩ := hb
  obtain ⟨tc, hc, ic⟩ := hc
  exact ⟨_, pt_chain ho ho' ha hb hc hm, impT_of (imp_chain hr hr' ia ib ic)⟩

/-! ### tests -/
theorem ft_val {e : Expr} {f : EF} (h : FE T X W0 e f) (he : ∀ whole, isTrue e X.env whole = (do let v ← whole; standAt e.pos; holding [v] (truthy v)) := by intro _; rfl) : FT T X W0 e f := by
  obtain ⟨t, h, i⟩ := h
  exact ⟨_, pt_val h he, fun m ls G σ H Q hG hL ho => i m ls G σ H _ hG hL ho⟩
@[simp] def eNot (fa : EF) : EF := fun ls G => (fa ls G).bind fun w G1 => asB w fun b => .ok (.bl (!b)) G1
@[simp] def eAnd (fa fb : EF) : EF := fun ls G => (fa ls G).bind fun w G1 => asB w fun b => if b then fb ls G1 else .ok (.bl false) G1
@[simp] def eOr (fa fb : EF) : EF := fun ls G => (fa ls G).bind fun w G1 => asB w fun b => if b then .ok (.bl true) G1 else fb ls G1
@[simp] def eIf (fc fa fb : EF) : EF := fun ls G => (fc ls G).bind fun w G1 => asB w fun b => if b then fa ls G1 else fb ls G1
theorem ft_not (h : FT T X W0 a fa) : FT T X W0 (.UnaryOp .Not a pos) (eNot fa) := by
  obtain ⟨t, h, i⟩ := h
  refine ⟨_, pt_not h, fun m ls G σ H Q hG hL ho => ?_⟩
  refine i.go hG hL ho fun b G1 m1 H1 k1 g1 l1 o1 => ?_
  obtain ⟨b', e, q⟩ := o1 m1 _ H1 (.refl _ _) g1 (.bl _)
  cases e
  exact q
theorem fe_not (h : FE T X W0 a fa) : FE T X W0 (.UnaryOp .Not a pos) (eNot fa) := by
  obtain ⟨t, h, i⟩ := h
  refine ⟨_, pe_not h, fun m ls G σ H Q hG hL ho => ?_⟩
  refine i.go hG hL ho fun w G1 m1 v H1 k1 g1 r1 l1 o1 => ?_
  cases r1 with
  | bl b => exact ⟨b, rfl, o1 m1 _ H1 (.refl _ _) g1 (.bl _)⟩
  | _ => exact False.elim o1
variable {rest : List Expr}
theorem fw_and1 (h : FT T X W0 a fa) : FW T X W0 (.BoolOp .And [a] pos) fa := let ⟨t, h, i⟩ := h; ⟨t, pw_and1 h, i⟩
theorem fw_or1 (h : FT T X W0 a fa) : FW T X W0 (.BoolOp .Or [a] pos) fa := let ⟨t, h, i⟩ := h; ⟨t, pw_or1 h, i⟩
theorem fw_and (ha : FT T X W0 a fa) (hb : FW T X W0 (.BoolOp .And (b :: rest) pos) fb) : FW T X W0 (.BoolOp .And (a :: b :: rest) pos) (eAnd fa fb) := by
  obtain ⟨ta, ha, ia⟩ := ha
  obtain ⟨tb, hb, ib⟩ := hb
  refine ⟨_, pw_and ha hb, fun m ls G σ H Q hG hL ho => ?_⟩
  refine ia.go hG hL ho fun b G1 m1 H1 k1 g1 l1 o1 => ?_
  cases b with
  | true => exact ib m1 ls G1 σ H1 Q g1 l1 o1
  | false =>
    obtain ⟨b', e, q⟩ := o1 m1 _ H1 (.refl _ _) g1 (.bl false)
    cases e
    exact q
theorem fw_or (ha : FT T X W0 a fa) (hb : FW T X W0 (.BoolOp .Or (b :: rest) pos) fb) : FW T X W0 (.BoolOp .Or (a :: b :: rest) pos) (eOr fa fb) := by
  obtain ⟨ta, ha, ia⟩ := ha
  obtain ⟨tb, hb, ib⟩ := hb
  refine ⟨_, pw_or ha hb, fun m ls G σ H Q hG hL ho => ?_⟩
  refine ia.go hG hL ho fun b G1 m1 H1 k1 g1 l1 o1 => ?_
  cases b with
  | false => exact ib m1 ls G1 σ H1 Q g1 l1 o1
  | true =>
    obtain ⟨b', e, q⟩ := o1 m1 _ H1 (.refl _ _) g1 (.bl true)
    cases e
    exact q
theorem ft_w {e : Expr} (h : FW T X W0 e fa) : FT T X W0 e fa := let ⟨t, h, i⟩ := h; ⟨t, h.pt, i⟩
theorem fe_one {op} (h : FE T X W0 a fa) : FE T X W0 (.BoolOp op [a] pos) fa := let ⟨t, h, i⟩ := h; ⟨t, pe_one h, i⟩
theorem fe_and (ha : FE T X W0 a fa) (hb : FE T X W0 (.BoolOp .And (b :: rest) pos) fb) : FE T X W0 (.BoolOp .And (a :: b :: rest) pos) (eAnd fa fb) := by
  obtain ⟨ta, ha, ia⟩ := ha
  obtain ⟨tb, hb, ib⟩ := hb
  refine ⟨_, pe_and ha hb, fun m ls G σ H Q hG hL ho => ?_⟩
  refine ia.go hG hL ho fun w G1 m1 v H1 k1 g1 r1 l1 o1 => ?_
  cases r1 with
  | bl b =>
    refine ⟨b, rfl, ?_⟩
    cases b with
    | true => exact ib m1 ls G1 σ H1 Q g1 l1 o1
    | false => exact o1 m1 _ H1 (.refl _ _) g1 (.bl false)
  | _ => exact False.elim o1
theorem fe_or (ha : FE T X W0 a fa) (hb : FE T X W0 (.BoolOp .Or (b :: rest) pos) fb) : FE T X W0 (.BoolOp .Or (a :: b :: rest) pos) (eOr fa fb) := by
  obtain ⟨ta, ha, ia⟩ := ha
  obtain ⟨tb, hb, ib⟩ := hb
  refine ⟨_, pe_or ha hb, fun m ls G σ H Q hG hL ho => ?_⟩
  refine ia.go hG hL ho fun w G1 m1 v H1 k1 g1 r1 l1 o1 => ?_
  cases r1 with
  | bl b =>
    refine ⟨b, rfl, ?_⟩
    cases b with
    | false => exact ib m1 ls G1 σ H1 Q g1 l1 o1
    | true => exact o1 m1 _ H1 (.refl _ _) g1 (.bl true)
  | _ => exact False.elim o1
theorem fe_if (hc : FT T X W0 c fc) (ha : FE T X W0 a fa) (hb : FE T X W0 b fb) : FE T X W0 (.IfExp c a b pos) (eIf fc fa fb) := by
  obtain ⟨tc, hc, ic⟩ := hc
  obtain ⟨ta, ha, ia⟩ := ha
  obtain ⟨tb, hb, ib⟩ := hb
  refine ⟨_, pe_ifExp hc ha hb, fun m ls G σ H Q hG hL ho => ?_⟩
  refine ic.go hG hL ho fun b G1 m1 H1 k1 g1 l1 o1 => ?_
  cases b with
  | true => exact ia m1 ls G1 σ H1 Q g1 l1 o1
  | false => exact ib m1 ls G1 σ H1 Q g1 l1 o1
end
end U

namespace U
open PySem
open L2

@[simp] def SZ : Nat := 16777216
theorem sz_eq : SZ = sizeLine := by decide +kernel

section
variable {T : Tx} {W0 : WX} {m : Mm} {G : Gs} {σ : St} {H : Hp} {Q : VK}
theorem Out.now {w : W} {v : V} (hG : RG T m G H) (h : Out T W0 m H σ Q (.ok w G)) (r : RW T m H w v) : Q v H := h m v H (.refl m H) hG r
theorem Out.newL {ws : List W} {vs : List V} {p : Addr} (hG : RG T m G H) (h : Out T W0 m H σ Q (.ok (.lst ws) G)) (r : RWs T m H ws vs) (hp : H p = none) : Q (.ref p) (upd H p (.lst vs)) :=
  h m _ _ (.new hG hp) (hG.new hp) (.lst (r.keep (.new hG hp)) (hG.free hp) upd_same)
theorem Out.newT {ws : List W} {vs : List V} {p : Addr} (hG : RG T m G H) (h : Out T W0 m H σ Q (.ok (.tup ws) G)) (r : RWs T m H ws vs) (hp : H p = none) : Q (.ref p) (upd H p (.tup vs)) :=
  h m _ _ (.new hG hp) (hG.new hp) (.tup (r.keep (.new hG hp)) (.inl ⟨hG.free hp, upd_same⟩))
/-- a new list that may change -/
theorem Out.newM {ws : List W} {vs : List V} {p : Addr} (hG : RG T m G H) (h : Out T W0 m H σ Q (.ok (.ref G.length) (G ++ [.lst ws]))) (r : RWs T m H ws vs) (hp : H p = none) : Q (.ref p) (upd H p (.lst vs)) := by
  have k : Keep m H (m.push p) (upd H p (.lst vs)) := Keep.push hG hp
  refine h (m.push p) _ _ k (hG.push hp ⟨vs, upd_same, r.keep k⟩) (.ref ?_)
  show (m.r ++ [p])[G.length]? = some p
  rw [← hG.len, List.getElem?_append_right (Nat.le_refl _), Nat.sub_self]
  rfl
end

/-! ### +, -, *, //, %, ** -/
def addW : OF
  | .int i, .int j, G => .ok (.int (i + j)) G
  | .str s, .str t, G => if s.length + t.length ≤ SZ then .ok (.str (s ++ t)) G else .stuck
  | .lst xs, .lst ys, G => if xs.length + ys.length ≤ SZ then .ok (.lst (xs ++ ys)) G else .stuck
  | .tup xs, .tup ys, G => if xs.length + ys.length ≤ SZ then .ok (.tup (xs ++ ys)) G else .stuck
  | _, _, _ => .stuck
@[simp] theorem addW_e1 : addW (.int i) (.int j) G = .ok (.int (i + j)) G := rfl
@[simp] theorem addW_e2 : addW (.str s) (.str t) G = if s.length + t.length ≤ SZ then .ok (.str (s ++ t)) G else .stuck := rfl
@[simp] theorem addW_e3 : addW (.lst xs) (.lst ys) G = if xs.length + ys.length ≤ SZ then .ok (.lst (xs ++ ys)) G else .stuck := rfl
@[simp] theorem addW_e4 : addW (.tup xs) (.tup ys) G = if xs.length + ys.length ≤ SZ then .ok (.tup (xs ++ ys)) G else .stuck := rfl
theorem str_app (s t : List Nat) : ((⟨s.toArray⟩ : Str) ++ (⟨t.toArray⟩ : Str)) = ⟨(s ++ t).toArray⟩ := by
  show (⟨s.toArray ++ t.toArray⟩ : Str) = _
  simp
theorem str_len (s : List Nat) : (⟨s.toArray⟩ : Str).length = s.length := by simp [Str.length]
def rAddU (K : PySem.W.Frag) : R2 := fun x y H Q => rI0 (fun i j => .int (i + j)) x y H Q ∨ (∃ i j, x = .str i ∧ y = .str j ∧ i.length + j.length ≤ sizeLine ∧ Q (.str (i ++ j)) H) ∨ rCat x y H Q ∨ rCatA K x y H Q
theorem or_addU {X : Cx} : OpR X (binaryOp .Add) (rAddU X.K) := op_add.or (op_add_str.or (op_cat.or op_catA))
theorem io_add {T : Tx} {W0 : WX} : ImpO T W0 (rAddU T.K) addW := by
  intro m G σ H Q a b x y hG ra rb ho
  cases ra with
  | int i => cases rb with
    | int j => exact .inl ⟨i, j, rfl, rfl, ho.now hG (.int _)⟩
    | _ => exact False.elim ho
  | str s => cases rb with
    | str t =>
      simp only [addW] at ho
      split at ho
      · rename_i h
        refine .inr (.inl ⟨_, _, rfl, rfl, by rw [str_len, str_len, ← sz_eq]; exact h, ?_⟩)
        rw [str_app]
        exact ho.now hG (.str _)
      · exact False.elim ho
    | _ => exact False.elim ho
  | lst ra na ea => cases rb with
    | lst rb nb eb =>
      simp only [addW] at ho
      split at ho
      · rename_i h
        exact .inr (.inr (.inl ⟨_, _, _, _, rfl, rfl, ea, eb, by rw [← ra.length, ← rb.length, ← sz_eq]; exact h, fun p hp => ho.newL hG (ra.append rb) hp⟩))
      · exact False.elim ho
    | _ => exact False.elim ho
  | tup ra ea => cases rb with
    | tup rb eb =>
      simp only [addW] at ho
      split at ho
      · rename_i h
        refine .inr (.inr (.inr ⟨_, _, _, _, rfl, rfl, ea.sq, eb.sq, by rw [← ra.length, ← rb.length, ← sz_eq]; exact h, fun e => ?_, fun _ e => ?_, fun _ _ p hp => ho.newT hG (ra.append rb) hp⟩))
        · subst e
          cases ra
          exact ho.now hG (.tup rb eb)
        · subst e
          cases rb
          rw [List.append_nil] at ho
          exact ho.now hG (.tup ra ea)
      · exact False.elim ho
    | _ => exact False.elim ho
  | _ => exact False.elim ho
def subW : OF
  | .int i, .int j, G => .ok (.int (i - j)) G
  | _, _, _ => .stuck
@[simp] theorem subW_e1 : subW (.int i) (.int j) G = .ok (.int (i - j)) G := rfl
theorem io_sub {T : Tx} {W0 : WX} : ImpO T W0 (rI0 fun i j => .int (i - j)) subW := by
  intro m G σ H Q a b x y hG ra rb ho
  cases ra with
  | int i => cases rb with
    | int j => exact ⟨i, j, rfl, rfl, ho.now hG (.int _)⟩
    | _ => exact False.elim ho
  | _ => exact False.elim ho
def cMul (i j : Int) : Bool := i.natAbs.log2 + j.natAbs.log2 < 1000000
def mulW : OF
  | .int i, .int j, G => if cMul i j then .ok (.int (i * j)) G else .stuck
  | .lst xs, .int k, G => if k < 16777216 ∧ -16777216 < k ∧ xs.length * k.toNat ≤ SZ then .ok (.lst (List.replicate k.toNat xs).flatten) G else .stuck
  | _, _, _ => .stuck
@[simp] theorem mulW_e1 : mulW (.int i) (.int j) G = if cMul i j then .ok (.int (i * j)) G else .stuck := rfl
@[simp] theorem mulW_e2 : mulW (.lst xs) (.int k) G = if k < 16777216 ∧ -16777216 < k ∧ xs.length * k.toNat ≤ SZ then .ok (.lst (List.replicate k.toNat xs).flatten) G else .stuck := rfl
def rMulU : R2 := fun x y H Q => rI CMulW (fun i j => .int (i * j)) x y H Q ∨ rRep x y H Q
theorem or_mulU {X : Cx} : OpR X (binaryOp .Mult) rMulU := op_mulW.or op_rep
theorem RWs.rep {T : Tx} {m : Mm} {H : Hp} {ws : List W} {vs : List V} (r : RWs T m H ws vs) : ∀ n : Nat, RWs T m H (List.replicate n ws).flatten (List.replicate n vs).flatten
  | 0 => .nil
  | n + 1 => by
    rw [List.replicate_succ, List.replicate_succ, List.flatten_cons, List.flatten_cons]
    exact r.append (RWs.rep r n)
theorem io_mul {T : Tx} {W0 : WX} : ImpO T W0 rMulU mulW := by
  intro m G σ H Q a b x y hG ra rb ho
  cases ra with
  | int i => cases rb with
    | int j =>
      simp only [mulW] at ho
      split at ho
      · rename_i h
        exact .inl ⟨i, j, rfl, rfl, (show i.natAbs.log2 + j.natAbs.log2 < 1000000 from of_decide_eq_true h), ho.now hG (.int _)⟩
      · exact False.elim ho
    | _ => exact False.elim ho
  | lst ra na ea => cases rb with
    | int k =>
      simp only [mulW] at ho
      split at ho
      · rename_i h
        refine .inr ⟨_, k, _, rfl, rfl, ea, by have := h.2.1; omega, by have := h.1; omega, by rw [← ra.length, ← sz_eq]; exact h.2.2, fun p hp => ho.newL hG (ra.rep _) hp⟩
      · exact False.elim ho
    | _ => exact False.elim ho
  | _ => exact False.elim ho
def cDiv (j : Int) : Bool := decide (0 < j) && decide (j.natAbs.log2 < 9000)
def divW : OF
  | .int i, .int j, G => if cDiv j then .ok (.int (i / j)) G else .stuck
  | _, _, _ => .stuck
@[simp] theorem divW_e1 : divW (.int i) (.int j) G = if cDiv j then .ok (.int (i / j)) G else .stuck := rfl
theorem io_div {T : Tx} {W0 : WX} : ImpO T W0 (rI CDivW fun i j => .int (i / j)) divW := by
  intro m G σ H Q a b x y hG ra rb ho
  cases ra with
  | int i => cases rb with
    | int j =>
      simp only [divW] at ho
      split at ho
      · rename_i h
        unfold cDiv at h
        rw [Bool.and_eq_true] at h
        exact ⟨i, j, rfl, rfl, ⟨of_decide_eq_true h.1, of_decide_eq_true h.2⟩, ho.now hG (.int _)⟩
      · exact False.elim ho
    | _ => exact False.elim ho
  | _ => exact False.elim ho
def modW : OF
  | .int i, .int j, G => if 0 < j then .ok (.int (i % j)) G else .stuck
  | _, _, _ => .stuck
@[simp] theorem modW_e1 : modW (.int i) (.int j) G = if 0 < j then .ok (.int (i % j)) G else .stuck := rfl
theorem io_mod {T : Tx} {W0 : WX} : ImpO T W0 (rI (fun _ j => 0 < j) fun i j => .int (i % j)) modW := by
  intro m G σ H Q a b x y hG ra rb ho
  cases ra with
  | int i => cases rb with
    | int j =>
      simp only [modW] at ho
      split at ho
      · rename_i h
        exact ⟨i, j, rfl, rfl, h, ho.now hG (.int _)⟩
      · exact False.elim ho
    | _ => exact False.elim ho
  | _ => exact False.elim ho
def cPow (i j : Int) : Bool := decide (0 ≤ j) && decide (j ≤ 1000000) && decide (i.natAbs < 2 ^ 64)
def powW : OF
  | .int i, .int j, G => if cPow i j then .ok (.int (i ^ j.toNat)) G else .stuck
  | _, _, _ => .stuck
@[simp] theorem powW_e1 : powW (.int i) (.int j) G = if cPow i j then .ok (.int (i ^ j.toNat)) G else .stuck := rfl
theorem io_pow {T : Tx} {W0 : WX} : ImpO T W0 (rI CPow fun i j => .int (i ^ j.toNat)) powW := by
  intro m G σ H Q a b x y hG ra rb ho
  cases ra with
  | int i => cases rb with
    | int j =>
      simp only [powW] at ho
      split at ho
      · rename_i h
        unfold cPow at h
        rw [Bool.and_eq_true, Bool.and_eq_true] at h
        exact ⟨i, j, rfl, rfl, ⟨of_decide_eq_true h.1.1, of_decide_eq_true h.1.2, of_decide_eq_true h.2⟩, ho.now hG (.int _)⟩
      · exact False.elim ho
    | _ => exact False.elim ho
  | _ => exact False.elim ho

/-! ### order -/
def cmpI (p : Int → Int → Bool) (q : List Nat → List Nat → Bool) : OF
  | .int i, .int j, G => .ok (.bl (p i j)) G
  | .str s, .str t, G => .ok (.bl (q s t)) G
  | _, _, _ => .stuck
@[simp] theorem cmpI_e1 : cmpI p q (.int i) (.int j) G = .ok (.bl (p i j)) G := rfl
@[simp] theorem cmpI_e2 : cmpI p q (.str s) (.str t) G = .ok (.bl (q s t)) G := rfl
def rCmpU (p : Int → Int → Bool) (q : List Nat → List Nat → Bool) : R2 := fun x y H Q => rI0 (fun i j => .bl (p i j)) x y H Q ∨ ∃ i j, x = .str i ∧ y = .str j ∧ Q (.bl (q i.cps.toList j.cps.toList)) H
theorem io_cmp {T : Tx} {W0 : WX} {p : Int → Int → Bool} {q : List Nat → List Nat → Bool} : ImpO T W0 (rCmpU p q) (cmpI p q) := by
  intro m G σ H Q a b x y hG ra rb ho
  cases ra with
  | int i => cases rb with
    | int j => exact .inl ⟨i, j, rfl, rfl, ho.now hG (.bl _)⟩
    | _ => exact False.elim ho
  | str s => cases rb with
    | str t => exact .inr ⟨_, _, rfl, rfl, by simpa using ho.now hG (.bl _)⟩
    | _ => exact False.elim ho
  | _ => exact False.elim ho
@[simp] def ltW : OF := cmpI (fun i j => decide (i < j)) (fun s t => decide (s < t))
@[simp] def leW : OF := cmpI (fun i j => decide (i ≤ j)) (fun s t => !decide (t < s))
@[simp] def gtW : OF := cmpI (fun i j => decide (j < i)) (fun s t => decide (t < s))
@[simp] def geW : OF := cmpI (fun i j => decide (j ≤ i)) (fun s t => !decide (s < t))
section
variable {X : Cx}
theorem or_lt : OpR X (compareOp .Lt) (rCmpU (fun i j => decide (i < j)) (fun s t => decide (s < t))) := op_lt.or op_lt_str
theorem or_le : OpR X (compareOp .LtE) (rCmpU (fun i j => decide (i ≤ j)) (fun s t => !decide (t < s))) := op_le.or op_le_str
theorem or_gt : OpR X (compareOp .Gt) (rCmpU (fun i j => decide (j < i)) (fun s t => decide (t < s))) := op_gt.or op_gt_str
theorem or_ge : OpR X (compareOp .GtE) (rCmpU (fun i j => decide (j ≤ i)) (fun s t => !decide (s < t))) := op_ge.or op_ge_str
end

/-! ### equality -/
def eqS : W → W → Option Bool
  | .non, .non => some true | .non, .int _ => some false | .int _, .non => some false | .non, .bl _ => some false | .bl _, .non => some false | .non, .str _ => some false | .str _, .non => some false
  | .int i, .int j => some (decide (i = j)) | .bl i, .bl j => some (decide (i = j)) | .str s, .str t => some (decide (s = t))
  | .int _, .str _ => some false | .str _, .int _ => some false | .bl _, .str _ => some false | .str _, .bl _ => some false
  | _, _ => none
@[simp] theorem eqS_e1 : eqS (.non) (.non) = some true := rfl
@[simp] theorem eqS_e2 : eqS (.non) (.int x1) = some false := rfl
@[simp] theorem eqS_e3 : eqS (.int x1) (.non) = some false := rfl
@[simp] theorem eqS_e4 : eqS (.non) (.bl x1) = some false := rfl
@[simp] theorem eqS_e5 : eqS (.bl x1) (.non) = some false := rfl
@[simp] theorem eqS_e6 : eqS (.non) (.str x1) = some false := rfl
@[simp] theorem eqS_e7 : eqS (.str x1) (.non) = some false := rfl
@[simp] theorem eqS_e8 : eqS (.int i) (.int j) = some (decide (i = j)) := rfl
@[simp] theorem eqS_e9 : eqS (.bl i) (.bl j) = some (decide (i = j)) := rfl
@[simp] theorem eqS_e10 : eqS (.str s) (.str t) = some (decide (s = t)) := rfl
@[simp] theorem eqS_e11 : eqS (.int x1) (.str x2) = some false := rfl
@[simp] theorem eqS_e12 : eqS (.str x1) (.int x2) = some false := rfl
@[simp] theorem eqS_e13 : eqS (.bl x1) (.str x2) = some false := rfl
@[simp] theorem eqS_e14 : eqS (.str x1) (.bl x2) = some false := rfl
mutual
def toD : W → Option PyData
  | .non => some .none
  | .bl b => some (.bool b)
  | .int i => some (.int i)
  | .str s => some (.str ⟨s.toArray⟩)
  | .tup xs => (toDs xs).map .tuple
  | .lst xs => (toDs xs).map .list
  | _ => none
def toDs : List W → Option (List PyData)
  | [] => some []
  | x :: r => match toD x, toDs r with
    | some d, some ds => some (d :: ds)
    | _, _ => none
end
@[simp] def eqB (a b : W) : Option Bool := match eqS a b with
  | some r => some r
  | none => match toD a, toD b with
    | some d, some e => if SeqAt.shaped d && SeqAt.shaped e then some (PyData.eqv d e) else none
    | _, _ => none
@[simp] def eqW : OF := fun a b G => match eqB a b with
  | some r => .ok (.bl r) G
  | none => .stuck
@[simp] def neW : OF := fun a b G => match eqB a b with
  | some r => .ok (.bl (!r)) G
  | none => .stuck
section
variable {T : Tx} {m : Mm} {H : Hp}
theorem eqS_ok {a b : W} {x y : V} {r : Bool} (ra : RW T m H a x) (rb : RW T m H b y) (h : eqS a b = some r) : scal x y = true ∧ decide (x = y) = r := by
  cases ra <;> cases rb <;> simp only [eqS] at h <;> first
    | (cases h; done)
    | (cases h; exact ⟨rfl, by simp⟩)
    | (injection h with h; subst h; exact ⟨rfl, by simp⟩)
    | (injection h with h; subst h; refine ⟨rfl, ?_⟩; rw [Bool.eq_iff_iff]; simp)
mutual
theorem toD_ok : ∀ {w : W} {v : V} {d : PyData}, RW T m H w v → toD w = some d → Dp T.K H v d
  | _, _, _, .non, h => by simp only [toD] at h; cases h; exact .non
  | _, _, _, .bl b, h => by simp only [toD] at h; cases h; exact .bl b
  | _, _, _, .int b, h => by simp only [toD] at h; cases h; exact .int b
  | _, _, _, .str b, h => by simp only [toD] at h; cases h; exact .str _
  | .tup ws, _, _, .tup r f, h => by
    simp only [toD] at h
    cases e : toDs ws with
    | none => rw [e] at h; cases h
    | some ds => rw [e] at h; cases h; exact .tup f.sq (toDs_ok r e)
  | .lst ws, _, _, .lst r n f, h => by
    simp only [toD] at h
    cases e : toDs ws with
    | none => rw [e] at h; cases h
    | some ds => rw [e] at h; cases h; exact .lst (SqL.of f) (toDs_ok r e)
  | _, _, _, .fz _ _, h => by simp only [toD] at h; cases h
  | _, _, _, .dic _ _ _, h => by simp only [toD] at h; cases h
  | _, _, _, .dit _ _ _ _, h => by simp only [toD] at h; cases h
  | _, _, _, .obj _ _ _ _ _, h => by simp only [toD] at h; cases h
  | _, _, _, .ref _, h => by simp only [toD] at h; cases h
  | _, _, _, .ty _, h => by simp only [toD] at h; cases h
  | _, _, _, .cls _, h => by simp only [toD] at h; cases h
theorem toDs_ok : ∀ {ws : List W} {vs : List V} {ds : List PyData}, RWs T m H ws vs → toDs ws = some ds → DpAll T.K H vs ds
  | _, _, _, .nil, h => by simp only [toDs] at h; cases h; exact .nil
  | w :: ws, _, _, .cons r t, h => by
    simp only [toDs] at h
    cases e1 : toD w with
    | none => rw [e1] at h; cases h
    | some d =>
      cases e2 : toDs ws with
      | none => rw [e1, e2] at h; cases h
      | some ds => rw [e1, e2] at h; cases h; exact .cons (toD_ok r e1) (toDs_ok t e2)
end
theorem eqB_ok {a b : W} {x y : V} {r : Bool} (ra : RW T m H a x) (rb : RW T m H b y) (h : eqB a b = some r) :
    (scal x y = true ∧ decide (x = y) = r) ∨ ∃ d e, Dp T.K H x d ∧ Dp T.K H y e ∧ SeqAt.shaped d = true ∧ SeqAt.shaped e = true ∧ PyData.eqv d e = r := by
  unfold eqB at h
  split at h
  · rename_i q e
    cases h
    exact .inl (eqS_ok ra rb e)
  · split at h
    · rename_i d e h1 h2
      split at h
      · rename_i hs
        rw [Bool.and_eq_true] at hs
        cases h
        exact .inr ⟨d, e, toD_ok ra h1, toD_ok rb h2, hs.1, hs.2, rfl⟩
      · cases h
    · cases h
end
def rEqU (K : PySem.W.Frag) : R2 := fun x y H Q => rEq x y H Q ∨ rEqD K x y H Q
def rNeU (K : PySem.W.Frag) : R2 := fun x y H Q => rNe x y H Q ∨ rNeD K x y H Q
theorem or_eqU {X : Cx} (hu : X.A.units + 64 < cLine) : OpR X (compareOp .Eq) (rEqU X.K) := op_eq.or (op_eqD hu)
theorem or_neU {X : Cx} (hu : X.A.units + 64 < cLine) : OpR X (compareOp .NotEq) (rNeU X.K) := op_ne.or (op_neD hu)
theorem io_eq {T : Tx} {W0 : WX} : ImpO T W0 (rEqU T.K) eqW := by
  intro m G σ H Q a b x y hG ra rb ho
  unfold eqW at ho
  split at ho
  · rename_i r e
    have q := ho.now hG (.bl r)
    rcases eqB_ok ra rb e with ⟨h1, h2⟩ | ⟨d, e, h1, h2, h3, h4, h5⟩
    · exact .inl ⟨h1, by rw [h2]; exact q⟩
    · exact .inr ⟨d, e, h1, h2, h3, h4, by rw [h5]; exact q⟩
  · exact False.elim ho
theorem io_ne {T : Tx} {W0 : WX} : ImpO T W0 (rNeU T.K) neW := by
  intro m G σ H Q a b x y hG ra rb ho
  unfold neW at ho
  split at ho
  · rename_i r e
    have q := ho.now hG (.bl (!r))
    rcases eqB_ok ra rb e with ⟨h1, h2⟩ | ⟨d, e, h1, h2, h3, h4, h5⟩
    · exact .inl ⟨h1, by rw [h2]; exact q⟩
    · exact .inr ⟨d, e, h1, h2, h3, h4, by rw [h5]; exact q⟩
  · exact False.elim ho

/-! ### in, is -/
def isFlat : W → Bool
  | .non => true | .bl _ => true | .int _ => true | .str _ => true | _ => false
@[simp] theorem isFlat_e1 : isFlat (.non) = true := rfl
@[simp] theorem isFlat_e2 : isFlat (.bl x1) = true := rfl
@[simp] theorem isFlat_e3 : isFlat (.int x1) = true := rfl
@[simp] theorem isFlat_e4 : isFlat (.str x1) = true := rfl
@[simp] theorem isFlat_f0 : isFlat (.tup x) = false := rfl
@[simp] theorem isFlat_f1 : isFlat (.lst x) = false := rfl
@[simp] theorem isFlat_f2 : isFlat (.fz x) = false := rfl
@[simp] theorem isFlat_f3 : isFlat (.dic x) = false := rfl
@[simp] theorem isFlat_f4 : isFlat (.obj x y) = false := rfl
@[simp] theorem isFlat_f5 : isFlat (.ref x) = false := rfl
@[simp] theorem isFlat_f6 : isFlat (.ty x) = false := rfl
@[simp] theorem isFlat_f7 : isFlat (.cls x) = false := rfl
def eqF : W → W → Bool
  | .non, .non => true
  | .bl a, .bl b => a == b
  | .bl a, .int b => (if a then 1 else 0) == b
  | .int a, .bl b => a == (if b then 1 else 0)
  | .int a, .int b => a == b
  | .str a, .str b => a == b
  | _, _ => false
@[simp] theorem eqF_e1 : eqF (.non) (.non) = (true) := rfl
@[simp] theorem eqF_e2 : eqF (.bl a) (.bl b) = (a == b) := rfl
@[simp] theorem eqF_e3 : eqF (.bl a) (.int b) = ((if a then 1 else 0) == b) := rfl
@[simp] theorem eqF_e4 : eqF (.int a) (.bl b) = (a == (if b then 1 else 0)) := rfl
@[simp] theorem eqF_e5 : eqF (.int a) (.int b) = (a == b) := rfl
@[simp] theorem eqF_e6 : eqF (.str a) (.str b) = (a == b) := rfl
def inB (a b : W) : Option Bool := match b with
  | .str s => match a with
    | .str [c] => some (decide (c ∈ s))
    | _ => none
  | .lst xs => if isFlat a && xs.all isFlat then some (xs.any fun y => eqF y a) else none
  | .tup xs => if isFlat a && xs.all isFlat then some (xs.any fun y => eqF y a) else none
  | _ => none
@[simp] theorem inB_str (c : Nat) (s : List Nat) : inB (.str [c]) (.str s) = some (decide (c ∈ s)) := rfl
@[simp] theorem inB_lst (a : W) (xs : List W) : inB a (.lst xs) = if isFlat a && xs.all isFlat then some (xs.any fun y => eqF y a) else none := rfl
@[simp] theorem inB_tup (a : W) (xs : List W) : inB a (.tup xs) = if isFlat a && xs.all isFlat then some (xs.any fun y => eqF y a) else none := rfl
@[simp] def inW : OF := fun a b G => match inB a b with
  | some r => .ok (.bl r) G
  | none => .stuck
@[simp] def ninW : OF := fun a b G => match inB a b with
  | some r => .ok (.bl (!r)) G
  | none => .stuck
section
variable {T : Tx} {m : Mm} {H : Hp}
theorem flat_ok {w : W} {v : V} (r : RW T m H w v) (h : isFlat w = true) : flatV v = true := by
  cases r <;> first | rfl | cases h
theorem flat_all : ∀ {ws : List W} {vs : List V}, RWs T m H ws vs → ws.all isFlat = true → vs.all flatV = true
  | _, _, .nil, _ => rfl
  | _, _, .cons r t, h => by
    rw [List.all_cons, Bool.and_eq_true] at h ⊢
    exact ⟨flat_ok r h.1, flat_all t h.2⟩
theorem eqF_ok {a b : W} {x y : V} (ra : RW T m H a x) (rb : RW T m H b y) (fa : isFlat a = true) (fb : isFlat b = true) : eqV x y = eqF a b := by
  cases ra <;> first
    | (cases fa; done)
    | (cases rb <;> first
        | (cases fb; done)
        | rfl
        | (simp only [eqV, eqF]; rw [Bool.eq_iff_iff]; simp))
theorem inF_ok {a : W} {x : V} (ra : RW T m H a x) (fa : isFlat a = true) : ∀ {ws : List W} {vs : List V}, RWs T m H ws vs → ws.all isFlat = true → inV x vs = ws.any fun y => eqF y a
  | _, _, .nil, _ => rfl
  | _, _, .cons r t, h => by
    rw [List.all_cons, Bool.and_eq_true] at h
    have e := inF_ok ra fa t h.2
    unfold inV at e ⊢
    rw [List.any_cons, List.any_cons, e, eqF_ok r ra h.1 fa]
def rInU (K : PySem.W.Frag) (neg : Bool) : R2 := fun x y H Q => rIn K neg x y H Q ∨ ∃ (c : Nat) (z : Str), x = .str ⟨#[c]⟩ ∧ y = .str z ∧ Q (.bl (if neg then !decide (c ∈ z.cps.toList) else decide (c ∈ z.cps.toList))) H
theorem or_inU {X : Cx} : OpR X (compareOp .In) (rInU X.K false) := op_in_seq.or op_in_sign
theorem or_ninU {X : Cx} : OpR X (compareOp .NotIn) (rInU X.K true) := op_notIn_seq.or op_notIn_sign
theorem inB_ok {neg : Bool} {a b : W} {x y : V} {r : Bool} {Q : VK} (ra : RW T m H a x) (rb : RW T m H b y) (h : inB a b = some r) (q : Q (.bl (if neg then !r else r)) H) : rInU T.K neg x y H Q := by
  cases rb with
  | str s =>
    unfold inB at h
    cases ra with
    | str t =>
      match t, h with
      | [c], h => cases h; exact .inr ⟨c, _, rfl, rfl, by simpa using q⟩
    | _ => cases h
  | lst rb nb eb =>
    unfold inB at h
    simp only at h
    split at h
    · rename_i hf
      rw [Bool.and_eq_true] at hf
      cases h
      exact .inl ⟨_, _, rfl, .inl (SqL.of eb), flat_ok ra hf.1, flat_all rb hf.2, by rw [inF_ok ra hf.1 rb hf.2]; exact q⟩
    · cases h
  | tup rb eb =>
    unfold inB at h
    simp only at h
    split at h
    · rename_i hf
      rw [Bool.and_eq_true] at hf
      cases h
      exact .inl ⟨_, _, rfl, .inr eb.sq, flat_ok ra hf.1, flat_all rb hf.2, by rw [inF_ok ra hf.1 rb hf.2]; exact q⟩
    · cases h
  | _ => cases h
end
theorem io_in {T : Tx} {W0 : WX} : ImpO T W0 (rInU T.K false) inW := by
  intro m G σ H Q a b x y hG ra rb ho
  unfold inW at ho
  split at ho
  · rename_i r e
    exact inB_ok ra rb e (ho.now hG (.bl r))
  · exact False.elim ho
theorem io_nin {T : Tx} {W0 : WX} : ImpO T W0 (rInU T.K true) ninW := by
  intro m G σ H Q a b x y hG ra rb ho
  unfold ninW at ho
  split at ho
  · rename_i r e
    exact inB_ok ra rb e (ho.now hG (.bl (!r)))
  · exact False.elim ho
def isNon : W → Bool
  | .non => true
  | _ => false
@[simp] theorem isNon_e1 : isNon (.non) = true := rfl
@[simp] theorem isNon_f0 : isNon (.bl x) = false := rfl
@[simp] theorem isNon_f1 : isNon (.int x) = false := rfl
@[simp] theorem isNon_f2 : isNon (.str x) = false := rfl
@[simp] theorem isNon_f3 : isNon (.tup x) = false := rfl
@[simp] theorem isNon_f4 : isNon (.lst x) = false := rfl
@[simp] theorem isNon_f5 : isNon (.fz x) = false := rfl
@[simp] theorem isNon_f6 : isNon (.dic x) = false := rfl
@[simp] theorem isNon_f7 : isNon (.obj x y) = false := rfl
@[simp] theorem isNon_f8 : isNon (.ref x) = false := rfl
@[simp] theorem isNon_f9 : isNon (.ty x) = false := rfl
@[simp] theorem isNon_f10 : isNon (.cls x) = false := rfl
def isW : OF
  | a, .non, G => .ok (.bl (isNon a)) G
  | _, _, _ => .stuck
@[simp] theorem isW_e1 : isW a (.non) G = .ok (.bl (isNon a)) G := rfl
def isnW : OF
  | a, .non, G => .ok (.bl (!isNon a)) G
  | _, _, _ => .stuck
@[simp] theorem isnW_e1 : isnW a (.non) G = .ok (.bl (!isNon a)) G := rfl
theorem isNon_ok {T : Tx} {m : Mm} {H : Hp} {a : W} {x : V} (r : RW T m H a x) : decide (x = V.non) = isNon a := by
  cases r <;> first | rfl | (simp [isNon])
theorem io_is {T : Tx} {W0 : WX} : ImpO T W0 (fun x y H Q => y = .non ∧ Q (.bl (decide (x = .non))) H) isW := by
  intro m G σ H Q a b x y hG ra rb ho
  cases rb with
  | non => exact ⟨rfl, by rw [isNon_ok ra]; exact ho.now hG (.bl _)⟩
  | _ => exact False.elim ho
theorem io_isn {T : Tx} {W0 : WX} : ImpO T W0 (fun x y H Q => y = .non ∧ Q (.bl (!decide (x = .non))) H) isnW := by
  intro m G σ H Q a b x y hG ra rb ho
  cases rb with
  | non => exact ⟨rfl, by rw [isNon_ok ra]; exact ho.now hG (.bl _)⟩
  | _ => exact False.elim ho
/-- -a -/
@[simp] def eNeg (fa : EF) : EF := fun ls G => (fa ls G).bind fun w G1 => match w with
  | .int i => .ok (.int (-i)) G1
  | _ => .stuck
theorem fe_neg {T : Tx} {X : Cx} {W0 : WX} {a : Expr} {fa : EF} {pos : Pos} (h : FE T X W0 a fa) : FE T X W0 (.UnaryOp .USub a pos) (eNeg fa) := by
  obtain ⟨t, h, i⟩ := h
  refine ⟨_, pe_un un_neg h, fun m ls G σ H Q hG hL ho => ?_⟩
  refine i.go hG hL ho fun w G1 m1 v H1 k1 g1 r1 l1 o1 => ?_
  cases r1 with
  | int i => exact ⟨i, rfl, o1.now g1 (.int _)⟩
  | _ => exact False.elim o1
end U

namespace U
open PySem
open L2

/-! ### targets -/
abbrev TF := W → SF
def OutG (T : Tx) (is : List Nat) (m : Mm) (H : Hp) (σ : St) (Q : St → Hp → Prop) : SRes → Prop
  | .nx ls' G' => ∀ m' σ' H', Keep m H m' H' → RG T m' G' H' → RL T m' H' ls' σ' → Chg is σ σ' → Q σ' H'
  | _ => False
def ImpG (T : Tx) (is : List Nat) (t : TG) (g : TF) : Prop :=
  ∀ (m : Mm) (ls : Ls) (G : Gs) (σ : St) (H : Hp) (w : W) (v : V) (Q : St → Hp → Prop), RG T m G H → RL T m H ls σ → RW T m H w v → OutG T is m H σ Q (g w ls G) → t v σ H Q
def ImpGs (T : Tx) (is : List Nat) (t : TGs) (g : List W → SF) : Prop :=
  ∀ (m : Mm) (ls : Ls) (G : Gs) (σ : St) (H : Hp) (ws : List W) (vs : List V) (Q : St → Hp → Prop), RG T m G H → RL T m H ls σ → RWs T m H ws vs → OutG T is m H σ Q (g ws ls G) → t vs σ H Q
def FG (T : Tx) (X : Cx) (is : List Nat) (tg : Expr) (g : TF) : Prop := ∃ t, PG X tg t ∧ ImpG T is t g
def FGs (T : Tx) (X : Cx) (is : List Nat) (tgs : List Expr) (g : List W → SF) : Prop := ∃ t, PGs X tgs t ∧ ImpGs T is t g
theorem OutG.keep {T : Tx} {is js : List Nat} {m m1 : Mm} {H H1 : Hp} {σ σ1 : St} {Q : St → Hp → Prop} (k : Keep m H m1 H1) (c : Chg is σ σ1) (hj : ∀ j ∈ js, j ∈ is) {r : SRes} (h : OutG T is m H σ Q r) : OutG T js m1 H1 σ1 Q r := by
  cases r with
  | nx ls G => exact fun m' σ' H' k' g' l' c' => h m' σ' H' (k.trans k') g' l' (c.trans (c'.mono hj))
  | _ => exact h
@[simp] def gN (i : Nat) : TF := fun w ls G => .nx (ls.set i (some w)) G
@[simp] def gs0 : List W → SF := fun ws ls G => match ws with
  | [] => .nx ls G
  | _ => .stuck
@[simp] def gs1 (g : TF) (r : List W → SF) : List W → SF := fun ws ls G => match ws with
  | w :: ws => (match g w ls G with
    | .nx ls1 G1 => r ws ls1 G1
    | _ => .stuck)
  | [] => .stuck
@[simp] def gT (n : Nat) (g : List W → SF) : TF := fun w ls G => match w with
  | .tup ws => if ws.length = n then g ws ls G else .stuck
  | _ => .stuck
section
variable {T : Tx} {X : Cx} {W0 : WX} {pos : Pos}
theorem fg_name (i : Nat) {x : Str} (c : Ctx T X W0) (hi : X.N[i]? = some x := by rfl) (hx : Loc X.env.scope x := by first | exact Or.inl rfl | exact Or.inr rfl) (hf : X.fn x = true ∨ X.env.scope.names.lookup x = some .local := by first | exact .inl rfl | exact .inr rfl) : FG T X [i] (.Name x pos) (gN i) :=
  ⟨_, pg_name c.nd hi hx hf, fun m ls G σ H w v Q hG hL r ho => ho m _ H (.refl _ _) hG (hL.set i r) Chg.set⟩
theorem fgs_nil : FGs T X [] [] gs0 := ⟨_, pgs_nil, fun m ls G σ H ws vs Q hG hL r ho => by
  cases r with
  | nil => exact ⟨rfl, ho m σ H (.refl _ _) hG hL (.refl _ _)⟩
  | cons _ _ => exact False.elim ho⟩
theorem fgs_cons {is js : List Nat} {e : Expr} {es : List Expr} {g : TF} {r : List W → SF} (h : FG T X is e g) (hr : FGs T X js es r) (hs : (assignEach (e :: es) X.env).map (·.2) = assign e X.env :: (assignEach es X.env).map (·.2) := by rfl) : FGs T X (is ++ js) (e :: es) (gs1 g r) := by
  obtain ⟨t, h, i⟩ := h
  obtain ⟨u, hr, ir⟩ := hr
  refine ⟨_, pgs_cons h hr hs, fun m ls G σ H ws vs Q hG hL rw_ ho => ?_⟩
  cases rw_ with
  | nil => exact False.elim ho
  | cons r1 r2 =>
    refine ⟨_, _, rfl, i m ls G σ H _ _ _ hG hL r1 ?_⟩
    simp only [gs1] at ho
    cases e : g _ ls G with
    | nx ls1 G1 =>
      rw [e] at ho
      exact fun m1 σ1 H1 k1 g1 l1 c1 => ir m1 ls1 G1 σ1 H1 _ _ Q g1 l1 (r2.keep k1) (OutG.keep k1 (c1.mono fun j h => List.mem_append_left _ h) (fun j h => List.mem_append_right _ h) ho)
    | _ => rw [e] at ho; exact False.elim ho
theorem fg_tup {is : List Nat} {es : List Expr} {k n : Nat} {g : List W → SF} (c : Ctx T X W0) (h : FGs T X is es g) (hn : (assignEach es X.env).length = n := by rfl) (hst : (assignEach es X.env).findIdx? (·.1) = none := by rfl) : FG T X is (.Tuple es k pos) (gT n g) := by
  obtain ⟨t, h, i⟩ := h
  refine ⟨_, pg_tup c.calm h hn hst, fun m ls G σ H w v Q hG hL r ho => ?_⟩
  cases r with
  | tup r f =>
    simp only [gT] at ho
    split at ho
    · rename_i hl
      exact ⟨_, _, rfl, by rw [c.hK]; exact f.sq, by rw [← r.length]; exact hl, i m ls G σ H _ _ Q hG hL r ho⟩
    · exact False.elim ho
  | _ => exact False.elim ho
end

/-! ### statements -/
def SRes.seq : SRes → SF → SRes
  | .nx ls G, k => k ls G
  | .rt w G, _ => .rt w G
  | .bk ls G, _ => .bk ls G
  | .ct ls G, _ => .ct ls G
  | .exc w ls G, _ => .exc w ls G
  | .stuck, _ => .stuck
@[simp] theorem SRes_seq_e1 : SRes.seq (.nx ls G) k = k ls G := rfl
@[simp] theorem SRes_seq_e2 : SRes.seq (.rt w G) x1 = .rt w G := rfl
@[simp] theorem SRes_seq_e3 : SRes.seq (.bk ls G) x1 = .bk ls G := rfl
@[simp] theorem SRes_seq_e4 : SRes.seq (.ct ls G) x1 = .ct ls G := rfl
@[simp] theorem SRes_seq_e5 : SRes.seq (.exc w ls G) x1 = .exc w ls G := rfl
@[simp] theorem SRes_seq_e6 : SRes.seq (.stuck) x1 = .stuck := rfl
@[simp] def sNil : SF := fun ls G => .nx ls G
@[simp] def sSeq (g k : SF) : SF := fun ls G => (g ls G).seq k
@[simp] def sAsg (f : EF) (g : TF) : SF := fun ls G => (f ls G).sbind ls fun w G1 => g w ls G1
@[simp] def sExp (f : EF) : SF := fun ls G => (f ls G).sbind ls fun _ G1 => .nx ls G1
@[simp] def sRet (f : EF) : SF := fun ls G => (f ls G).sbind ls fun w G1 => .rt w G1
@[simp] def sRetN : SF := fun _ G => .rt .non G
@[simp] def sBrk : SF := fun ls G => .bk ls G
@[simp] def sCnt : SF := fun ls G => .ct ls G
@[simp] def sIf (c : EF) (a b : SF) : SF := fun ls G => (c ls G).sbind ls fun w G1 => asBS w fun k => if k then a ls G1 else b ls G1
@[simp] def sStuck : SF := fun _ _ => .stuck
theorem OutS.of_g {T : Tx} {W0 : WX} {is : List Nat} {m : Mm} {H : Hp} {σ : St} {D : Ends} {r : SRes} (h : OutS T W0 m H D r) (hn : ∃ ls G, r = .nx ls G) : OutG T is m H σ D.nx r := by
  obtain ⟨ls, G, rfl⟩ := hn
  exact fun m' σ' H' k g l _ => h m' σ' H' k g l
section
variable {T : Tx} {X : Cx} {W0 : WX} {pos : Pos} {e : Expr} {f : EF} {st : Stmt} {rest : List Stmt} {g k : SF}
theorem fss_nil : FSs T X W0 [] sNil := ⟨_, pss_nil, fun m ls G σ H D hG hL ho => ho m σ H (.refl _ _) hG hL⟩
theorem fss_cons (h : FS T X W0 st g) (hr : FSs T X W0 rest k) : FSs T X W0 (st :: rest) (sSeq g k) := by
  obtain ⟨t, h, i⟩ := h
  obtain ⟨u, hr, ir⟩ := hr
  refine ⟨_, pss_cons h hr, fun m ls G σ H D hG hL ho => ?_⟩
  refine i m ls G σ H { D with nx := u D } hG hL ?_
  simp only [sSeq] at ho
  cases e : g ls G with
  | nx ls1 G1 =>
    rw [e] at ho
    exact fun m1 σ1 H1 k1 g1 l1 => ir m1 ls1 G1 σ1 H1 D g1 l1 (OutS.keep k1 ho)
  | rt w G1 => rw [e] at ho; exact ho
  | bk ls1 G1 => rw [e] at ho; exact ho
  | ct ls1 G1 => rw [e] at ho; exact ho
  | exc w ls1 G1 => rw [e] at ho; exact ho
  | stuck => rw [e] at ho; exact ho
theorem fss_one (h : FS T X W0 st g) : FSs T X W0 [st] g := by
  obtain ⟨t, h, i⟩ := h
  exact ⟨_, pss_one h, i⟩
theorem fs_pass : FS T X W0 (.Pass pos) sNil := ⟨_, ps_pass, fun m ls G σ H D hG hL ho => ho m σ H (.refl _ _) hG hL⟩
theorem fs_brk : FS T X W0 (.Break pos) sBrk := ⟨_, ps_break, fun m ls G σ H D hG hL ho => ho m σ H (.refl _ _) hG hL⟩
theorem fs_cnt : FS T X W0 (.Continue pos) sCnt := ⟨_, ps_continue, fun m ls G σ H D hG hL ho => ho m σ H (.refl _ _) hG hL⟩
/-- a statement that is never reached -/
theorem fs_stuck : FS T X W0 st sStuck := ⟨fun _ _ _ => False, ⟨fun _ _ _ _ _ _ h => False.elim h⟩, fun _ _ _ _ _ _ _ _ ho => ho⟩
theorem fe_stuck : FE T X W0 e (fun _ _ => .stuck) := ⟨fun _ _ _ => False, ⟨fun _ _ _ _ _ _ h => False.elim h⟩, fun _ _ _ _ _ _ _ _ ho => ho⟩
theorem fs_exp (h : FE T X W0 e f) (hs : swapsWith e none pos.line X.env = pure false := by rfl) : FS T X W0 (.Expr e pos) (sExp f) := by
  obtain ⟨t, h, i⟩ := h
  refine ⟨_, ps_expr h hs, fun m ls G σ H D hG hL ho => ?_⟩
  exact i.goS hG hL ho fun w G1 m1 v H1 k1 g1 r1 l1 o1 => o1 m1 σ H1 (.refl _ _) g1 l1
theorem fs_ret (h : FE T X W0 e f) : FS T X W0 (.Return (some e) pos) (sRet f) := by
  obtain ⟨t, h, i⟩ := h
  refine ⟨_, ps_ret h, fun m ls G σ H D hG hL ho => ?_⟩
  exact i.goS hG hL ho fun w G1 m1 v H1 k1 g1 r1 l1 o1 => o1 m1 v H1 (.refl _ _) g1 r1
theorem fs_retN : FS T X W0 (.Return none pos) sRetN := ⟨_, ps_retN, fun m ls G σ H D hG hL ho => ho m _ H (.refl _ _) hG .non⟩
theorem fs_if {c : Expr} {a b : List Stmt} {fc : EF} {ga gb : SF} (hc : FT T X W0 c fc) (ha : FSs T X W0 a ga) (hb : FSs T X W0 b gb) : FS T X W0 (.If c a b pos) (sIf fc ga gb) := by
  obtain ⟨tc, hc, ic⟩ := hc
  obtain ⟨ta, ha, ia⟩ := ha
  obtain ⟨tb, hb, ib⟩ := hb
  refine ⟨_, ps_if hc ha hb, fun m ls G σ H D hG hL ho => ?_⟩
  refine ic.goS hG hL ho fun b G1 m1 H1 k1 g1 l1 o1 => ?_
  cases b with
  | true => exact ia m1 ls G1 σ H1 D g1 l1 o1
  | false => exact ib m1 ls G1 σ H1 D g1 l1 o1
theorem asg_ok {is : List Nat} {g : TF} {tg : TG} (hg : ImpG T is tg g) {m : Mm} {ls : Ls} {G : Gs} {σ : St} {H : Hp} {D : Ends} {w : W} {v : V} (hG : RG T m G H) (hL : RL T m H ls σ) (r : RW T m H w v) (hn : ∀ w ls G, (∃ ls' G', g w ls G = .nx ls' G') ∨ g w ls G = .stuck) (ho : OutS T W0 m H D (g w ls G)) : tg v σ H D.nx := by
  rcases hn w ls G with h | h
  · exact hg m ls G σ H w v D.nx hG hL r (OutS.of_g ho h)
  · rw [h] at ho; exact False.elim ho
/-- a target that only stores -/
def Sto (g : TF) : Prop := ∀ w ls G, (∃ ls' G', g w ls G = .nx ls' G') ∨ g w ls G = .stuck
def Stos (g : List W → SF) : Prop := ∀ w ls G, (∃ ls' G', g w ls G = .nx ls' G') ∨ g w ls G = .stuck
theorem sto_n {i : Nat} : Sto (gN i) := fun w ls G => .inl ⟨_, _, rfl⟩
theorem stos_0 : Stos gs0 := fun w ls G => by
  cases w with
  | nil => exact .inl ⟨_, _, rfl⟩
  | cons _ _ => exact .inr rfl
theorem stos_1 {g : TF} {r : List W → SF} (h : Sto g) (hr : Stos r) : Stos (gs1 g r) := fun w ls G => by
  cases w with
  | nil => exact .inr rfl
  | cons w ws =>
    simp only [gs1]
    rcases h w ls G with ⟨l1, G1, e⟩ | e
    · rw [e]; exact hr ws l1 G1
    · rw [e]; exact .inr rfl
theorem sto_t {n : Nat} {g : List W → SF} (h : Stos g) : Sto (gT n g) := fun w ls G => by
  cases w with
  | tup ws =>
    simp only [gT]
    split
    · exact h ws ls G
    · exact .inr rfl
  | _ => exact .inr rfl
theorem fs_asg {is : List Nat} {tg : Expr} {g : TF} (he : FE T X W0 e f) (hg : FG T X is tg g) (hn : Sto g) (hs : swapsWithSole [tg] e pos.line X.env = pure false := by rfl) (hw : swappedStores [tg] e X.env = pure none := by rfl) (h1 : (assignEach [tg] X.env).map (·.2) = [assign tg X.env] := by rfl) : FS T X W0 (.Assign [tg] e pos) (sAsg f g) := by
  obtain ⟨t, he, i⟩ := he
  obtain ⟨tg', hg, ig⟩ := hg
  refine ⟨_, ps_asg he hg hs hw h1, fun m ls G σ H D hG hL ho => ?_⟩
  exact i.goS hG hL ho fun w G1 m1 v H1 k1 g1 r1 l1 o1 => asg_ok ig g1 l1 r1 hn o1
theorem fs_set (i : Nat) {x : Str} {p' : Pos} (c : Ctx T X W0) (he : FE T X W0 e f) (hs : swapsWith e (some (.Name x p')) pos.line X.env = pure false := by rfl) (hi : X.N[i]? = some x := by rfl) (hx : Loc X.env.scope x := by first | exact Or.inl rfl | exact Or.inr rfl) (hf : X.fn x = true ∨ X.env.scope.names.lookup x = some .local := by first | exact .inl rfl | exact .inr rfl) : FS T X W0 (.Assign [.Name x p'] e pos) (sAsg f (gN i)) := by
  obtain ⟨t, he, ie⟩ := he
  refine ⟨_, ps_set c.nd hi hx he hs hf, fun m ls G σ H D hG hL ho => ?_⟩
  exact ie.goS hG hL ho fun w G1 m1 v H1 k1 g1 r1 l1 o1 => o1 m1 _ H1 (.refl _ _) g1 (l1.set i r1)
/-- a, b = x, y at once -/
@[simp] def sPar (i j : Nat) (f : EF) : SF := fun ls G => (f ls G).sbind ls fun w G1 => match w with
  | .tup [a, b] => .nx ((ls.set i (some a)).set j (some b)) G1
  | _ => .stuck
theorem fs_par (i j : Nat) {x y : Str} {a b : Expr} {px py pt : Pos} {kt k2 : Nat} {pt2 : Pos} {fa : EF} (c : Ctx T X W0) (ha : FA T X W0 [a, b] fa) (hi : X.N[i]? = some x := by rfl) (hj : X.N[j]? = some y := by rfl) (hij : i ≠ j := by decide)
    (hx : X.env.scope.names.lookup x = some .local := by rfl) (hy : X.env.scope.names.lookup y = some .local := by rfl)
    (hw : swappedStores [.Tuple [.Name x px, .Name y py] kt pt] (.Tuple [a, b] k2 pt2) X.env = pure (some [x, y]) := by rfl)
    (hs : swapsWithSole [.Tuple [.Name x px, .Name y py] kt pt] (.Tuple [a, b] k2 pt2) pos.line X.env = pure false := by rfl) : FS T X W0 (.Assign [.Tuple [.Name x px, .Name y py] kt pt] (.Tuple [a, b] k2 pt2) pos) (sPar i j fa) := by
  obtain ⟨t, ha, ia⟩ := ha
  refine ⟨_, ps_par c.calm c.nd hi hj hij hx hy ha hw hs, fun m ls G σ H D hG hL ho => ?_⟩
  refine ia m ls G σ H _ hG hL ?_
  simp only [sPar] at ho
  cases e : fa ls G with
  | ok w G1 =>
    rw [e] at ho
    simp only [Res.sbind] at ho
    split at ho
    · rename_i a b
      refine ⟨_, rfl, fun m1 vs H1 k1 g1 r1 => ?_⟩
      cases r1 with
      | cons r1 r2 => cases r2 with
        | cons r2 r3 =>
          cases r3
          exact ⟨_, _, rfl, ho m1 _ H1 k1 g1 (((hL.keep k1).set i r1).set j r2)⟩
    · exact False.elim ho
  | exc w G1 => rw [e] at ho; exact fun m1 c d H1 k1 g1 r1 => ho m1 σ c d H1 k1 g1 (hL.keep k1) r1
  | stuck => rw [e] at ho; exact ho
end

/-! ### what is walked -/
/-- the items that a walk yields, at every later heap -/
def ItOk (T : Tx) (m : Mm) (H : Hp) (J : It) (ws : List W) : Prop :=
  ∀ m' G' H', Keep m H m' H' → RG T m' G' H' →
    (∀ (i : Nat) (w : W), ws[i]? = some w → J.go i H' ∧ ∀ x H'', J.yld i H' x H'' → Keep m' H' m' H'' ∧ RG T m' G' H'' ∧ RW T m' H'' w x) ∧ ∀ i, ws.length ≤ i → J.stop i H'
def ImpI (T : Tx) (W0 : WX) (t : TI) (f : EF) : Prop :=
  ∀ (m : Mm) (ls : Ls) (G : Gs) (σ : St) (H : Hp) (R : It → Hp → Prop), RG T m G H → RL T m H ls σ →
    (match f ls G with
      | .ok w G' => ∃ ws, w = .lst ws ∧ ∀ m' J H', Keep m H m' H' → RG T m' G' H' → ItOk T m' H' J ws → R J H'
      | .exc w G' => ∀ m' c d H', Keep m H m' H' → RG T m' G' H' → RX T m' H' w c d → W0 c d σ H'
      | .stuck => False) → t σ H R
def FI (T : Tx) (X : Cx) (W0 : WX) (tg e : Expr) (f : EF) : Prop := ∃ t, PI X tg e t ∧ ImpI T W0 t f
/-- the items of a list, a tuple -/
@[simp] def iSeq (f : EF) : EF := fun ls G => (f ls G).bind fun w G1 => match w with
  | .lst ws => .ok (.lst ws) G1
  | .tup ws => .ok (.lst ws) G1
  | .fz ws => .ok (.lst ws) G1
  | .str s => .ok (.lst (s.map fun c => .str [c])) G1
  | _ => .stuck
def itS (K : PySem.W.Frag) (te : TE) : TI := fun σ H R => te σ H fun v H1 =>
  (∃ a xs, v = .ref a ∧ SqL K H1 a xs ∧ R (Itl K a) H1) ∨ (∃ a xs, v = .ref a ∧ SqT K H1 a xs ∧ R (Itt K a) H1) ∨ ∃ x, v = .str x ∧ R (Its x) H1
/-- a walk over what a value is, told only when the value has come -/
theorem pi_sw {X : Cx} {tg e : Expr} {te : TE} (he : PE X e te) : PI X tg e (itS X.K te) := by
  refine ⟨fun pins s σ H R I h => ?_⟩
  -- the value is evaluated once; then it is walked as pi_list, pi_tup, pi_str walk a value that is at hand
  refine thn (he.run pins s σ H _ I h) fun v s1 ⟨x, H1, I1, r1, q1⟩ => ?_
  rcases q1 with ⟨a, xs, ex, hq, q⟩ | ⟨a, xs, ex, hq, q⟩ | ⟨z, ex, q⟩
  · subst ex
    cases r1
    obtain ⟨its, rv, p, hz⟩ := I1.list hq
    refine wpAny_pyIter_list p.isList ⟨_, [s1.heap.objs.size], _, _, H1, rfl,
      I1.kept (t' := s1.toks) (fun b o e => Heap.get?_push_of_some _ e), turn_list a s1.heap.objs.size, ⟨_, Heap.get?_push_size _ rfl, rfl, rfl⟩, fun b hb => ?_, q⟩
    rw [List.mem_singleton.mp hb]
    exact I1.fpOk (Nat.le_refl _) (I1.hok.fresh (Nat.le_refl _))
  · subst ex
    cases r1
    obtain ⟨its, rv, p, hz⟩ := I1.tuple hq
    refine wpAny_pyIter_tuple (show s1.heap.IsTuple a its.toArray from p) ⟨_, [s1.heap.objs.size], _, _, H1, rfl,
      I1.kept (t' := s1.toks) (fun b o e => Heap.get?_push_of_some _ e), turn_tuple a s1.heap.objs.size, ⟨_, Heap.get?_push_size _ rfl, rfl, rfl⟩, fun b hb => ?_, q⟩
    rw [List.mem_singleton.mp hb]
    exact I1.fpOk (Nat.le_refl _) (I1.hok.fresh (Nat.le_refl _))
  · subst ex
    obtain ⟨t, rfl⟩ := r1
    cases ha : z.cps.all (· < 128) with
    | false => exact wpAny_pyIter_wide ha (pi_one (tk := s1.toks) I1 _ (turn_str _ z t "str_iterator" (.inr rfl)) ⟨_, Heap.get?_push_size _ rfl, rfl, rfl⟩ q)
    | true => exact wpAny_pyIter_ascii ha (pi_one (tk := s1.toks) I1 _ (turn_str _ z t "str_ascii_iterator" (.inl rfl)) ⟨_, Heap.get?_push_size _ rfl, rfl, rfl⟩ q)

section
variable {T : Tx} {X : Cx} {W0 : WX} {tg e : Expr} {f : EF} {m : Mm} {H : Hp}
theorem it_lst {a : Addr} {ws : List W} {vs : List V} (r : RWs T m H ws vs) (h : ∀ m' H', Keep m H m' H' → SqL T.K H' a vs) : ItOk T m H (Itl T.K a) ws := fun m' G' H' k g => by
  have q := h m' H' k
  refine ⟨fun i w e => ?_, fun i hi => ⟨vs, q, by rw [← r.length]; exact hi⟩⟩
  obtain ⟨v, e1, r1⟩ := r.get e
  refine ⟨⟨vs, v, q, e1⟩, fun x H'' y => ?_⟩
  obtain ⟨rfl, y⟩ := y
  have e2 := y vs q
  rw [e1] at e2
  cases e2
  exact ⟨.refl _ _, g, r1.keep k⟩
theorem it_tup {a : Addr} {ws : List W} {vs : List V} (r : RWs T m H ws vs) (h : ∀ m' H', Keep m H m' H' → SqT T.K H' a vs) : ItOk T m H (Itt T.K a) ws := fun m' G' H' k g => by
  have q := h m' H' k
  refine ⟨fun i w e => ?_, fun i hi => ⟨vs, q, by rw [← r.length]; exact hi⟩⟩
  obtain ⟨v, e1, r1⟩ := r.get e
  refine ⟨⟨vs, v, q, e1⟩, fun x H'' y => ?_⟩
  obtain ⟨rfl, y⟩ := y
  have e2 := y vs q
  rw [e1] at e2
  cases e2
  exact ⟨.refl _ _, g, r1.keep k⟩
theorem it_str {s : List Nat} : ItOk T m H (Its ⟨s.toArray⟩) (s.map fun c => .str [c]) := fun m' G' H' k g => by
  refine ⟨fun i w e => ?_, fun i hi => (show s.toArray.size ≤ i by simpa using hi)⟩
  rw [List.getElem?_map] at e
  cases e1 : s[i]? with
  | none => rw [e1] at e; cases e
  | some c =>
    rw [e1] at e
    cases e
    refine ⟨(show i < s.toArray.size by simpa using (List.getElem?_eq_some_iff.mp e1).1), fun x H'' y => ?_⟩
    obtain ⟨rfl, c', e2, rfl⟩ := y
    have e2 : s.toArray[i]? = some c' := e2
    have e3 : s[i]? = some c' := by simpa using e2
    rw [e1] at e3
    cases e3
    exact ⟨.refl _ _, g, .str [c]⟩
theorem fi_seq (c : Ctx T X W0) (h : FE T X W0 e f) : FI T X W0 tg e (iSeq f) := by
  obtain ⟨t, h, i⟩ := h
  refine ⟨_, pi_sw h, fun m ls G σ H R hG hL ho => ?_⟩
  rw [c.hK]
  refine i m ls G σ H _ hG hL ?_
  simp only [iSeq] at ho
  cases e : f ls G with
  | stuck => rw [e] at ho; exact ho
  | exc w G1 => rw [e] at ho; exact ho
  | ok w G1 =>
    rw [e] at ho
    intro m1 v H1 k1 g1 r1
    cases r1 with
    | lst r n f =>
      obtain ⟨ws, ew, q⟩ := ho
      cases ew
      exact .inl ⟨_, _, rfl, SqL.of f, q m1 _ H1 k1 g1 (it_lst r fun m' H' k => SqL.of (k.at_ f n).1)⟩
    | fz r f =>
      obtain ⟨ws, ew, q⟩ := ho
      cases ew
      exact .inl ⟨_, _, rfl, f.sq, q m1 _ H1 k1 g1 (it_lst r fun m' H' k => (k.fzL f).sq)⟩
    | tup r f =>
      obtain ⟨ws, ew, q⟩ := ho
      cases ew
      exact .inr (.inl ⟨_, _, rfl, f.sq, q m1 _ H1 k1 g1 (it_tup r fun m' H' k => (k.fzT f).sq)⟩)
    | str s =>
      obtain ⟨ws, ew, q⟩ := ho
      cases ew
      exact .inr (.inr ⟨_, rfl, q m1 _ H1 k1 g1 it_str⟩)
    | _ => obtain ⟨ws, ew, q⟩ := ho; try cases ew
end

/-! ### for -/
def forL (g : TF) (body : SF) : List W → SF
  | [], ls, G => .nx ls G
  | w :: r, ls, G => match g w ls G with
    | .nx ls1 G1 => (match body ls1 G1 with
      | .nx ls2 G2 => forL g body r ls2 G2
      | .ct ls2 G2 => forL g body r ls2 G2
      | .bk ls2 G2 => .nx ls2 G2
      | .rt w G2 => .rt w G2
      | .exc w ls2 G2 => .exc w ls2 G2
      | .stuck => .stuck)
    | _ => .stuck
@[simp] def sFor (fi : EF) (g : TF) (body : SF) : SF := fun ls G => (fi ls G).sbind ls fun w G1 => match w with
  | .lst ws => forL g body ws ls G1
  | _ => .stuck
section
variable {T : Tx} {X : Cx} {W0 : WX} {pos : Pos} {tg iter : Expr} {body : List Stmt} {fi : EF} {g : TF} {gb : SF}
theorem fs_for {is : List Nat} (c : Ctx T X W0) (hi : FI T X W0 tg iter fi) (hg : FG T X is tg g) (hb : FSs T X W0 body gb) (hs : ∀ x, foldedSetIterable iter X.env x = pure x := by intro _; rfl) : FS T X W0 (.For tg iter body [] pos) (sFor fi g gb) := by
  obtain ⟨ti, hi, ii⟩ := hi
  obtain ⟨tg', hg, ig⟩ := hg
  obtain ⟨tb, hb, ib⟩ := hb
  refine ⟨_, ps_for c.po c.calm hi hg hb hs, fun m ls G σ H D hG hL ho => ?_⟩
  refine ii m ls G σ H _ hG hL ?_
  simp only [sFor] at ho
  cases e : fi ls G with
  | stuck => rw [e] at ho; exact ho
  | exc w G1 => rw [e] at ho; exact fun m1 c d H1 k1 g1 r1 => ho m1 σ c d H1 k1 g1 (hL.keep k1) r1
  | ok w G1 =>
    rw [e] at ho
    simp only [Res.sbind] at ho
    split at ho
    · rename_i ws
      refine ⟨ws, rfl, fun m1 J H1 k1 g1 it => ?_⟩
      refine ⟨fun i k σ H => k = ws.length - i ∧ ∃ m2 ls2 G2, Keep m1 H1 m2 H ∧ RG T m2 G2 H ∧ RL T m2 H ls2 σ ∧ OutS T W0 m2 H D (forL g gb (ws.drop i) ls2 G2), ⟨ws.length, rfl, m1, ls, G1, .refl _ _, g1, hL.keep k1, OutS.keep k1 ho⟩, ?_⟩
      rintro i k σ2 H2 ⟨rfl, m2, ls2, G2, k2, g2, l2, o2⟩
      obtain ⟨go, stop⟩ := it m2 G2 H2 k2 g2
      cases hw : ws[i]? with
      | none =>
        have hle : ws.length ≤ i := List.getElem?_eq_none_iff.mp hw
        rw [List.drop_eq_nil_of_le hle] at o2
        exact .inl ⟨stop i hle, o2 m2 σ2 H2 (.refl _ _) g2 l2⟩
      | some w =>
        have hlt : i < ws.length := (List.getElem?_eq_some_iff.mp hw).1
        have hd : ws.drop i = w :: ws.drop (i + 1) := by
          rw [List.drop_eq_getElem_cons hlt, (List.getElem?_eq_some_iff.mp hw).2]
        rw [hd] at o2
        obtain ⟨hgo, hy⟩ := go i w hw
        refine .inr ⟨hgo, fun σ H => ∃ m3 ls3 G3, Keep m1 H1 m3 H ∧ RG T m3 G3 H ∧ RL T m3 H ls3 σ ∧ OutS T W0 m3 H D (forL g gb (ws.drop (i + 1)) ls3 G3), fun σ' H' n => ⟨ws.length - (i + 1), by omega, rfl, n⟩, fun x H' yl => ?_⟩
        obtain ⟨k3, g3, r3⟩ := hy x H' yl
        refine ig m2 ls2 G2 σ2 H' w x _ g3 (l2.keep k3) r3 ?_
        simp only [forL] at o2
        cases eg : g w ls2 G2 with
        | nx ls4 G4 =>
          rw [eg] at o2
          intro m4 σ4 H4 k4 g4 l4 _
          refine ib m4 ls4 G4 σ4 H4 _ g4 l4 ?_
          have k14 := (k2.trans k3).trans k4
          have o4 := OutS.keep (k3.trans k4) o2
          simp only at o4
          cases eb : gb ls4 G4 with
          | nx ls5 G5 => rw [eb] at o4; exact fun m5 σ5 H5 k5 g5 l5 => ⟨m5, ls5, G5, k14.trans k5, g5, l5, OutS.keep k5 o4⟩
          | ct ls5 G5 => rw [eb] at o4; exact fun m5 σ5 H5 k5 g5 l5 => ⟨m5, ls5, G5, k14.trans k5, g5, l5, OutS.keep k5 o4⟩
          | bk ls5 G5 => rw [eb] at o4; exact o4
          | rt w G5 => rw [eb] at o4; exact o4
          | exc w ls5 G5 => rw [eb] at o4; exact o4
          | stuck => rw [eb] at o4; exact o4
        | rt w G4 => rw [eg] at o2; exact False.elim o2
        | bk ls4 G4 => rw [eg] at o2; exact False.elim o2
        | ct ls4 G4 => rw [eg] at o2; exact False.elim o2
        | exc w ls4 G4 => rw [eg] at o2; exact False.elim o2
        | stuck => rw [eg] at o2; exact False.elim o2
    · exact False.elim ho
end

/-! ### while -/
def whileL (c : EF) (body : SF) : Nat → SF
  | 0, _, _ => .stuck
  | n + 1, ls, G => (c ls G).sbind ls fun w G1 => asBS w fun k => if k then (match body ls G1 with
      | .nx ls2 G2 => whileL c body n ls2 G2
      | .ct ls2 G2 => whileL c body n ls2 G2
      | .bk ls2 G2 => .nx ls2 G2
      | .rt w G2 => .rt w G2
      | .exc w ls2 G2 => .exc w ls2 G2
      | .stuck => .stuck) else .nx ls G1
section
variable {T : Tx} {X : Cx} {W0 : WX} {pos : Pos} {ce : Expr} {body : List Stmt} {fc : EF} {gb : SF}
theorem fs_while (n : Nat) (c : Ctx T X W0) (hc : FT T X W0 ce fc) (hb : FSs T X W0 body gb) : FS T X W0 (.While ce body [] pos) (whileL fc gb n) := by
  obtain ⟨tc, hc, ic⟩ := hc
  obtain ⟨tb, hb, ib⟩ := hb
  refine ⟨_, ps_while c.po hc hb, fun m ls G σ H D hG hL ho => ?_⟩
  refine ⟨fun k σ H => ∃ m2 ls2 G2, RG T m2 G2 H ∧ RL T m2 H ls2 σ ∧ OutS T W0 m2 H D (whileL fc gb k ls2 G2), ⟨n, m, ls, G, hG, hL, ho⟩, ?_⟩
  rintro k σ2 H2 ⟨m2, ls2, G2, g2, l2, o2⟩
  cases k with
  | zero => exact False.elim o2
  | succ k =>
    simp only [whileL] at o2
    refine ic.goS g2 l2 o2 fun b G3 m3 H3 k3 g3 l3 o3 => ?_
    cases b with
    | false => exact o3 m3 σ2 H3 (.refl _ _) g3 l3
    | true =>
      simp only [if_true] at o3 ⊢
      refine ⟨fun σ H => ∃ m4 ls4 G4, RG T m4 G4 H ∧ RL T m4 H ls4 σ ∧ OutS T W0 m4 H D (whileL fc gb k ls4 G4), fun σ' H' q => ⟨k, Nat.lt_succ_self _, q⟩, ?_⟩
      refine ib m3 ls2 G3 σ2 H3 _ g3 l3 ?_
      cases eb : gb ls2 G3 with
      | nx ls5 G5 => rw [eb] at o3; exact fun m5 σ5 H5 k5 g5 l5 => ⟨m5, ls5, G5, g5, l5, OutS.keep k5 o3⟩
      | ct ls5 G5 => rw [eb] at o3; exact fun m5 σ5 H5 k5 g5 l5 => ⟨m5, ls5, G5, g5, l5, OutS.keep k5 o3⟩
      | bk ls5 G5 => rw [eb] at o3; exact o3
      | rt w G5 => rw [eb] at o3; exact o3
      | exc w ls5 G5 => rw [eb] at o3; exact o3
      | stuck => rw [eb] at o3; exact o3
end

/-! ### arguments, displays -/
@[simp] def aNil : EF := fun _ G => .ok (.tup []) G
@[simp] def aCons (f r : EF) : EF := fun ls G => (f ls G).bind fun w G1 => (r ls G1).bind fun ws G2 => asT ws fun ws => .ok (.tup (w :: ws)) G2
section
variable {T : Tx} {X : Cx} {W0 : WX} {e : Expr} {es : List Expr} {f r : EF} {pos : Pos}
theorem fa_nil : FA T X W0 [] aNil := ⟨_, pa_nil, fun m ls G σ H Q hG hL ho => by
  obtain ⟨ws, ew, q⟩ := ho
  cases ew
  exact q m [] H (.refl _ _) hG .nil⟩
theorem fa_cons (h : FE T X W0 e f) (hr : FA T X W0 es r) (hs : starEach (e :: es) X.env = (false, eval e X.env) :: starEach es X.env := by rfl) : FA T X W0 (e :: es) (aCons f r) := by
  obtain ⟨t, h, i⟩ := h
  obtain ⟨u, hr, ir⟩ := hr
  refine ⟨_, pa_cons h hr hs, fun m ls G σ H Q hG hL ho => ?_⟩
  refine i m ls G σ H _ hG hL ?_
  simp only [aCons] at ho
  cases e : f ls G with
  | stuck => rw [e] at ho; exact ho
  | exc w G1 => rw [e] at ho; exact ho
  | ok w G1 =>
    rw [e] at ho
    simp only [Res.bind] at ho
    intro m1 v H1 k1 g1 r1
    refine ir m1 ls G1 σ H1 _ g1 (hL.keep k1) ?_
    cases e2 : r ls G1 with
    | stuck => rw [e2] at ho; exact ho
    | exc w2 G2 => rw [e2] at ho; exact fun m2 c d H2 k2 g2 r2 => ho m2 c d H2 (k1.trans k2) g2 r2
    | ok w2 G2 =>
      rw [e2] at ho
      cases w2 with
      | tup ws =>
        obtain ⟨us, eu, q⟩ := ho
        cases eu
        exact ⟨ws, rfl, fun m2 vs H2 k2 g2 r2 => q m2 _ H2 (k1.trans k2) g2 (.cons (r1.keep k2) r2)⟩
      | _ => obtain ⟨us, eu, q⟩ := ho; try cases eu
@[simp] def eTup (fa : EF) : EF := fun ls G => (fa ls G).bind fun w G1 => asT w fun ws => if ws.length ≤ SZ then .ok (.tup ws) G1 else .stuck
@[simp] def eLst (fa : EF) : EF := fun ls G => (fa ls G).bind fun w G1 => asT w fun ws => if ws.length ≤ SZ then .ok (.lst ws) G1 else .stuck
/-- a list that will change -/
@[simp] def eLstM (fa : EF) : EF := fun ls G => (fa ls G).bind fun w G1 => asT w fun ws => if ws.length ≤ SZ then .ok (.ref G1.length) (G1 ++ [.lst ws]) else .stuck
theorem fe_tup {k : Nat} (h : FA T X W0 es f) : FE T X W0 (.Tuple es k pos) (eTup f) := by
  obtain ⟨t, h, i⟩ := h
  refine ⟨_, pe_tup h, fun m ls G σ H Q hG hL ho => ?_⟩
  refine i.go hG hL ho fun ws G1 m1 vs H1 k1 g1 r1 l1 o1 => ?_
  split at o1
  · rename_i h
    exact ⟨by rw [← r1.length, ← sz_eq]; exact h, fun p hp => o1.newT g1 r1 hp⟩
  · exact False.elim o1
theorem fe_lst (h : FA T X W0 es f) : FE T X W0 (.List es pos) (eLst f) := by
  obtain ⟨t, h, i⟩ := h
  refine ⟨_, pe_lst h, fun m ls G σ H Q hG hL ho => ?_⟩
  refine i.go hG hL ho fun ws G1 m1 vs H1 k1 g1 r1 l1 o1 => ?_
  split at o1
  · rename_i h
    exact ⟨by rw [← r1.length, ← sz_eq]; exact h, fun p hp => o1.newL g1 r1 hp⟩
  · exact False.elim o1
theorem fe_lstM (h : FA T X W0 es f) : FE T X W0 (.List es pos) (eLstM f) := by
  obtain ⟨t, h, i⟩ := h
  refine ⟨_, pe_lst h, fun m ls G σ H Q hG hL ho => ?_⟩
  refine i.go hG hL ho fun ws G1 m1 vs H1 k1 g1 r1 l1 o1 => ?_
  split at o1
  · rename_i h
    exact ⟨by rw [← r1.length, ← sz_eq]; exact h, fun p hp => o1.newM g1 r1 hp⟩
  · exact False.elim o1

/-! ### built-in functions and types by values -/
/-- the reading of a call by values is implied by f -/
def ImpB (T : Tx) (W0 : WX) (r : List V → Hp → VK → Prop) (f : List W → Gs → Res) : Prop :=
  ∀ (m : Mm) (G : Gs) (σ : St) (H : Hp) (Q : VK) (ws : List W) (vs : List V), RG T m G H → RWs T m H ws vs → Out T W0 m H σ Q (f ws G) → r vs H Q
@[simp] def eCall (f : List W → Gs → Res) (fa : EF) : EF := fun ls G => (fa ls G).bind fun w G1 => asT w fun ws => f ws G1
variable {x : Str} {p : Pos} {id : String} {rd : List V → Hp → VK → Prop} {fb : List W → Gs → Res}
theorem fe_blt (hc : CallR X (.builtin id) rd) (hi : ImpB T W0 rd fb) (hm : X.mg x = none) (ha : FA T X W0 (e :: es) f) (hv : bootBuiltins x = some (.builtin id) := by decide +kernel) (hg : Gl X x := by rfl) (hn : x ≠ "__name__" := by decide +kernel) (hdb : (x == ("__debug__" : Str)) = false := by decide +kernel)
    (he : starEach (e :: es) X.env = (false, eval e X.env) :: starEach es X.env := by rfl) (hpl : (backTo pos (starEach es X.env)).any (·.1) = false := by rfl) : FE T X W0 (.Call (.Name x p) (e :: es) [] pos) (eCall fb f) := by
  obtain ⟨t, ha, ia⟩ := ha
  refine ⟨_, pe_callB hc hg hm hv ha hn hdb he hpl, fun m ls G σ H Q hG hL ho => ?_⟩
  exact ia.go hG hL ho fun ws G1 m1 vs H1 k1 g1 r1 l1 o1 => hi m1 G1 σ H1 Q ws vs g1 r1 o1
theorem fe_bty {Tn : String} (hc : CallR X (.type Tn) rd) (hi : ImpB T W0 rd fb) (hm : X.mg x = none) (ha : FA T X W0 (e :: es) f) (hv : bootBuiltins x = some (.type Tn) := by decide +kernel) (hg : Gl X x := by rfl) (hn : x ≠ "__name__" := by decide +kernel) (hdb : (x == ("__debug__" : Str)) = false := by decide +kernel)
    (he : starEach (e :: es) X.env = (false, eval e X.env) :: starEach es X.env := by rfl) (hpl : (backTo pos (starEach es X.env)).any (·.1) = false := by rfl) : FE T X W0 (.Call (.Name x p) (e :: es) [] pos) (eCall fb f) := by
  obtain ⟨t, ha, ia⟩ := ha
  refine ⟨_, pe_callTy hc hg hm hv ha hn hdb he hpl, fun m ls G σ H Q hG hL ho => ?_⟩
  exact ia.go hG hL ho fun ws G1 m1 vs H1 k1 g1 r1 l1 o1 => hi m1 G1 σ H1 Q ws vs g1 r1 o1
/-- a built-in type as a value -/
theorem fe_ty (ty : Ty) (hm : X.mg x = none) (hv : bootBuiltins x = some (.type ty.nm) := by decide +kernel) (hg : Gl X x := by rfl) (hn : x ≠ "__name__" := by decide +kernel) (hdb : (x == ("__debug__" : Str)) = false := by decide +kernel) : FE T X W0 (.Name x p) (eC (.ty ty)) :=
  ⟨_, pe_bltn (v := .ty ty.nm) hg hm hv rfl hn hdb, fun m _ _ _ H _ hG _ ho => ho m _ H (.refl m H) hG (.ty ty)⟩
end
end U

namespace U
open PySem
open L2

/-! ### comprehensions -/
/-- nothing raised leaves a comprehension's block -/
abbrev WN : WX := fun _ _ _ _ => False
def FTs (T : Tx) (X : Cx) (W0 : WX) (ifs : List Expr) (f : EF) : Prop := ∃ t, PTs X ifs t ∧ ImpT T W0 t f
theorem fts_nil {T : Tx} {X : Cx} {W0 : WX} : FTs T X W0 [] (eC (.bl true)) := ⟨_, pts_nil, fun m ls G σ H Q hG hL ho => by
  obtain ⟨b, e, q⟩ := ho m _ H (.refl _ _) hG (.bl true)
  cases e
  exact q⟩
theorem fts_one {T : Tx} {X : Cx} {W0 : WX} {c : Expr} {f : EF} (h : FT T X W0 c f) : FTs T X W0 [c] f := let ⟨_, h, i⟩ := h; ⟨_, pts_one h, i⟩
/-- a context in which nothing is raised out of -/
theorem ctx_blk {T : Tx} {X : Cx} {W0 : WX} (c : Ctx T X W0) (s : Shared) (H : Hp) (scope : Scope) (ce : Env) (fp : List Addr) : Ctx T (X.blk s H scope ce fp) WN :=
  ⟨takes0, PassesOwn.never, c.calm, c.nd, c.hu, c.hK⟩

def compL (g : TF) (ft fe : EF) (ls0 : Ls) : List W → List W → Gs → Res
  | [], acc, G => .ok (.lst acc) G
  | w :: r, acc, G => match g w ls0 G with
    | .nx ls1 G1 => (match ft ls1 G1 with
      | .ok (.bl true) G2 => (match fe ls1 G2 with
        | .ok y G3 => if acc.length < SZ then compL g ft fe ls0 r (acc ++ [y]) G3 else .stuck
        | _ => .stuck)
      | .ok (.bl false) G2 => compL g ft fe ls0 r acc G2
      | _ => .stuck)
    | _ => .stuck
@[simp] def eComp (vs : List Nat) (fi : EF) (g : TF) (ft fe : EF) : EF := fun ls G => (fi ls G).bind fun w G1 => match w with
  | .lst ws => compL g ft fe (wipeL ls vs) ws [] G1
  | _ => .stuck
section
variable {T : Tx} {X : Cx} {W0 : WX}
theorem imp_comp {is vs : List Nat} {wi : TI} {tg : TG} {tt : TT} {te : TE} {fi : EF} {g : TF} {ft fe : EF} (ii : ImpI T W0 wi fi) (ig : ImpG T is tg g) (it' : ImpT T WN tt ft) (ie : Imp T WN te fe) (hs : ∀ j ∈ is, j ∈ vs) : Imp T W0 (tLc wi tg tt te vs) (eComp vs fi g ft fe) := by
  intro m ls G σ H Q hG hL ho
  refine ii m ls G σ H _ hG hL ?_
  simp only [eComp] at ho
  cases e : fi ls G with
  | stuck => rw [e] at ho; exact ho
  | exc w G1 => rw [e] at ho; exact ho
  | ok w G1 =>
    rw [e] at ho
    simp only [Res.bind] at ho
    split at ho
    · rename_i ws
      refine ⟨ws, rfl, fun m1 J H1 k1 g1 it D hD => ?_⟩
      have o1 := Out.keep k1 ho
      have hDr : D ∉ m1.r := g1.freeR hD
      refine ⟨fun i k H => k = ws.length - i ∧ ∃ m2 acc accV G2, Keep m1 H1 m2 H ∧ RG T m2 G2 H ∧ D ∈ m2.av ∧ D ∉ m2.r ∧ H D = some (.lst accV) ∧ RWs T m2 H acc accV ∧ RL T m2 H (wipeL ls vs) (L2.wipe σ vs) ∧
        Out T W0 m1 H1 σ Q (compL g ft fe (wipeL ls vs) (ws.drop i) acc G2), ⟨ws.length, rfl, m1.hide D, [], [], G1, Keep.hide g1 hD, g1.hide hD, List.mem_cons_self, hDr, upd_same, .nil, (((hL.keep k1).keep (Keep.hide g1 hD)).wipe vs), o1⟩, ?_⟩
      rintro i k H2 ⟨rfl, m2, acc, accV, G2, k2, g2, hDa, hDr2, eD, ra, l2, o2⟩
      obtain ⟨go, stop⟩ := it m2 G2 H2 k2 g2
      cases hw : ws[i]? with
      | none =>
        have hle : ws.length ≤ i := List.getElem?_eq_none_iff.mp hw
        rw [List.drop_eq_nil_of_le hle] at o2
        refine .inl ⟨stop i hle, ?_⟩
        refine o2 (m2.unh D) (.ref D) H2 (Keep.back g1 hD k2) g2.unh (.lst ra.unh ⟨hDr2, fun q => ?_⟩ eD)
        have := (List.mem_filter.mp q).2
        simp at this
      | some w =>
        have hlt : i < ws.length := (List.getElem?_eq_some_iff.mp hw).1
        have hd : ws.drop i = w :: ws.drop (i + 1) := by
          rw [List.drop_eq_getElem_cons hlt, (List.getElem?_eq_some_iff.mp hw).2]
        rw [hd] at o2
        obtain ⟨hgo, hy⟩ := go i w hw
        refine .inr ⟨hgo, fun H => ∃ m2 acc accV G2, Keep m1 H1 m2 H ∧ RG T m2 G2 H ∧ D ∈ m2.av ∧ D ∉ m2.r ∧ H D = some (.lst accV) ∧ RWs T m2 H acc accV ∧ RL T m2 H (wipeL ls vs) (L2.wipe σ vs) ∧
          Out T W0 m1 H1 σ Q (compL g ft fe (wipeL ls vs) (ws.drop (i + 1)) acc G2), fun H' n => ⟨ws.length - (i + 1), by omega, rfl, n⟩, fun x H' yl => ?_⟩
        obtain ⟨k3, g3, r3⟩ := hy x H' yl
        refine ig m2 (wipeL ls vs) G2 (L2.wipe σ vs) H' w x _ g3 (l2.keep k3) r3 ?_
        simp only [compL] at o2
        cases eg : g w (wipeL ls vs) G2 with
        | nx ls4 G4 =>
          rw [eg] at o2
          simp only at o2
          intro m4 σ4 H4 k4 g4 l4 c4
          refine ⟨c4.wipe hs, ?_⟩
          refine it' m4 ls4 G4 σ4 H4 _ g4 l4 ?_
          cases et : ft ls4 G4 with
          | ok b G5 =>
            rw [et] at o2
            intro m5 v5 H5 k5 g5 r5
            have kk : Keep m2 H2 m5 H5 := (k3.trans k4).trans k5
            have fin : ∀ {m6 : Mm} {H6 : Hp} {G6 : Gs} (_ : Keep m2 H2 m6 H6) (_ : RG T m6 G6 H6), D ∈ m6.av ∧ D ∉ m6.r ∧ H6 D = some (.lst accV) := fun {m6 H6 G6} k6 g6 => ⟨k6.avL D hDa, (k6.fzE eD hDr2).2, (k6.fzE eD hDr2).1⟩
            cases r5 with
            | bl b =>
              refine ⟨b, rfl, ?_⟩
              cases b with
              | false =>
                simp only [Bool.false_eq_true, if_false]
                obtain ⟨f1, f2, f3⟩ := fin kk g5
                exact ⟨m5, acc, accV, G5, k2.trans kk, g5, f1, f2, f3, ra.keep kk, l2.keep kk, o2⟩
              | true =>
                simp only [if_true]
                refine ie m5 ls4 G5 σ4 H5 _ g5 (l4.keep k5) ?_
                simp only at o2
                cases ee : fe ls4 G5 with
                | ok y G6 =>
                  rw [ee] at o2
                  simp only at o2
                  split at o2
                  · rename_i hz
                    intro m6 v6 H6 k6 g6 r6
                    have kk' := kk.trans k6
                    obtain ⟨f1, f2, f3⟩ := fin kk' g6
                    have ra6 := ra.keep kk'
                    refine ⟨accV, f3, by rw [← ra6.length, ← sz_eq]; exact hz, m6, acc ++ [y], accV ++ [v6], G6, Keep.pen hD (k2.trans kk'), g6.pen f1 f2, f1, f2, upd_same, ?_, (l2.keep kk').pen f1, o2⟩
                    exact (ra6.append (.cons r6 .nil)).pen f1
                  · exact False.elim o2
                | exc y G6 => rw [ee] at o2; exact False.elim o2
                | stuck => rw [ee] at o2; exact False.elim o2
            | _ => exact False.elim o2
          | exc b G5 => rw [et] at o2; exact False.elim o2
          | stuck => rw [et] at o2; exact False.elim o2
        | _ => rw [eg] at o2; exact False.elim o2
    · exact False.elim ho

section
variable {elt tg iter : Expr} {ifs : List Expr} {scope : Scope} {pos : Pos} {is : List Nat} {fi : EF} {g : TF} {ft fe : EF}
/-- many readings as one -/
theorem one_g {P : Type} {Y : P → Cx} {e : Expr} {is : List Nat} {g : TF} (h : ∀ p, FG T (Y p) is e g) : ∃ t, (∀ p, PG (Y p) e t) ∧ ImpG T is t g :=
  ⟨fun v σ H Q => ∀ p, Classical.choose (h p) v σ H Q, fun p => ⟨fun pins s σ H v u Q I r hq => (Classical.choose_spec (h p)).1.run pins s σ H v u Q I r (hq p)⟩,
    fun m ls G σ H w v Q hG hL r ho p => (Classical.choose_spec (h p)).2 m ls G σ H w v Q hG hL r ho⟩
theorem one_e {P : Type} {Y : P → Cx} {e : Expr} {f : EF} (h : ∀ p, FE T (Y p) WN e f) : ∃ t, (∀ p, PE (Y p) e t) ∧ Imp T WN t f :=
  ⟨fun σ H Q => ∀ p, Classical.choose (h p) σ H Q, fun p => ⟨fun pins s σ H Q I hq => (Classical.choose_spec (h p)).1.run pins s σ H Q I (hq p)⟩,
    fun m ls G σ H Q hG hL ho p => (Classical.choose_spec (h p)).2 m ls G σ H Q hG hL ho⟩
theorem one_t {P : Type} {Y : P → Cx} {ifs : List Expr} {f : EF} (h : ∀ p, FTs T (Y p) WN ifs f) : ∃ t, (∀ p, PTs (Y p) ifs t) ∧ ImpT T WN t f :=
  ⟨fun σ H Q => ∀ p, Classical.choose (h p) σ H Q, fun p => ⟨fun pins s σ H Q I hq => (Classical.choose_spec (h p)).1.run pins s σ H Q I (hq p)⟩,
    fun m ls G σ H Q hG hL ho p => (Classical.choose_spec (h p)).2 m ls G σ H Q hG hL ho⟩
/-- where a block may stand -/
structure BP where
  s : Shared
  H : Hp
  C : Addr
  cl : List (Str × Addr)
  fp : List Addr
abbrev BP.cx (p : BP) (X : Cx) (scope : Scope) : Cx := X.blk p.s p.H scope (compEnvC scope p.cl p.C X.env) p.fp
theorem Ctx.blk {X : Cx} (c : Ctx T X W0) (p : BP) (scope : Scope) : Ctx T (p.cx X scope) WN := ctx_blk c _ _ _ _ _
theorem fe_comp (own : List (Str × Nat)) (c : Ctx T X W0) (hi : FI T X W0 tg iter fi) (hg : ∀ p : BP, Ctx T (p.cx X scope) WN → FG T (p.cx X scope) is tg g) (ht : ∀ p : BP, Ctx T (p.cx X scope) WN → FTs T (p.cx X scope) WN ifs ft) (he : ∀ p : BP, Ctx T (p.cx X scope) WN → FE T (p.cx X scope) WN elt fe)
    (ok : blkC X.N X.env.scope scope own = true := by kernel_rfl) (hs : ∀ j ∈ is, j ∈ own.map (·.2) := by decide) (hf : ∀ x, foldedSetIterable iter X.env x = pure x := by intro _; rfl) :
    FE T X W0 (.ListComp elt [⟨tg, iter, ifs, 0⟩] scope pos) (eComp (own.map (·.2)) fi g ft fe) := by
  obtain ⟨wi, hi, ii⟩ := hi
  obtain ⟨tg', hg, ig⟩ := one_g fun p => hg p (c.blk p scope)
  obtain ⟨tt, ht, it⟩ := one_t fun p => ht p (c.blk p scope)
  obtain ⟨te, he, ie⟩ := one_e fun p => he p (c.blk p scope)
  exact ⟨_, pe_lc c.calm c.nd hi (blkOk_by ok) (fun s H C cl fp => hg ⟨s, H, C, cl, fp⟩) (fun s H C cl fp => ht ⟨s, H, C, cl, fp⟩) (fun s H C cl fp => he ⟨s, H, C, cl, fp⟩) hf, imp_comp ii ig it ie hs⟩
/-- x = [..] on one line, x a plain local -/
theorem fs_setLc (i : Nat) {y : Str} {py spos : Pos} (own : List (Str × Nat)) (c : Ctx T X W0) (hi : FI T X W0 tg iter fi) (hg : ∀ p : BP, Ctx T (p.cx X scope) WN → FG T (p.cx X scope) is tg g) (ht : ∀ p : BP, Ctx T (p.cx X scope) WN → FTs T (p.cx X scope) WN ifs ft) (he : ∀ p : BP, Ctx T (p.cx X scope) WN → FE T (p.cx X scope) WN elt fe)
    (hy : X.N[i]? = some y := by rfl) (hyl : X.env.scope.names.lookup y = some .local := by rfl) (hsw : swapsWith (.ListComp elt [⟨tg, iter, ifs, 0⟩] scope pos) (some (.Name y py)) spos.line X.env = pure true := by exact sw_true rfl rfl rfl (by decide +kernel))
    (ok : blkC X.N X.env.scope scope own = true := by kernel_rfl) (hs : ∀ j ∈ is, j ∈ own.map (·.2) := by decide) (hf : ∀ x, foldedSetIterable iter X.env x = pure x := by intro _; rfl) :
    FS T X W0 (.Assign [.Name y py] (.ListComp elt [⟨tg, iter, ifs, 0⟩] scope pos) spos) (sAsg (eComp (own.map (·.2)) fi g ft fe) (gN i)) := by
  obtain ⟨wi, hi, ii⟩ := hi
  obtain ⟨tg', hg, ig⟩ := one_g fun p => hg p (c.blk p scope)
  obtain ⟨tt, ht, it⟩ := one_t fun p => ht p (c.blk p scope)
  obtain ⟨te, he, ie⟩ := one_e fun p => he p (c.blk p scope)
  refine ⟨_, ps_setLc c.calm c.nd hy hyl hsw hi (blkOk_by ok) (fun s H C cl fp => hg ⟨s, H, C, cl, fp⟩) (fun s H C cl fp => ht ⟨s, H, C, cl, fp⟩) (fun s H C cl fp => he ⟨s, H, C, cl, fp⟩) hf, fun m ls G σ H D hG hL ho => ?_⟩
  exact (imp_comp ii ig it ie hs).goS hG hL ho fun w G1 m1 v H1 k1 g1 r1 l1 o1 => o1 m1 _ H1 (.refl _ _) g1 (l1.set i r1)
end
end
end U

namespace U
open PySem
open L2

section
variable {T : Tx} {W0 : WX} {m : Mm} {G : Gs} {H : Hp}
/-- the list that stands behind a reference -/
theorem RG.lst {i : Nat} {a : Addr} {xs : List W} (R : RG T m G H) (h : m.r[i]? = some a) (e : G[i]? = some (.lst xs)) : ∃ vs, H a = some (.lst vs) ∧ RWs T m H xs vs := R.ob i _ a e h
/-- a store into a list -/
theorem RG.lstW {i : Nat} {a : Addr} {ys : List W} {us : List V} (R : RG T m G H) (h : m.r[i]? = some a) (r : RWs T m H ys us) : Keep m H m (upd H a (.lst us)) ∧ RG T m (G.set i (.lst ys)) (upd H a (.lst us)) := by
  have k : Keep m H m (upd H a (.lst us)) := Keep.write (List.mem_of_getElem? h)
  exact ⟨k, R.write h ⟨us, upd_same, r.keep k⟩⟩
end

/-! ### len, list, tuple, all, any, sum, int, str, abs, min, max -/
def lenW : List W → Gs → Res
  | [.str s], G => if s.length ≤ SZ then .ok (.int s.length) G else .stuck
  | [.lst xs], G => .ok (.int xs.length) G
  | [.tup xs], G => .ok (.int xs.length) G
  | [.fz xs], G => .ok (.int xs.length) G
  | [.ref i], G => (match G[i]? with
    | some (.lst xs) => .ok (.int xs.length) G
    | _ => .stuck)
  | _, _ => .stuck
@[simp] theorem lenW_e1 : lenW [.str s] G = if s.length ≤ SZ then .ok (.int s.length) G else .stuck := rfl
@[simp] theorem lenW_e2 : lenW [.lst xs] G = .ok (.int xs.length) G := rfl
@[simp] theorem lenW_e3 : lenW [.tup xs] G = .ok (.int xs.length) G := rfl
@[simp] theorem lenW_e4 : lenW [.fz xs] G = .ok (.int xs.length) G := rfl
@[simp] theorem lenW_e5 : lenW [.ref i] G = (match G[i]? with
    | some (.lst xs) => .ok (.int xs.length) G
    | _ => .stuck) := rfl
theorem RWs.inv1 {T : Tx} {m : Mm} {H : Hp} {w : W} {vs : List V} (r : RWs T m H [w] vs) : ∃ v, vs = [v] ∧ RW T m H w v := by
  cases r with
  | cons r t => cases t; exact ⟨_, rfl, r⟩
theorem RWs.inv2 {T : Tx} {m : Mm} {H : Hp} {w u : W} {vs : List V} (r : RWs T m H [w, u] vs) : ∃ v x, vs = [v, x] ∧ RW T m H w v ∧ RW T m H u x := by
  cases r with
  | cons r t => cases t with
    | cons q t => cases t; exact ⟨_, _, rfl, r, q⟩
theorem ib_len {T : Tx} {W0 : WX} : ImpB T W0 (fun xs H Q => ∃ x n, xs = [x] ∧ LenV T.K x H n ∧ Q (.int n) H) lenW := by
  intro m G σ H Q ws vs hG r0 ho
  unfold lenW at ho
  split at ho
  · rename_i s
    obtain ⟨v, rfl, r⟩ := r0.inv1
    split at ho
    · rename_i h
      cases r
      exact ⟨.str ⟨s.toArray⟩, s.length, rfl, ⟨by rw [str_len, ← sz_eq]; exact h, (str_len s).symm⟩, ho.now hG (.int _)⟩
    · exact False.elim ho
  · obtain ⟨v, rfl, r⟩ := r0.inv1
    cases r with
    | @lst _ _ a r n f => exact ⟨.ref a, _, rfl, .inl ⟨_, SqL.of f, r.length⟩, ho.now hG (.int _)⟩
  · obtain ⟨v, rfl, r⟩ := r0.inv1
    cases r with
    | @tup _ _ a r f => exact ⟨.ref a, _, rfl, .inr ⟨_, f.sq, r.length⟩, ho.now hG (.int _)⟩
  · obtain ⟨v, rfl, r⟩ := r0.inv1
    cases r with
    | @fz _ _ a r f => exact ⟨.ref a, _, rfl, .inl ⟨_, f.sq, r.length⟩, ho.now hG (.int _)⟩
  · obtain ⟨v, rfl, r⟩ := r0.inv1
    cases r with
    | @ref _ a h =>
      split at ho
      · rename_i xs e
        obtain ⟨us, e1, r1⟩ := hG.lst h e
        exact ⟨.ref a, _, rfl, .inl ⟨_, SqL.of e1, r1.length⟩, ho.now hG (.int _)⟩
      · exact False.elim ho
  · exact False.elim ho
/-- what may be walked at once -/
def itemsW : W → Gs → Option (List W)
  | .lst xs, G => some xs
  | .tup xs, G => some xs
  | .fz xs, G => some xs
  | .ref i, G => (match G[i]? with
    | some (.lst xs) => some xs
    | _ => none)
  | _, _ => none
@[simp] theorem itemsW_e1 : itemsW (.lst xs) G = some xs := rfl
@[simp] theorem itemsW_e2 : itemsW (.tup xs) G = some xs := rfl
@[simp] theorem itemsW_e3 : itemsW (.fz xs) G = some xs := rfl
@[simp] theorem itemsW_e4 : itemsW (.ref i) G = (match G[i]? with
    | some (.lst xs) => some xs
    | _ => none) := rfl
theorem items_ok {T : Tx} {m : Mm} {G : Gs} {H : Hp} {w : W} {v : V} {xs : List W} (hG : RG T m G H) (r : RW T m H w v) (e : itemsW w G = some xs) : ∃ p ys, v = .ref p ∧ (SqL T.K H p ys ∨ SqT T.K H p ys) ∧ RWs T m H xs ys := by
  cases r with
  | lst r n f => cases e; exact ⟨_, _, rfl, .inl (SqL.of f), r⟩
  | tup r f => cases e; exact ⟨_, _, rfl, .inr f.sq, r⟩
  | fz r f => cases e; exact ⟨_, _, rfl, .inl f.sq, r⟩
  | @ref i a h =>
    unfold itemsW at e
    simp only at e
    split at e
    · rename_i ys e2
      cases e
      obtain ⟨us, e1, r1⟩ := hG.lst h e2
      exact ⟨_, _, rfl, .inl (SqL.of e1), r1⟩
    · cases e
  | _ => cases e
def listW : List W → Gs → Res
  | [w], G => (match itemsW w G with
    | some xs => .ok (.lst xs) G
    | none => .stuck)
  | _, _ => .stuck
@[simp] theorem listW_e1 : listW [w] G = (match itemsW w G with
    | some xs => .ok (.lst xs) G
    | none => .stuck) := rfl
def listMW : List W → Gs → Res
  | [w], G => (match itemsW w G with
    | some xs => .ok (.ref G.length) (G ++ [.lst xs])
    | none => .stuck)
  | _, _ => .stuck
@[simp] theorem listMW_e1 : listMW [w] G = (match itemsW w G with
    | some xs => .ok (.ref G.length) (G ++ [.lst xs])
    | none => .stuck) := rfl
theorem ib_list {T : Tx} {W0 : WX} : ImpB T W0 (fun xs H Q => ∃ p ys, xs = [.ref p] ∧ (SqL T.K H p ys ∨ SqT T.K H p ys) ∧ ∀ l, H l = none → Q (.ref l) (upd H l (.lst ys))) listW := by
  intro m G σ H Q ws vs hG r0 ho
  unfold listW at ho
  split at ho
  · obtain ⟨v, rfl, r⟩ := r0.inv1
    split at ho
    · rename_i xs e
      obtain ⟨p, ys, rfl, h, q⟩ := items_ok hG r e
      exact ⟨p, ys, rfl, h, fun l hl => ho.newL hG q hl⟩
    · exact False.elim ho
  · exact False.elim ho
theorem ib_listM {T : Tx} {W0 : WX} : ImpB T W0 (fun xs H Q => ∃ p ys, xs = [.ref p] ∧ (SqL T.K H p ys ∨ SqT T.K H p ys) ∧ ∀ l, H l = none → Q (.ref l) (upd H l (.lst ys))) listMW := by
  intro m G σ H Q ws vs hG r0 ho
  unfold listMW at ho
  split at ho
  · obtain ⟨v, rfl, r⟩ := r0.inv1
    split at ho
    · rename_i xs e
      obtain ⟨p, ys, rfl, h, q⟩ := items_ok hG r e
      exact ⟨p, ys, rfl, h, fun l hl => ho.newM hG q hl⟩
    · exact False.elim ho
  · exact False.elim ho
def tupleW : List W → Gs → Res
  | [.tup xs], G => .ok (.tup xs) G
  | [.lst xs], G => .ok (.tup xs) G
  | [.ref i], G => (match G[i]? with
    | some (.lst xs) => .ok (.tup xs) G
    | _ => .stuck)
  | _, _ => .stuck
@[simp] theorem tupleW_e1 : tupleW [.tup xs] G = .ok (.tup xs) G := rfl
@[simp] theorem tupleW_e2 : tupleW [.lst xs] G = .ok (.tup xs) G := rfl
@[simp] theorem tupleW_e3 : tupleW [.ref i] G = (match G[i]? with
    | some (.lst xs) => .ok (.tup xs) G
    | _ => .stuck) := rfl
theorem ib_tuple {T : Tx} {W0 : WX} : ImpB T W0 (fun xs H Q => ∃ p ys, xs = [.ref p] ∧ ((SqL T.K H p ys ∧ ∀ l, H l = none → Q (.ref l) (upd H l (.tup ys))) ∨ (SqT T.K H p ys ∧ Q (.ref p) H))) tupleW := by
  intro m G σ H Q ws vs hG r0 ho
  unfold tupleW at ho
  split at ho
  · obtain ⟨v, rfl, r⟩ := r0.inv1
    cases r with
    | tup r f => exact ⟨_, _, rfl, .inr ⟨f.sq, ho.now hG (.tup r f)⟩⟩
  · obtain ⟨v, rfl, r⟩ := r0.inv1
    cases r with
    | lst r n f => exact ⟨_, _, rfl, .inl ⟨SqL.of f, fun l hl => ho.newT hG r hl⟩⟩
  · obtain ⟨v, rfl, r⟩ := r0.inv1
    cases r with
    | ref h =>
      split at ho
      · rename_i xs e
        obtain ⟨us, e1, r1⟩ := hG.lst h e
        exact ⟨_, _, rfl, .inl ⟨SqL.of e1, fun l hl => ho.newT hG r1 hl⟩⟩
      · exact False.elim ho
  · exact False.elim ho
@[simp] def blsOf : List W → Option (List Bool)
  | [] => some []
  | .bl b :: r => (blsOf r).map (b :: ·)
  | _ => none
@[simp] def intsOf : List W → Option (List Int)
  | [] => some []
  | .int i :: r => (intsOf r).map (i :: ·)
  | _ => none
@[simp] def strsOf : List W → Option (List (List Nat))
  | [] => some []
  | .str s :: r => (strsOf r).map (s :: ·)
  | _ => none
theorem bls_ok {T : Tx} {m : Mm} {H : Hp} : ∀ {ws : List W} {vs : List V} {bs : List Bool}, RWs T m H ws vs → blsOf ws = some bs → vs = bs.map V.bl
  | _, _, _, .nil, e => by cases e; rfl
  | w :: ws, _, _, .cons r t, e => by
    cases r with
    | bl b =>
      simp only [blsOf] at e
      cases e1 : blsOf ws with
      | none => rw [e1] at e; cases e
      | some bs => rw [e1] at e; cases e; rw [bls_ok t e1]; rfl
    | _ => cases e
theorem ints_ok {T : Tx} {m : Mm} {H : Hp} : ∀ {ws : List W} {vs : List V} {bs : List Int}, RWs T m H ws vs → intsOf ws = some bs → vs = bs.map V.int
  | _, _, _, .nil, e => by cases e; rfl
  | w :: ws, _, _, .cons r t, e => by
    cases r with
    | int b =>
      simp only [intsOf] at e
      cases e1 : intsOf ws with
      | none => rw [e1] at e; cases e
      | some bs => rw [e1] at e; cases e; rw [ints_ok t e1]; rfl
    | _ => cases e
theorem strs_ok {T : Tx} {m : Mm} {H : Hp} : ∀ {ws : List W} {vs : List V} {bs : List (List Nat)}, RWs T m H ws vs → strsOf ws = some bs → vs = (bs.map fun s => (⟨s.toArray⟩ : Str)).map V.str
  | _, _, _, .nil, e => by cases e; rfl
  | w :: ws, _, _, .cons r t, e => by
    cases r with
    | str b =>
      simp only [strsOf] at e
      cases e1 : strsOf ws with
      | none => rw [e1] at e; cases e
      | some bs => rw [e1] at e; cases e; rw [strs_ok t e1]; rfl
    | _ => cases e
/-- the items of a list, frozen or not -/
def lstW : W → Gs → Option (List W)
  | .lst xs, G => some xs
  | .ref i, G => (match G[i]? with
    | some (.lst xs) => some xs
    | _ => none)
  | _, _ => none
@[simp] theorem lstW_e1 : lstW (.lst xs) G = some xs := rfl
@[simp] theorem lstW_e2 : lstW (.ref i) G = (match G[i]? with
    | some (.lst xs) => some xs
    | _ => none) := rfl
theorem lst_ok {T : Tx} {m : Mm} {G : Gs} {H : Hp} {w : W} {v : V} {xs : List W} (hG : RG T m G H) (r : RW T m H w v) (e : lstW w G = some xs) : ∃ p ys, v = .ref p ∧ H p = some (.lst ys) ∧ RWs T m H xs ys := by
  cases r with
  | lst r n f => cases e; exact ⟨_, _, rfl, f, r⟩
  | @ref i a h =>
    unfold lstW at e
    simp only at e
    split at e
    · rename_i ys e2
      cases e
      obtain ⟨us, e1, r1⟩ := hG.lst h e2
      exact ⟨_, _, rfl, e1, r1⟩
    · cases e
  | _ => cases e
def allW : List W → Gs → Res
  | [w], G => (match (lstW w G).bind blsOf with
    | some bs => .ok (.bl (bs.all id)) G
    | none => .stuck)
  | _, _ => .stuck
@[simp] theorem allW_e1 : allW [w] G = (match (lstW w G).bind blsOf with
    | some bs => .ok (.bl (bs.all id)) G
    | none => .stuck) := rfl
def anyW : List W → Gs → Res
  | [w], G => (match (lstW w G).bind blsOf with
    | some bs => .ok (.bl (bs.any id)) G
    | none => .stuck)
  | _, _ => .stuck
@[simp] theorem anyW_e1 : anyW [w] G = (match (lstW w G).bind blsOf with
    | some bs => .ok (.bl (bs.any id)) G
    | none => .stuck) := rfl
def sumW : List W → Gs → Res
  | [w], G => (match (lstW w G).bind intsOf with
    | some bs => .ok (.int bs.sum) G
    | none => .stuck)
  | _, _ => .stuck
@[simp] theorem sumW_e1 : sumW [w] G = (match (lstW w G).bind intsOf with
    | some bs => .ok (.int bs.sum) G
    | none => .stuck) := rfl
theorem ib_all {T : Tx} {W0 : WX} : ImpB T W0 (rAll T.K) allW := by
  intro m G σ H Q ws vs hG r0 ho
  unfold allW at ho
  split at ho
  · obtain ⟨v, rfl, r⟩ := r0.inv1
    split at ho
    · rename_i bs e
      obtain ⟨xs, e1, e2⟩ := Option.bind_eq_some_iff.mp e
      obtain ⟨p, ys, rfl, f, r⟩ := lst_ok hG r e1
      have := bls_ok r e2
      subst this
      exact ⟨_, bs, rfl, SqL.of f, ho.now hG (.bl _)⟩
    · exact False.elim ho
  · exact False.elim ho
theorem ib_any {T : Tx} {W0 : WX} : ImpB T W0 (rAny T.K) anyW := by
  intro m G σ H Q ws vs hG r0 ho
  unfold anyW at ho
  split at ho
  · obtain ⟨v, rfl, r⟩ := r0.inv1
    split at ho
    · rename_i bs e
      obtain ⟨xs, e1, e2⟩ := Option.bind_eq_some_iff.mp e
      obtain ⟨p, ys, rfl, f, r⟩ := lst_ok hG r e1
      have := bls_ok r e2
      subst this
      exact ⟨_, bs, rfl, SqL.of f, ho.now hG (.bl _)⟩
    · exact False.elim ho
  · exact False.elim ho
theorem ib_sum {T : Tx} {W0 : WX} : ImpB T W0 (rSum T.K) sumW := by
  intro m G σ H Q ws vs hG r0 ho
  unfold sumW at ho
  split at ho
  · obtain ⟨v, rfl, r⟩ := r0.inv1
    split at ho
    · rename_i bs e
      obtain ⟨xs, e1, e2⟩ := Option.bind_eq_some_iff.mp e
      obtain ⟨p, ys, rfl, f, r⟩ := lst_ok hG r e1
      have := ints_ok r e2
      subst this
      exact ⟨_, bs, rfl, SqL.of f, ho.now hG (.int _)⟩
    · exact False.elim ho
  · exact False.elim ho
def intW : List W → Gs → Res
  | [.int i], G => .ok (.int i) G
  | [.bl b], G => .ok (.int (if b then 1 else 0)) G
  | _, _ => .stuck
@[simp] theorem intW_e1 : intW [.int i] G = .ok (.int i) G := rfl
@[simp] theorem intW_e2 : intW [.bl b] G = .ok (.int (if b then 1 else 0)) G := rfl
theorem ib_int {T : Tx} {W0 : WX} : ImpB T W0 (fun xs H Q => (∃ i, xs = [.int i] ∧ Q (.int i) H) ∨ ∃ k, xs = [.bl k] ∧ Q (.int (if k then 1 else 0)) H) intW := by
  intro m G σ H Q ws vs hG r0 ho
  unfold intW at ho
  split at ho
  · obtain ⟨v, rfl, r⟩ := r0.inv1
    cases r with
    | int i => exact .inl ⟨_, rfl, ho.now hG (.int _)⟩
  · obtain ⟨v, rfl, r⟩ := r0.inv1
    cases r with
    | bl i => exact .inr ⟨_, rfl, ho.now hG (.int _)⟩
  · exact False.elim ho
def absW : List W → Gs → Res
  | [.int i], G => .ok (.int (if i < 0 then -i else i)) G
  | _, _ => .stuck
@[simp] theorem absW_e1 : absW [.int i] G = .ok (.int (if i < 0 then -i else i)) G := rfl
theorem ib_abs {T : Tx} {W0 : WX} : ImpB T W0 (fun xs H Q => ∃ i, xs = [.int i] ∧ Q (.int (if i < 0 then -i else i)) H) absW := by
  intro m G σ H Q ws vs hG r0 ho
  unfold absW at ho
  split at ho
  · obtain ⟨v, rfl, r⟩ := r0.inv1
    cases r with
    | int i => exact ⟨_, rfl, ho.now hG (.int _)⟩
  · exact False.elim ho
def min2W : List W → Gs → Res
  | [.int i, .int j], G => .ok (.int (if j < i then j else i)) G
  | _, _ => .stuck
@[simp] theorem min2W_e1 : min2W [.int i, .int j] G = .ok (.int (if j < i then j else i)) G := rfl
theorem ib_min2 {T : Tx} {W0 : WX} : ImpB T W0 (fun xs H Q => ∃ i j, xs = [.int i, .int j] ∧ Q (.int (if j < i then j else i)) H) min2W := by
  intro m G σ H Q ws vs hG r0 ho
  unfold min2W at ho
  split at ho
  · obtain ⟨v, u, rfl, r, q⟩ := r0.inv2
    cases r with
    | int i => cases q with
      | int j => exact ⟨_, _, rfl, ho.now hG (.int _)⟩
  · exact False.elim ho
def max2W : List W → Gs → Res
  | [.int i, .int j], G => .ok (.int (if j > i then j else i)) G
  | _, _ => .stuck
@[simp] theorem max2W_e1 : max2W [.int i, .int j] G = .ok (.int (if j > i then j else i)) G := rfl
theorem ib_max2 {T : Tx} {W0 : WX} : ImpB T W0 (fun xs H Q => ∃ i j, xs = [.int i, .int j] ∧ Q (.int (if j > i then j else i)) H) max2W := by
  intro m G σ H Q ws vs hG r0 ho
  unfold max2W at ho
  split at ho
  · obtain ⟨v, u, rfl, r, q⟩ := r0.inv2
    cases r with
    | int i => cases q with
      | int j => exact ⟨_, _, rfl, ho.now hG (.int _)⟩
  · exact False.elim ho

/-! ### isinstance with built-in types -/
def isTy : W → Gs → Ty → Option Bool
  | .non, G, t => some false
  | .bl _, G, t => some (t == .bool || t == .int)
  | .int _, G, t => some (t == .int)
  | .str _, G, t => some (t == .str)
  | .tup _, G, t => some (t == .tuple)
  | .lst _, G, t => some (t == .list)
  | .fz _, G, t => some (t == .list)
  | .dic _, G, t => some (t == .dict)
  | .ref i, G, t => (match G[i]? with
    | some (.lst _) => some (t == .list)
    | some (.dic _) => some (t == .dict)
    | _ => none)
  | _, _, _ => none
@[simp] theorem isTy_e1 : isTy (.non) G t = some false := rfl
@[simp] theorem isTy_e2 : isTy (.bl x1) G t = some (t == .bool || t == .int) := rfl
@[simp] theorem isTy_e3 : isTy (.int x1) G t = some (t == .int) := rfl
@[simp] theorem isTy_e4 : isTy (.str x1) G t = some (t == .str) := rfl
@[simp] theorem isTy_e5 : isTy (.tup x1) G t = some (t == .tuple) := rfl
@[simp] theorem isTy_e6 : isTy (.lst x1) G t = some (t == .list) := rfl
@[simp] theorem isTy_e7 : isTy (.fz x1) G t = some (t == .list) := rfl
@[simp] theorem isTy_e8 : isTy (.dic x1) G t = some (t == .dict) := rfl
@[simp] theorem isTy_e9 : isTy (.ref i) G t = (match G[i]? with
    | some (.lst _) => some (t == .list)
    | some (.dic _) => some (t == .dict)
    | _ => none) := rfl
/-- the keys are numbers and texts -/
def dFlat : List W → Bool
  | .tup [.tup _, _] :: _ => false
  | _ => true
theorem RWt.nflat {T : Tx} {m : Mm} {H : Hp} : ∀ {es : List W} {kvs : List (List Key × V)}, RWt T m H es kvs → es ≠ [] → dFlat es = false
  | _, _, .nil, z => absurd rfl z
  | _, _, .cons _ _, _ => rfl
def tyName : W → Gs → Option String
  | .non, _ => some "NoneType"
  | .bl _, _ => some "bool"
  | .int _, _ => some "int"
  | .str _, _ => some "str"
  | .tup _, _ => some "tuple"
  | .lst _, _ => some "list"
  | .fz _, _ => some "list"
  | .dic es, _ => if dFlat es then some "dict" else none
  | .ref i, G => (match G[i]? with
    | some (.lst _) => some "list"
    | some (.dic es) => if dFlat es then some "dict" else none
    | _ => none)
  | _, _ => none
@[simp] theorem tyName_e1 : tyName (.non) x1 = some "NoneType" := rfl
@[simp] theorem tyName_e2 : tyName (.bl x1) x2 = some "bool" := rfl
@[simp] theorem tyName_e3 : tyName (.int x1) x2 = some "int" := rfl
@[simp] theorem tyName_e4 : tyName (.str x1) x2 = some "str" := rfl
@[simp] theorem tyName_e5 : tyName (.tup x1) x2 = some "tuple" := rfl
@[simp] theorem tyName_e6 : tyName (.lst x1) x2 = some "list" := rfl
@[simp] theorem tyName_e7 : tyName (.fz x1) x2 = some "list" := rfl
@[simp] theorem tyName_e8 : tyName (.dic x1) x2 = if dFlat x1 then some "dict" else none := rfl
@[simp] theorem tyName_e9 : tyName (.ref i) G = (match G[i]? with
    | some (.lst _) => some "list"
    | some (.dic es) => if dFlat es then some "dict" else none
    | _ => none) := rfl
theorem tyName_ok {T : Tx} {m : Mm} {G : Gs} {H : Hp} {w : W} {v : V} {n : String} (hG : RG T m G H) (r : RW T m H w v) (e : tyName w G = some n) : TyX T.K H v (.type n) := by
  cases r with
  | non => cases e; exact .base .non
  | bl b => cases e; exact .base (.bl b)
  | int b => cases e; exact .base (.int b)
  | str b => cases e; exact .base (.str _)
  | tup r f =>
    cases e
    rcases f with ⟨_, h⟩ | ⟨⟨o, its, n, h, c, _⟩, _⟩
    · exact .base (.tup h)
    · exact .kTuple h c
  | lst r n f => cases e; exact .base (.lst f)
  | fz r f =>
    cases e
    rcases f with ⟨_, h | ⟨o, h⟩⟩ | ⟨o, its, n, h, c, _⟩
    · exact .base (.lst h)
    · exact .base (.frz h)
    · exact .kList h c
  | dic r n f =>
    unfold tyName at e
    simp only at e
    split at e
    · cases e
      rcases f with h | ⟨o, h⟩
      · exact .base (.dK h)
      · exact .fDict h
    · cases e
  | dit r z n f =>
    unfold tyName at e
    simp only at e
    rw [RWt.nflat r z] at e
    cases e
  | @ref i a h =>
    unfold tyName at e
    simp only at e
    split at e
    · rename_i xs e2
      cases e
      obtain ⟨us, e1, _⟩ := hG.ob i _ a e2 h
      exact .base (.lst e1)
    · rename_i xs e2
      split at e
      · rename_i hf
        cases e
        rcases hG.ob i _ a e2 h with ⟨us, e1, _⟩ | ⟨us, e1, z, r⟩
        · exact .base (.dK e1)
        · rw [RWt.nflat r z] at hf; cases hf
      · cases e
    · cases e
  | _ => cases e
theorem kit_all {K : PySem.W.Frag} {w : W} {G : Gs} {n : String} {t : Ty} {b : Bool} (e : tyName w G = some n) (h : isTy w G t = some b) : PySem.W.kitOne K (.type n) (.type t.nm) = some b := by
  have key : ∀ {n : String}, kitB n t.nm = some b → PySem.W.kitOne K (.type n) (.type t.nm) = some b := fun h => kit_ty h
  cases w with
  | non => cases e; cases h; cases t <;> exact key (by decide +kernel)
  | bl _ => cases e; cases h; cases t <;> exact key (by decide +kernel)
  | int _ => cases e; cases h; cases t <;> exact key (by decide +kernel)
  | str _ => cases e; cases h; cases t <;> exact key (by decide +kernel)
  | tup _ => cases e; cases h; cases t <;> exact key (by decide +kernel)
  | lst _ => cases e; cases h; cases t <;> exact key (by decide +kernel)
  | fz _ => cases e; cases h; cases t <;> exact key (by decide +kernel)
  | dic _ =>
    unfold tyName at e
    simp only at e
    split at e
    · cases e; cases h; cases t <;> exact key (by decide +kernel)
    · cases e
  | ref i =>
    unfold tyName at e
    unfold isTy at h
    simp only at e h
    split at e
    · rename_i e2
      rw [e2] at h
      cases e; cases h; cases t <;> exact key (by decide +kernel)
    · rename_i e2
      rw [e2] at h
      split at e
      · cases e; cases h; cases t <;> exact key (by decide +kernel)
      · cases e
    · cases e
  | _ => cases e
/-- the answer against several types -/
@[simp] def isTys (w : W) (G : Gs) : List W → Option Bool
  | [] => some false
  | .ty t :: r => (match isTy w G t, isTys w G r with
    | some a, some b => some (a || b)
    | _, _ => none)
  | _ => none
def isiW : List W → Gs → Res
  | [w, .ty t], G => (match tyName w G, isTy w G t with
    | some _, some b => .ok (.bl b) G
    | _, _ => .stuck)
  | [w, .tup ts], G => (match tyName w G, isTys w G ts with
    | some _, some b => .ok (.bl b) G
    | _, _ => .stuck)
  | _, _ => .stuck
@[simp] theorem isiW_e1 : isiW [w, .ty t] G = (match tyName w G, isTy w G t with
    | some _, some b => .ok (.bl b) G
    | _, _ => .stuck) := rfl
@[simp] theorem isiW_e2 : isiW [w, .tup ts] G = (match tyName w G, isTys w G ts with
    | some _, some b => .ok (.bl b) G
    | _, _ => .stuck) := rfl
def rIsiU (K : PySem.W.Frag) : List V → Hp → VK → Prop := fun xs H Q => rIsi K xs H Q ∨ rIsiT K xs H Q ∨ rIsiK K xs H Q
theorem cr_isiU {X : Cx} : CallR X (.builtin "isinstance") (rIsiU X.K) := by
  intro pins s σ H xs us Q I r h
  rcases h with h | h | h
  · exact call_isi pins s σ H xs us Q I r h
  · exact call_isiT pins s σ H xs us Q I r h
  · exact call_isiK pins s σ H xs us Q I r h
theorem isTys_ok {T : Tx} {m : Mm} {G : Gs} {H : Hp} {w : W} {n : String} (e : tyName w G = some n) : ∀ {ts : List W} {vs : List V} {b : Bool}, RWs T m H ts vs → isTys w G ts = some b → ∃ us, Paired ClsV vs us ∧ PySem.W.kitAny T.K (.type n) us = some b
  | _, _, _, .nil, h => by cases h; exact ⟨[], .nil, rfl⟩
  | t :: ts, _, b, .cons r q, h => by
    cases r with
    | ty t =>
      simp only [isTys] at h
      split at h
      · rename_i a b' e1 e2
        cases h
        obtain ⟨us, p, k⟩ := isTys_ok e q e2
        refine ⟨_ :: us, .cons (.ty _) p, kitAny_cons (kit_all e e1) (fun z => ?_) (fun z => by rw [z]; rfl)⟩
        rw [z]
        exact k
      · cases h
    | _ => cases h
theorem ib_isi {T : Tx} {W0 : WX} : ImpB T W0 (rIsiU T.K) isiW := by
  intro m G σ H Q ws vs hG r0 ho
  unfold isiW at ho
  split at ho
  · rename_i w t
    obtain ⟨v, u, rfl, r, q⟩ := r0.inv2
    split at ho
    · rename_i n b e1 e2
      cases q with
      | ty t => exact .inl ⟨_, _, _, _, b, rfl, .ty _, tyName_ok hG r e1, kit_all e1 e2, ho.now hG (.bl b)⟩
    · exact False.elim ho
  · rename_i w ts
    obtain ⟨v, u, rfl, r, q⟩ := r0.inv2
    split at ho
    · rename_i n b e1 e2
      cases q with
      | tup q f =>
        obtain ⟨us, p, k⟩ := isTys_ok e1 q e2
        rcases f with ⟨_, h⟩ | ⟨⟨⟨cl, dd, da, sl⟩, its, n, h, c, d, z, vv⟩, _⟩
        · exact .inr (.inl ⟨_, _, _, _, us, b, rfl, h, p, tyName_ok hG r e1, k, ho.now hG (.bl b)⟩)
        · have c : cl = _ := c
          have d : da = _ := d
          subst c; subst d
          have eu := ClsV.all p vv
          refine .inr (.inr ⟨_, _, dd, its.toList, n, sl, _, b, rfl, by simpa using h, tyName_ok hG r e1, ?_, ho.now hG (.bl b)⟩)
          rw [eu]
          exact k
    · exact False.elim ho
  · exact False.elim ho
end U

namespace U
open PySem
open L2

/-! ### o[i], o[a:b] -/
def ixB : W → Int → Gs → Option W
  | .lst xs, i, G => atI xs i
  | .tup xs, i, G => atI xs i
  | .fz xs, i, G => atI xs i
  | .str s, i, G => if s.length ≤ SZ then (atI s i).map fun c => .str [c] else none
  | .ref k, i, G => (match G[k]? with
    | some (.lst xs) => atI xs i
    | _ => none)
  | _, _, _ => none
@[simp] theorem ixB_e1 : ixB (.lst xs) i G = atI xs i := rfl
@[simp] theorem ixB_e2 : ixB (.tup xs) i G = atI xs i := rfl
@[simp] theorem ixB_e3 : ixB (.fz xs) i G = atI xs i := rfl
@[simp] theorem ixB_e4 : ixB (.str s) i G = if s.length ≤ SZ then (atI s i).map fun c => .str [c] else none := rfl
@[simp] theorem ixB_e5 : ixB (.ref k) i G = (match G[k]? with
    | some (.lst xs) => atI xs i
    | _ => none) := rfl
def ixW : OF
  | a, .int i, G => (match ixB a i G with
    | some w => .ok w G
    | none => .stuck)
  | _, _, _ => .stuck
@[simp] theorem ixW_e1 : ixW a (.int i) G = (match ixB a i G with
    | some w => .ok w G
    | none => .stuck) := rfl
theorem atI_ok {T : Tx} {m : Mm} {H : Hp} {ws : List W} {vs : List V} {i : Int} {w : W} (r : RWs T m H ws vs) (e : atI ws i = some w) : ∃ v, atI vs i = some v ∧ RW T m H w v := by
  unfold atI at e ⊢
  obtain ⟨j, e1, e2⟩ := Option.bind_eq_some_iff.mp e
  obtain ⟨v, h1, h2⟩ := r.get e2
  exact ⟨v, by rw [← r.length, e1]; exact h1, h2⟩
theorem io_ix {T : Tx} {W0 : WX} : ImpO T W0 (rIx T.K) ixW := by
  intro m G σ H Q a b x y hG ra rb ho
  unfold ixW at ho
  split at ho
  · rename_i i
    cases rb
    split at ho
    · rename_i w e
      cases ra with
      | lst r n f =>
        obtain ⟨v, e1, r1⟩ := atI_ok r e
        exact .inl ⟨_, _, i, v, rfl, rfl, SqL.of f, e1, ho.now hG r1⟩
      | fz r f =>
        obtain ⟨v, e1, r1⟩ := atI_ok r e
        exact .inl ⟨_, _, i, v, rfl, rfl, f.sq, e1, ho.now hG r1⟩
      | tup r f =>
        obtain ⟨v, e1, r1⟩ := atI_ok r e
        exact .inr (.inl ⟨_, _, i, v, rfl, rfl, f.sq, e1, ho.now hG r1⟩)
      | str s =>
        unfold ixB at e
        simp only at e
        split at e
        · rename_i hz
          obtain ⟨c, e1, rfl⟩ := Option.map_eq_some_iff.mp e
          exact .inr (.inr ⟨_, i, c, rfl, rfl, by rw [str_len, ← sz_eq]; exact hz, by simpa using e1, ho.now hG (.str [c])⟩)
        · cases e
      | @ref k a h =>
        unfold ixB at e
        simp only at e
        split at e
        · rename_i xs e2
          obtain ⟨us, e3, r3⟩ := hG.lst h e2
          obtain ⟨v, e1, r1⟩ := atI_ok r3 e
          exact .inl ⟨_, _, i, v, rfl, rfl, SqL.of e3, e1, ho.now hG r1⟩
        · cases e
      | _ => cases e
    · exact False.elim ho
  · exact False.elim ho
section
variable {T : Tx} {X : Cx} {W0 : WX} {a b : Expr} {fa fb : EF} {pos : Pos}
theorem fe_ix (c : Ctx T X W0) (ha : FE T X W0 a fa) (hb : FE T X W0 b fb) (hs : PlainIx b := by exact fun _ _ => rfl) : FE T X W0 (.Subscript a b pos) (eOp ixW fa fb) := by
  obtain ⟨ta, ha, ia⟩ := ha
  obtain ⟨tb, hb, ib⟩ := hb
  refine ⟨_, pe_ix ix_seq ha hb hs, ?_⟩
  rw [c.hK]
  exact imp_op io_ix ia ib
end
def cut {α : Type} (xs : List α) (lo hi : Option Int) : List α := (xs.drop (HT.sIx xs.length 0 lo)).take (HT.sIx xs.length xs.length hi - HT.sIx xs.length 0 lo)
theorem RWs.cut {T : Tx} {m : Mm} {H : Hp} {ws : List W} {vs : List V} (r : RWs T m H ws vs) (lo hi : Option Int) : RWs T m H (U.cut ws lo hi) (cutV vs lo hi) := by
  unfold U.cut cutV
  rw [r.length]
  exact (r.drop _).take _
def cutW : W → Option Int → Option Int → Gs → Res
  | .lst xs, lo, hi, G => .ok (.lst (cut xs lo hi)) G
  | .fz xs, lo, hi, G => .ok (.lst (cut xs lo hi)) G
  | .tup xs, lo, hi, G => .ok (.tup (cut xs lo hi)) G
  | .str s, lo, hi, G => if s.length ≤ SZ then .ok (.str (cut s lo hi)) G else .stuck
  | .ref i, lo, hi, G => (match G[i]? with
    | some (.lst xs) => .ok (.lst (cut xs lo hi)) G
    | _ => .stuck)
  | _, _, _, _ => .stuck
@[simp] theorem cutW_e1 : cutW (.lst xs) lo hi G = .ok (.lst (cut xs lo hi)) G := rfl
@[simp] theorem cutW_e2 : cutW (.fz xs) lo hi G = .ok (.lst (cut xs lo hi)) G := rfl
@[simp] theorem cutW_e3 : cutW (.tup xs) lo hi G = .ok (.tup (cut xs lo hi)) G := rfl
@[simp] theorem cutW_e4 : cutW (.str s) lo hi G = if s.length ≤ SZ then .ok (.str (cut s lo hi)) G else .stuck := rfl
@[simp] theorem cutW_e5 : cutW (.ref i) lo hi G = (match G[i]? with
    | some (.lst xs) => .ok (.lst (cut xs lo hi)) G
    | _ => .stuck) := rfl
/-- a slice's bound -/
abbrev PF := Ls → Gs → (Option Int → Gs → Res) → Res
@[simp] def pNo : PF := fun _ G k => k none G
@[simp] def pSm (f : EF) : PF := fun ls G k => (f ls G).bind fun w G1 => match w with
  | .int i => k (some i) G1
  | _ => .stuck
def ImpP (T : Tx) (W0 : WX) (t : TO) (f : PF) : Prop :=
  ∀ (m : Mm) (ls : Ls) (G : Gs) (σ : St) (H : Hp) (Q : VK) (R : Option Int → Hp → Prop) (k : Option Int → Gs → Res), RG T m G H → RL T m H ls σ → Out T W0 m H σ Q (f ls G k) →
    (∀ (o : Option Int) (G1 : Gs) (m1 : Mm) (H1 : Hp), Keep m H m1 H1 → RG T m1 G1 H1 → RL T m1 H1 ls σ → Out T W0 m1 H1 σ Q (k o G1) → R o H1) → t σ H R
def FP (T : Tx) (X : Cx) (W0 : WX) (e : Option Expr) (f : PF) : Prop := ∃ t, PO X e t ∧ ImpP T W0 t f
@[simp] def eSl (fe : EF) (fl fh : PF) : EF := fun ls G => (fe ls G).bind fun w G1 => fl ls G1 fun lo G2 => fh ls G2 fun hi G3 => cutW w lo hi G3
section
variable {T : Tx} {X : Cx} {W0 : WX} {e : Expr} {fe : EF} {lo hi : Option Expr} {fl fh : PF} {pos p2 : Pos}
theorem fp_no : FP T X W0 none pNo := ⟨_, po_none, fun m ls G σ H Q R k hG hL ho hk => hk none G m H (.refl _ _) hG hL ho⟩
theorem fp_some (h : FE T X W0 e fe) : FP T X W0 (some e) (pSm fe) := by
  obtain ⟨t, h, i⟩ := h
  refine ⟨_, po_some h, fun m ls G σ H Q R k hG hL ho hk => ?_⟩
  refine i.go hG hL ho fun w G1 m1 v H1 k1 g1 r1 l1 o1 => ?_
  cases r1 with
  | int i => exact ⟨i, rfl, hk (some i) G1 m1 H1 k1 g1 l1 o1⟩
  | _ => exact False.elim o1
def rSlU (K : PySem.W.Frag) : V → Option Int → Option Int → Hp → VK → Prop := fun x lo hi H Q => rSlL K x lo hi H Q ∨ rSlA K x lo hi H Q ∨ rSlS x lo hi H Q
theorem sl_u : SlR X (rSlU X.K) := sl_list.or (sl_tupA.or sl_str)
theorem cut_whole {T : Tx} {m : Mm} {H : Hp} {ws : List W} {vs : List V} (r : RWs T m H ws vs) {lo hi : Option Int} (h : HT.sIx vs.length 0 lo = 0 ∧ HT.sIx vs.length vs.length hi = vs.length) : cut ws lo hi = ws := by
  unfold cut
  rw [r.length, h.1, h.2, List.drop_zero, Nat.sub_zero, ← r.length, List.take_length]
theorem fe_sl (c : Ctx T X W0) (he : FE T X W0 e fe) (hl : FP T X W0 lo fl) (hh : FP T X W0 hi fh) : FE T X W0 (.Subscript e (.Slice lo hi none p2) pos) (eSl fe fl fh) := by
  obtain ⟨t, he, i⟩ := he
  obtain ⟨tl, hl, il⟩ := hl
  obtain ⟨th, hh, ih⟩ := hh
  refine ⟨_, pe_slice sl_u he hl hh, fun m ls G σ H Q hG hL ho => ?_⟩
  refine i.go hG hL ho fun w G1 m1 v H1 k1 g1 r1 l1 o1 => ?_
  refine il m1 ls G1 σ H1 Q _ _ g1 l1 o1 fun lo G2 m2 H2 k2 g2 l2 o2 => ?_
  refine ih m2 ls G2 σ H2 Q _ _ g2 l2 o2 fun hi G3 m3 H3 k3 g3 l3 o3 => ?_
  have r3 := (r1.keep k2).keep k3
  rw [c.hK]
  cases r3 with
  | lst r n f => exact .inl ⟨_, _, rfl, SqL.of f, fun p hp => o3.newL g3 (r.cut lo hi) hp⟩
  | fz r f => exact .inl ⟨_, _, rfl, f.sq, fun p hp => o3.newL g3 (r.cut lo hi) hp⟩
  | tup r f =>
    refine .inr (.inl ⟨_, _, rfl, f.sq, fun h => ?_, fun h p hp => o3.newT g3 (r.cut lo hi) hp⟩)
    have o3 : Out T W0 m3 H3 σ Q (.ok (.tup (cut _ lo hi)) G3) := o3
    rw [cut_whole r h] at o3
    exact o3.now g3 (.tup r f)
  | str s =>
    simp only [cutW] at o3
    split at o3
    · rename_i hz
      refine .inr (.inr ⟨_, rfl, by rw [str_len, ← sz_eq]; exact hz, ?_⟩)
      have q := o3.now g3 (.str _)
      unfold cutS
      rw [str_len]
      exact q
    · exact False.elim o3
  | @ref k a h =>
    simp only [cutW] at o3
    split at o3
    · rename_i xs e
      obtain ⟨us, e3, r3⟩ := g3.lst h e
      exact .inl ⟨_, _, rfl, SqL.of e3, fun p hp => o3.newL g3 (r3.cut lo hi) hp⟩
    · exact False.elim o3
  | _ => exact False.elim o3
end

/-! ### lists that change -/
/-- a method of a list that changes: what it hands back, what the list becomes -/
@[simp] def mutL (f : List W → List W → Option (W × List W)) (fo fa : EF) : EF := fun ls G => (fo ls G).bind fun o G1 => match o with
  | .ref i => (match G1[i]? with
    | some (.lst _) => (fa ls G1).bind fun w G2 => asT w fun ws => (match G2[i]? with
      | some (.lst xs) => (match f xs ws with
        | some (w, ys) => .ok w (G2.set i (.lst ys))
        | none => .stuck)
      | _ => .stuck)
    | _ => .stuck)
  | _ => .stuck
@[simp] def appF : List W → List W → Option (W × List W) := fun xs ws => match ws with
  | [y] => if xs.length < SZ then some (.non, xs ++ [y]) else none
  | _ => none
@[simp] def insF : List W → List W → Option (W × List W) := fun xs ws => match ws with
  | [.int i, y] => if xs.length < SZ ∧ 0 ≤ i ∧ i < 16777216 then some (.non, xs.take i.toNat ++ [y] ++ xs.drop i.toNat) else none
  | _ => none
@[simp] def popF : List W → List W → Option (W × List W) := fun xs ws => match ws with
  | [] => (match xs[xs.length - 1]? with
    | some w => some (w, xs.dropLast)
    | none => none)
  | _ => none
section
variable {T : Tx} {X : Cx} {W0 : WX} {o e : Expr} {es : List Expr} {fo fa : EF} {pos apos : Pos}
theorem RWs.dropLast {T : Tx} {m : Mm} {H : Hp} : ∀ {ws : List W} {vs : List V}, RWs T m H ws vs → RWs T m H ws.dropLast vs.dropLast
  | _, _, .nil => .nil
  | _, _, .cons _ .nil => .nil
  | _, _, .cons r (.cons q t) => by
    rw [List.dropLast_cons_cons, List.dropLast_cons_cons]
    exact .cons r (RWs.dropLast (.cons q t))
/-- the reading of such a method, told by f -/
def ImpM (T : Tx) (r : V → List V → Hp → VK → Prop) (f : List W → List W → Option (W × List W)) : Prop :=
  ∀ (m : Mm) (G : Gs) (H : Hp) (Q : VK) (a : Addr) (xs ws ys : List W) (us vs : List V) (w : W), H a = some (.lst us) → RWs T m H xs us → RWs T m H ws vs → f xs ws = some (w, ys) →
    (∀ v zs, RW T m H w v → RWs T m H ys zs → Q v (upd H a (.lst zs))) → r (.ref a) vs H Q
theorem im_app {T : Tx} : ImpM T rAppend appF := by
  intro m G H Q a xs ws ys us vs w hH rx rw_ e hk
  unfold appF at e
  split at e
  · split at e
    · rename_i hz
      cases e
      obtain ⟨v, rfl, r⟩ := rw_.inv1
      exact ⟨_, _, _, rfl, rfl, hH, by rw [← rx.length, ← sz_eq]; exact hz, hk _ _ .non (rx.append (.cons r .nil))⟩
    · cases e
  · cases e
theorem im_ins {T : Tx} : ImpM T (fun x vs H Q => ∃ (l : Addr) (xs : List V) (i : Int) (y : V), x = .ref l ∧ vs = [.int i, y] ∧ H l = some (.lst xs) ∧ xs.length < sizeLine ∧ 0 ≤ i ∧ i < 2 ^ 63 ∧ Q .non (upd H l (.lst (xs.take i.toNat ++ [y] ++ xs.drop i.toNat)))) insF := by
  intro m G H Q a xs ws ys us vs w hH rx rw_ e hk
  unfold insF at e
  split at e
  · split at e
    · rename_i hz
      cases e
      obtain ⟨v, u, rfl, r, q⟩ := rw_.inv2
      cases r
      exact ⟨_, _, _, _, rfl, rfl, hH, by rw [← rx.length, ← sz_eq]; exact hz.1, hz.2.1, by have := hz.2.2; omega, hk _ _ .non (((rx.take _).append (.cons q .nil)).append (rx.drop _))⟩
    · cases e
  · cases e
theorem im_pop {T : Tx} : ImpM T rPop popF := by
  intro m G H Q a xs ws ys us vs w hH rx rw_ e hk
  unfold popF at e
  split at e
  · split at e
    · rename_i e1
      cases e
      obtain ⟨v, e2, r⟩ := rx.get e1
      cases rw_
      exact ⟨_, _, v, rfl, rfl, hH, by rw [← rx.length]; exact e2, hk _ _ r rx.dropLast⟩
    · cases e
  · cases e
theorem imp_mut {t : TE} {ta : TA} {r : V → List V → Hp → VK → Prop} {f : List W → List W → Option (W × List W)} (hm : ImpM T r f) (i : Imp T W0 t fo) (ia : ImpA T W0 ta fa) : Imp T W0 (tBM T.K "list" r t ta) (mutL f fo fa) := by
  intro m ls G σ H Q hG hL ho
  refine i.go hG hL ho fun w G1 m1 v H1 k1 g1 r1 l1 o1 => ?_
  cases r1 with
  | @ref k a h =>
    simp only at o1
    split at o1
    · rename_i e0
      obtain ⟨u0, e1, _⟩ := g1.lst h e0
      refine ⟨.inl ⟨rfl, u0, SqL.of e1⟩, ?_⟩
      refine ia.go g1 l1 o1 fun ws G2 m2 vs H2 k2 g2 r2 l2 o2 => ?_
      split at o2
      · rename_i xs e
        split at o2
        · rename_i w ys ef
          have h2 := k2.get h
          obtain ⟨us, e3, r3⟩ := g2.lst h2 e
          refine hm m2 G2 H2 Q a xs ws ys us vs w e3 r3 r2 ef fun v zs rv rz => ?_
          have k : Keep m2 H2 m2 (upd H2 a (.lst zs)) := Keep.write (List.mem_of_getElem? h2)
          exact o2 m2 v _ k (g2.write h2 ⟨zs, upd_same, rz.keep k⟩) (rv.keep k)
        · exact False.elim o2
      · exact False.elim o2
    · exact False.elim o1
  | _ => exact False.elim o1
theorem fe_app (c : Ctx T X W0) (ho : FE T X W0 o fo) (ha : FA T X W0 [e] fa) (hbase : attributeBase o "append" X.env (eval o X.env) = eval o X.env := by rfl)
    (hfew : ((backTo pos (starEach [e] X.env)).all (fun x => !x.1) && (backToKw pos (keywordEach [] X.env)).all (fun x => x.1.isSome) && decide ([e].length + ([] : List Keyword).length + (if ([] : List Keyword).isEmpty then 0 else 1) < 30)) = true := by rfl)
    (hline : (apos.endLine == pos.line) = true := by rfl) (hs : starEach [e] X.env = (false, eval e X.env) :: starEach [] X.env := by rfl) (hplain : (backTo pos (starEach [] X.env)).any (·.1) = false := by rfl) :
    FE T X W0 (.Call (.Attribute o "append" apos) [e] [] pos) (mutL appF fo fa) := by
  obtain ⟨t, ho, i⟩ := ho
  obtain ⟨ta, ha, ia⟩ := ha
  refine ⟨_, pe_bm PySem.F.plainAttrs_list PySem.F.slot_list_append PySem.F.type_list_append mt_append ho ha hbase hfew hline hs hplain, ?_⟩
  rw [c.hK]
  exact imp_mut im_app i ia
theorem fe_ins {e2 : Expr} (c : Ctx T X W0) (ho : FE T X W0 o fo) (ha : FA T X W0 [e, e2] fa) (hbase : attributeBase o "insert" X.env (eval o X.env) = eval o X.env := by rfl)
    (hfew : ((backTo pos (starEach [e, e2] X.env)).all (fun x => !x.1) && (backToKw pos (keywordEach [] X.env)).all (fun x => x.1.isSome) && decide ([e, e2].length + ([] : List Keyword).length + (if ([] : List Keyword).isEmpty then 0 else 1) < 30)) = true := by rfl)
    (hline : (apos.endLine == pos.line) = true := by rfl) (hs : starEach [e, e2] X.env = (false, eval e X.env) :: starEach [e2] X.env := by rfl) (hplain : (backTo pos (starEach [e2] X.env)).any (·.1) = false := by rfl) :
    FE T X W0 (.Call (.Attribute o "insert" apos) [e, e2] [] pos) (mutL insF fo fa) := by
  obtain ⟨t, ho, i⟩ := ho
  obtain ⟨ta, ha, ia⟩ := ha
  refine ⟨_, pe_bm PySem.F.plainAttrs_list PySem.F.slot_list_insert PySem.F.type_list_insert mt_insert ho ha hbase hfew hline hs hplain, ?_⟩
  rw [c.hK]
  exact imp_mut im_ins i ia
theorem fe_pop (c : Ctx T X W0) (ho : FE T X W0 o fo) (hbase : attributeBase o "pop" X.env (eval o X.env) = eval o X.env := by rfl) (hline : (apos.endLine == pos.line) = true := by rfl) :
    FE T X W0 (.Call (.Attribute o "pop" apos) [] [] pos) (mutL popF fo aNil) := by
  obtain ⟨t, ho, i⟩ := ho
  refine ⟨_, pe_bm0 PySem.F.plainAttrs_list PySem.F.slot_list_pop PySem.F.type_list_pop mt_pop ho hbase hline, ?_⟩
  rw [c.hK]
  have q := imp_mut im_pop i (W0 := W0) (ta := tNil) (fa := aNil) (fun m ls G σ H Q hG hL ho => by
    obtain ⟨ws, ew, q⟩ := ho
    cases ew
    exact q m [] H (.refl _ _) hG .nil)
  exact q
/-- o[i] = v of a list that changes -/
@[simp] def gSet (fo fi : EF) : TF := fun v ls G => match fo ls G with
  | .ok (.ref i) G1 => (match fi ls G1 with
    | .ok (.int k) G2 => (match G2[i]? with
      | some (.lst xs) => (match ixN xs.length k with
        | some j => .nx ls (G2.set i (.lst (xs.set j v)))
        | none => .stuck)
      | _ => .stuck)
    | _ => .stuck)
  | _ => .stuck
theorem sto_set {fo fi : EF} : Sto (gSet fo fi) := fun w ls G => by
  unfold gSet
  split
  · split
    · split
      · split
        · exact .inl ⟨_, _, rfl⟩
        · exact .inr rfl
      · exact .inr rfl
    · exact .inr rfl
  · exact .inr rfl
theorem fg_set {i : Expr} {fi : EF} (c : Ctx T X W0) (ho : FE T X W0 o fo) (hi : FE T X W0 i fi)
    (ha : ∀ v, assign (.Subscript o i pos) X.env v = (do
      let ov ← holding [v] (eval o X.env)
      let iv ← holding [v, ov] (eval i X.env)
      standAt pos
      holding [v, ov, iv] (setItem ov iv v)
      release [v, ov, iv] []) := by intro _; rfl) : FG T X [] (.Subscript o i pos) (gSet fo fi) := by
  obtain ⟨t, ho, io⟩ := ho
  obtain ⟨ti, hi, ii⟩ := hi
  refine ⟨_, pg_sub ho hi set_list ha, fun m ls G σ H w v Q hG hL r hq => ?_⟩
  unfold gSet at hq
  refine io m ls G σ H _ hG hL ?_
  cases e1 : fo ls G with
  | stuck => rw [e1] at hq; exact False.elim hq
  | exc _ _ => rw [e1] at hq; exact False.elim hq
  | ok wo G1 =>
    rw [e1] at hq
    intro m1 vo H1 k1 g1 r1
    cases r1 with
    | @ref k a h =>
      refine ii m1 ls G1 σ H1 _ g1 (hL.keep k1) ?_
      simp only at hq
      cases e2 : fi ls G1 with
      | stuck => rw [e2] at hq; exact False.elim hq
      | exc _ _ => rw [e2] at hq; exact False.elim hq
      | ok wi G2 =>
        rw [e2] at hq
        intro m2 vi H2 k2 g2 r2
        cases r2 with
        | int z =>
          simp only at hq
          split at hq
          · rename_i xs e3
            split at hq
            · rename_i j e4
              have h2 := k2.get h
              obtain ⟨us, e5, r5⟩ := g2.lst h2 e3
              have r' := (r.keep k1).keep k2
              refine ⟨a, us, z, j, rfl, rfl, e5, by rw [← r5.length]; exact e4, ?_⟩
              have k : Keep m2 H2 m2 (upd H2 a (.lst (us.set j v))) := Keep.write (List.mem_of_getElem? h2)
              exact hq m2 σ _ ((k1.trans k2).trans k) (g2.write h2 ⟨_, upd_same, (r5.set r' j).keep k⟩) ((hL.keep (k1.trans k2)).keep k) (.refl _ _)
            · exact False.elim hq
          · exact False.elim hq
        | _ => exact False.elim hq
    | _ => exact False.elim hq

/-! ### join -/
@[simp] def joinW (sep : List Nat) (w : W) (G : Gs) : Res := match (itemsW w G).bind strsOf with
  | some ss => if (ss.map (·.length)).sum + ss.length * sep.length ≤ SZ then .ok (.str (TL.joinL sep ss)) G else .stuck
  | none => .stuck
@[simp] def eJoin (fo fa : EF) : EF := fun ls G => (fo ls G).bind fun o G1 => match o with
  | .str sep => (fa ls G1).bind fun w G2 => joinW sep w G2
  | _ => .stuck
theorem fe_join (c : Ctx T X W0) (ho : FE T X W0 o fo) (he : FE T X W0 e fa) (hs : starEach [e] X.env = [(false, eval e X.env)] := by rfl) (hbase : attributeBase o "join" X.env (eval o X.env) = eval o X.env := by rfl) (hline : (apos.endLine == pos.line) = true := by rfl) :
    FE T X W0 (.Call (.Attribute o "join" apos) [e] [] pos) (eJoin fo fa) := by
  obtain ⟨t, ho, i⟩ := ho
  obtain ⟨te, he, ie⟩ := he
  refine ⟨_, pe_join ho he hs hbase hline, fun m ls G σ H Q hG hL hq => ?_⟩
  refine i.go hG hL hq fun w G1 m1 v H1 k1 g1 r1 l1 o1 => ?_
  cases r1 with
  | str sep =>
    refine ⟨⟨_, rfl⟩, ?_⟩
    refine ie.go g1 l1 o1 fun w2 G2 m2 v2 H2 k2 g2 r2 l2 o2 => ?_
    unfold joinW at o2
    split at o2
    · rename_i ss es
      obtain ⟨xs, e1, e2⟩ := Option.bind_eq_some_iff.mp es
      obtain ⟨p, ys, rfl, hp, r⟩ := items_ok g2 r2 e1
      have := strs_ok r e2
      subst this
      split at o2
      · rename_i hz
        refine ⟨_, p, ss.map fun s => ⟨s.toArray⟩, rfl, rfl, by rw [c.hK]; exact hp, ?_, ?_⟩
        · rw [List.map_map, List.length_map, str_len]
          have : ((fun x : Str => x.length) ∘ fun s : List Nat => (⟨s.toArray⟩ : Str)) = fun s => s.length := by
            funext s
            exact str_len s
          rw [this]
          exact hz
        · have q := o2.now g2 (.str _)
          have e : Txt.join (⟨sep.toArray⟩ : Str) (ss.map fun s => (⟨s.toArray⟩ : Str)) = ⟨(TL.joinL sep ss).toArray⟩ := by
            refine TL.ext_tl ?_
            rw [TL.join_eq, TL.tl_join, List.map_map]
            have : (TL.tl ∘ fun s : List Nat => (⟨s.toArray⟩ : Str)) = id := by
              funext s
              rfl
            rw [this, List.map_id]
          rw [e]
          exact q
      · exact False.elim o2
    · exact False.elim o2
  | _ => exact False.elim o1
end
end U

namespace U
open PySem
open L2

/-! ### range, enumerate, zip -/
def rngL (i : Int) (n : Nat) : List W := (List.range n).map fun (k : Nat) => W.int (i + (k : Int))
def bigI (i : Int) : Bool := decide (i.natAbs < 4611686018427387904)
@[simp] def iRange1 (fa : EF) : EF := fun ls G => (fa ls G).bind fun w G1 => match w with
  | .tup [.int j] => if bigI j then .ok (.lst (rngL 0 j.toNat)) G1 else .stuck
  | _ => .stuck
@[simp] def iRange2 (fa : EF) : EF := fun ls G => (fa ls G).bind fun w G1 => match w with
  | .tup [.int i, .int j] => if bigI i && bigI j then .ok (.lst (rngL i (j - i).toNat)) G1 else .stuck
  | _ => .stuck
/-- pairs (0, x0), (1, x1), .. -/
def enumL : Nat → List W → List W
  | _, [] => []
  | k, x :: r => .tup [.int k, x] :: enumL (k + 1) r
def zipL : List W → List W → List W
  | x :: xs, y :: ys => .tup [x, y] :: zipL xs ys
  | _, _ => []
@[simp] def iEnumW (fa : EF) : EF := fun ls G => (fa ls G).bind fun w G1 => match w with
  | .tup [.lst xs] => .ok (.lst (enumL 0 xs)) G1
  | .tup [.fz xs] => .ok (.lst (enumL 0 xs)) G1
  | _ => .stuck
@[simp] def iZipW (fa : EF) : EF := fun ls G => (fa ls G).bind fun w G1 => match w with
  | .tup [.lst xs, .lst ys] => .ok (.lst (zipL xs ys)) G1
  | .tup [.tup xs, .tup ys] => .ok (.lst (zipL xs ys)) G1
  | _ => .stuck
section
variable {T : Tx} {X : Cx} {W0 : WX} {tg e e2 : Expr} {f : EF} {p pos : Pos}
theorem bigI_ok {i : Int} (h : bigI i = true) : -(2 ^ 62) ≤ i ∧ i < 2 ^ 62 := by
  have := of_decide_eq_true h
  omega
theorem it_rng {m : Mm} {H : Hp} {i : Int} {n : Nat} : ItOk T m H (Itr i n) (rngL i n) := fun m' G' H' k g => by
  refine ⟨fun j w e => ?_, fun j hj => (show n ≤ j by unfold rngL at hj; simpa using hj)⟩
  unfold rngL at e
  rw [List.getElem?_map] at e
  cases e1 : (List.range n)[j]? with
  | none => rw [e1] at e; cases e
  | some c =>
    rw [e1] at e
    cases e
    obtain ⟨h1, h2⟩ := List.getElem?_eq_some_iff.mp e1
    rw [List.length_range] at h1
    rw [List.getElem_range] at h2
    subst h2
    refine ⟨h1, fun x H'' y => ?_⟩
    obtain ⟨rfl, rfl⟩ := y
    exact ⟨.refl _ _, g, .int _⟩
theorem fi_range1 (hm : X.mg "range" = none) (ha : FA T X W0 [e] f) (hg : Gl X "range" := by rfl) (hs : starEach [e] X.env = [(false, eval e X.env)] := by rfl) : FI T X W0 tg (.Call (.Name "range" p) [e] [] pos) (iRange1 f) := by
  obtain ⟨t, ha, ia⟩ := ha
  refine ⟨_, pi_range1 hg hm ha hs, fun m ls G σ H R hG hL ho => ?_⟩
  refine ia m ls G σ H _ hG hL ?_
  simp only [iRange1] at ho
  cases e : f ls G with
  | stuck => rw [e] at ho; exact ho
  | exc w G1 => rw [e] at ho; exact ho
  | ok w G1 =>
    rw [e] at ho
    simp only [Res.bind] at ho
    split at ho
    · rename_i hc
      split at hc
      · rename_i j
        split at hc
        · rename_i hb
          cases hc
          obtain ⟨ws, ew, q⟩ := ho
          cases ew
          refine ⟨_, rfl, fun m1 vs H1 k1 g1 r1 => ?_⟩
          obtain ⟨v, rfl, r⟩ := r1.inv1
          cases r
          exact ⟨j, rfl, (bigI_ok hb).1, (bigI_ok hb).2, q m1 _ H1 k1 g1 it_rng⟩
        · cases hc
      · cases hc
    · rename_i hc
      split at hc
      · split at hc <;> cases hc
      · cases hc
    · exact False.elim ho
theorem fi_range2 (hm : X.mg "range" = none) (ha : FA T X W0 [e, e2] f) (hg : Gl X "range" := by rfl) (hs : starEach [e, e2] X.env = [(false, eval e X.env), (false, eval e2 X.env)] := by rfl) (hs2 : starEach [e2] X.env = [(false, eval e2 X.env)] := by rfl) : FI T X W0 tg (.Call (.Name "range" p) [e, e2] [] pos) (iRange2 f) := by
  obtain ⟨t, ha, ia⟩ := ha
  refine ⟨_, pi_range2 hg hm ha hs hs2, fun m ls G σ H R hG hL ho => ?_⟩
  refine ia m ls G σ H _ hG hL ?_
  simp only [iRange2] at ho
  cases e : f ls G with
  | stuck => rw [e] at ho; exact ho
  | exc w G1 => rw [e] at ho; exact ho
  | ok w G1 =>
    rw [e] at ho
    simp only [Res.bind] at ho
    split at ho
    · rename_i hc
      split at hc
      · rename_i i j
        split at hc
        · rename_i hb
          rw [Bool.and_eq_true] at hb
          cases hc
          obtain ⟨ws, ew, q⟩ := ho
          cases ew
          refine ⟨_, rfl, fun m1 vs H1 k1 g1 r1 => ?_⟩
          obtain ⟨v, u, rfl, r, r'⟩ := r1.inv2
          cases r
          cases r'
          exact ⟨i, j, rfl, ⟨(bigI_ok hb.1).1, (bigI_ok hb.1).2, (bigI_ok hb.2).1, (bigI_ok hb.2).2⟩, q m1 _ H1 k1 g1 it_rng⟩
        · cases hc
      · cases hc
    · rename_i hc
      split at hc
      · split at hc <;> cases hc
      · cases hc
    · exact False.elim ho
theorem enumL_get : ∀ (xs : List W) (k i : Nat), (enumL k xs)[i]? = (xs[i]?).map fun x => W.tup [.int ((k + i : Nat) : Int), x]
  | [], k, i => by simp [enumL]
  | x :: xs, k, 0 => by simp [enumL]
  | x :: xs, k, i + 1 => by
    rw [enumL, List.getElem?_cons_succ, List.getElem?_cons_succ, enumL_get xs (k + 1) i]
    have : k + 1 + i = k + (i + 1) := by omega
    rw [this]
theorem enumL_len : ∀ (xs : List W) (k : Nat), (enumL k xs).length = xs.length
  | [], _ => rfl
  | x :: xs, k => by rw [enumL, List.length_cons, List.length_cons, enumL_len xs]
theorem zipL_get : ∀ (xs ys : List W) (i : Nat) (w : W), (zipL xs ys)[i]? = some w → ∃ x y, xs[i]? = some x ∧ ys[i]? = some y ∧ w = .tup [x, y]
  | [], _, _, _, h => by simp [zipL] at h
  | _ :: _, [], _, _, h => by simp [zipL] at h
  | x :: xs, y :: ys, 0, w, h => by simp [zipL] at h; exact ⟨x, y, rfl, rfl, h.symm⟩
  | x :: xs, y :: ys, i + 1, w, h => by
    rw [zipL, List.getElem?_cons_succ] at h
    rw [List.getElem?_cons_succ, List.getElem?_cons_succ]
    exact zipL_get xs ys i w h
theorem zipL_len : ∀ (xs ys : List W), (zipL xs ys).length = min xs.length ys.length
  | [], _ => by simp [zipL]
  | _ :: _, [] => by simp [zipL]
  | x :: xs, y :: ys => by rw [zipL, List.length_cons, List.length_cons, List.length_cons, zipL_len xs ys]; omega
theorem it_enum {m : Mm} {H : Hp} {a : Addr} {ws : List W} {vs : List V} (r : RWs T m H ws vs) (h : ∀ m' H', Keep m H m' H' → SqL T.K H' a vs) : ItOk T m H (Ite T.K a) (enumL 0 ws) := fun m' G' H' k g => by
  have q := h m' H' k
  refine ⟨fun i w e => ?_, fun i hi => ⟨vs, q, by rw [enumL_len] at hi; rw [← r.length]; exact hi⟩⟩
  rw [enumL_get] at e
  obtain ⟨x, ex, rfl⟩ := Option.map_eq_some_iff.mp e
  obtain ⟨v, e1, r1⟩ := r.get ex
  refine ⟨⟨vs, v, q, e1⟩, fun z H'' y => ?_⟩
  obtain ⟨D, x', rfl, hD, rfl, y⟩ := y
  have e2 := y vs q
  rw [e1] at e2
  cases e2
  have kk : Keep m' H' m' (upd H' D (.tup [.int (i : Nat), v])) := Keep.new g hD
  refine ⟨kk, g.new hD, .tup (.cons ?_ (.cons ((r1.keep k).keep kk) .nil)) (.inl ⟨g.free hD, upd_same⟩)⟩
  rw [Nat.zero_add]
  exact .int _
theorem it_zip {m : Mm} {H : Hp} {a b : Addr} {ws us : List W} {vs xs : List V} (r : RWs T m H ws vs) (r' : RWs T m H us xs) (h : ∀ m' H', Keep m H m' H' → SqL T.K H' a vs) (h' : ∀ m' H', Keep m H m' H' → SqL T.K H' b xs) : ItOk T m H (Itz T.K a b) (zipL ws us) := fun m' G' H' k g => by
  have q := h m' H' k
  have q' := h' m' H' k
  refine ⟨fun i w e => ?_, fun i hi => ⟨vs, xs, q, q', by rw [zipL_len] at hi; rw [← r.length, ← r'.length]; omega⟩⟩
  obtain ⟨x, y, ex, ey, rfl⟩ := zipL_get _ _ _ _ e
  obtain ⟨v, e1, r1⟩ := r.get ex
  obtain ⟨v', e1', r1'⟩ := r'.get ey
  refine ⟨⟨vs, xs, v, v', q, q', e1, e1'⟩, fun z H'' y => ?_⟩
  obtain ⟨D, x', y', rfl, hD, rfl, y1, y2⟩ := y
  have e2 := y1 vs q
  rw [e1] at e2
  cases e2
  have e3 := y2 xs q'
  rw [e1'] at e3
  cases e3
  have kk : Keep m' H' m' (upd H' D (.tup [v, v'])) := Keep.new g hD
  exact ⟨kk, g.new hD, .tup (.cons ((r1.keep k).keep kk) (.cons ((r1'.keep k).keep kk) .nil)) (.inl ⟨g.free hD, upd_same⟩)⟩
theorem it_zipT {m : Mm} {H : Hp} {a b : Addr} {ws us : List W} {vs xs : List V} (r : RWs T m H ws vs) (r' : RWs T m H us xs) (h : ∀ m' H', Keep m H m' H' → SqT T.K H' a vs) (h' : ∀ m' H', Keep m H m' H' → SqT T.K H' b xs) : ItOk T m H (RZ.ItzT T.K a b) (zipL ws us) := fun m' G' H' k g => by
  have q := h m' H' k
  have q' := h' m' H' k
  refine ⟨fun i w e => ?_, fun i hi => ⟨vs, xs, q, q', by rw [zipL_len] at hi; rw [← r.length, ← r'.length]; omega⟩⟩
  obtain ⟨x, y, ex, ey, rfl⟩ := zipL_get _ _ _ _ e
  obtain ⟨v, e1, r1⟩ := r.get ex
  obtain ⟨v', e1', r1'⟩ := r'.get ey
  refine ⟨⟨vs, xs, v, v', q, q', e1, e1'⟩, fun z H'' y => ?_⟩
  obtain ⟨D, x', y', rfl, hD, rfl, y1, y2⟩ := y
  have e2 := y1 vs q
  rw [e1] at e2
  cases e2
  have e3 := y2 xs q'
  rw [e1'] at e3
  cases e3
  have kk : Keep m' H' m' (upd H' D (.tup [v, v'])) := Keep.new g hD
  exact ⟨kk, g.new hD, .tup (.cons ((r1.keep k).keep kk) (.cons ((r1'.keep k).keep kk) .nil)) (.inl ⟨g.free hD, upd_same⟩)⟩
theorem fi_enum {elts : List Expr} {kk : Nat} {tpos : Pos} (c : Ctx T X W0) (hm : X.mg "enumerate" = none) (ha : FA T X W0 [e] f) (hg : Gl X "enumerate" := by rfl) (hs : starEach [e] X.env = [(false, eval e X.env)] := by rfl) : FI T X W0 (.Tuple elts kk tpos) (.Call (.Name "enumerate" p) [e] [] pos) (iEnumW f) := by
  obtain ⟨t, ha, ia⟩ := ha
  refine ⟨_, pi_enum hg hm ha hs, fun m ls G σ H R hG hL ho => ?_⟩
  refine ia m ls G σ H _ hG hL ?_
  simp only [iEnumW] at ho
  cases e : f ls G with
  | stuck => rw [e] at ho; exact ho
  | exc w G1 => rw [e] at ho; exact ho
  | ok w G1 =>
    rw [e] at ho
    simp only [Res.bind] at ho
    split at ho
    · rename_i hc
      split at hc
      · cases hc
        obtain ⟨ws, ew, q⟩ := ho
        cases ew
        refine ⟨_, rfl, fun m1 vs H1 k1 g1 r1 => ?_⟩
        obtain ⟨v, rfl, r⟩ := r1.inv1
        cases r with
        | lst r n f => exact ⟨_, _, rfl, SqL.of f, by rw [c.hK]; exact q m1 _ H1 k1 g1 (it_enum r fun m' H' k => SqL.of (k.at_ f n).1)⟩
      · cases hc
        obtain ⟨ws, ew, q⟩ := ho
        cases ew
        refine ⟨_, rfl, fun m1 vs H1 k1 g1 r1 => ?_⟩
        obtain ⟨v, rfl, r⟩ := r1.inv1
        cases r with
        | fz r f => exact ⟨_, _, rfl, by rw [c.hK]; exact f.sq, by rw [c.hK]; exact q m1 _ H1 k1 g1 (it_enum r fun m' H' k => (k.fzL f).sq)⟩
      · cases hc
    · rename_i hc
      split at hc <;> cases hc
    · exact False.elim ho
theorem fi_zip {elts : List Expr} {kk : Nat} {tpos : Pos} (c : Ctx T X W0) (hm : X.mg "zip" = none) (ha : FA T X W0 [e, e2] f) (hg : Gl X "zip" := by rfl) (hs : starEach [e, e2] X.env = (false, eval e X.env) :: starEach [e2] X.env := by rfl) (hpl : (backTo pos (starEach [e2] X.env)).any (·.1) = false := by rfl) : FI T X W0 (.Tuple elts kk tpos) (.Call (.Name "zip" p) [e, e2] [] pos) (iZipW f) := by
  obtain ⟨t, ha, ia⟩ := ha
  refine ⟨_, RZ.pi_zipA hg hm ha hs hpl, fun m ls G σ H R hG hL ho => ?_⟩
  refine ia m ls G σ H _ hG hL ?_
  simp only [iZipW] at ho
  cases e : f ls G with
  | stuck => rw [e] at ho; exact ho
  | exc w G1 => rw [e] at ho; exact ho
  | ok w G1 =>
    rw [e] at ho
    simp only [Res.bind] at ho
    split at ho
    · rename_i hc
      split at hc
      · cases hc
        obtain ⟨ws, ew, q⟩ := ho
        cases ew
        refine ⟨_, rfl, fun m1 vs H1 k1 g1 r1 => ?_⟩
        obtain ⟨v, u, rfl, r, r'⟩ := r1.inv2
        cases r with
        | lst r n f => cases r' with
          | lst r' n' f' => exact ⟨_, _, _, _, rfl, .inl ⟨SqL.of f, SqL.of f', by rw [c.hK]; exact q m1 _ H1 k1 g1 (it_zip r r' (fun m' H' k => SqL.of (k.at_ f n).1) (fun m' H' k => SqL.of (k.at_ f' n').1))⟩⟩
      · cases hc
        obtain ⟨ws, ew, q⟩ := ho
        cases ew
        refine ⟨_, rfl, fun m1 vs H1 k1 g1 r1 => ?_⟩
        obtain ⟨v, u, rfl, r, r'⟩ := r1.inv2
        cases r with
        | tup r f => cases r' with
          | tup r' f' => exact ⟨_, _, _, _, rfl, .inr ⟨by rw [c.hK]; exact f.sq, by rw [c.hK]; exact f'.sq, by rw [c.hK]; exact q m1 _ H1 k1 g1 (it_zipT r r' (fun m' H' k => (k.fzT f).sq) (fun m' H' k => (k.fzT f').sq))⟩⟩
      · cases hc
    · rename_i hc
      split at hc <;> cases hc
    · exact False.elim ho
end

/-! ### what a def promises -/
abbrev Fn := List W → Gs → Res
def spF (T : Tx) (n : Nat) (F : Fn) : Sp := fun vs H Q E => ∃ m G ws, RG T m G H ∧ RWs T m H ws vs ∧ ws.length = n ∧ Out T (fun c d _ H => E c d H) m H [] Q (F ws G)
theorem Out.wx {T : Tx} {W0 W1 : WX} {m : Mm} {H : Hp} {σ σ' : St} {Q : VK} {r : Res} (h : Out T W0 m H σ Q r) (hW : ∀ c d H, W0 c d σ H → W1 c d σ' H) : Out T W1 m H σ' Q r := by
  cases r with
  | ok w G => exact h
  | exc w G => exact fun m' c d H' k g r => hW c d H' (h m' c d H' k g r)
  | stuck => exact h
section
variable {T : Tx} {X : Cx} {W0 : WX} {k n : Nat} {f : Addr} {fd : FuncData} {ps : List Str} {F : Fn} {dvs : List V} {dws : List W} {ds : List Value} {x : Str} {p pos : Pos} {e : Expr} {es : List Expr} {fa : EF}
/-- the defaults as values -/
def Dfl (T : Tx) (dws : List W) (dvs : List V) (ds : List Value) : Prop := Vals dvs ds ∧ ∀ m H, RWs T m H dws dvs
theorem dfl0 : Dfl T [] [] [] := ⟨.nil, fun _ _ => .nil⟩
@[simp] def eFn (F : Fn) (dws : List W) (fa : EF) : EF := fun ls G => (fa ls G).bind fun w G1 => asT w fun ws => F (ws ++ dws) G1
theorem fe_call (c : Ctx T X W0) (FO : FnOk X.prog X.w X.K X.mg X.base (L2.CX X.prog X.w) k f fd ps (spF T n F)) (hr : Room k X.A) (hm : X.mg x = some (.ref f)) (hk : PySem.W.keepIn X.K (.ref f) = true) (hb : Binds X.K fd ps ds) (hd : Dfl T dws dvs ds) (hn : es.length + 1 + dws.length = n)
    (ha : FA T X W0 (e :: es) fa) (hl : ∀ ls G ws G1, fa ls G = .ok (.tup ws) G1 → ws.length = es.length + 1) (hg : Gl X x := by rfl) (hdb : (x == ("__debug__" : Str)) = false := by decide +kernel)
    (he : starEach (e :: es) X.env = (false, eval e X.env) :: starEach es X.env := by rfl) (hpl : (backTo pos (starEach es X.env)).any (·.1) = false := by rfl) : FE T X W0 (.Call (.Name x p) (e :: es) [] pos) (eFn F dws fa) := by
  obtain ⟨t, ha, ia⟩ := ha
  refine ⟨_, pe_callSD (E := WE W0) FO hr hg hm hk hb hd.1 (passAt c.tk) ha hdb he hpl, fun m ls G σ H Q hG hL ho => ?_⟩
  refine ia m ls G σ H _ hG hL ?_
  simp only [eFn] at ho
  cases e1 : fa ls G with
  | stuck => rw [e1] at ho; exact ho
  | exc w G1 => rw [e1] at ho; exact ho
  | ok w G1 =>
    rw [e1] at ho
    cases w with
    | tup ws =>
      refine ⟨ws, rfl, fun m1 vs H1 k1 g1 r1 => ?_⟩
      refine ⟨m1, G1, ws ++ dws, g1, r1.append (hd.2 m1 H1), ?_, Out.wx (Out.keep k1 ho) fun _ _ _ h => h⟩
      rw [List.length_append, hl ls G ws G1 e1]
      omega
    | _ => exact False.elim ho
end
/-- the number of arguments -/
theorem al0 : ∀ ls G ws G1, aNil ls G = .ok (.tup ws) G1 → ws.length = 0 := fun ls G ws G1 h => by
  unfold aNil at h
  cases h
  rfl
theorem al1 {f r : EF} {n : Nat} (h : ∀ ls G ws G1, r ls G = .ok (.tup ws) G1 → ws.length = n) : ∀ ls G ws G1, aCons f r ls G = .ok (.tup ws) G1 → ws.length = n + 1 := fun ls G ws G1 q => by
  unfold aCons at q
  cases e1 : f ls G with
  | stuck => rw [e1] at q; cases q
  | exc w G1 => rw [e1] at q; cases q
  | ok w G2 =>
    rw [e1] at q
    simp only [Res.bind] at q
    cases e2 : r ls G2 with
    | stuck => rw [e2] at q; cases q
    | exc w G1 => rw [e2] at q; cases q
    | ok u G3 =>
      rw [e2] at q
      cases u with
      | tup us =>
        cases q
        rw [List.length_cons, h ls G2 us _ e2]
      | _ => cases q

/-! ### a def by its body -/
/-- n parameters, k slots -/
@[simp] def mkFn (n k : Nat) (g : SF) : Fn := fun ws G => if ws.length = n then (match g (ws.map some ++ List.replicate (k - n) none) G with
  | .nx _ G' => .ok .non G'
  | .rt w G' => .ok w G'
  | .exc w _ G' => .exc w G'
  | _ => .stuck) else .stuck
theorem rl_start {T : Tx} {m : Mm} {H : Hp} {N : List Str} {ws : List W} {vs : List V} (r : RWs T m H ws vs) : RL T m H (ws.map some ++ List.replicate (N.length - ws.length) none) (L2.start N vs) := by
  unfold L2.start
  refine ⟨by simp [r.length], fun i w e => ?_⟩
  rw [← r.length]
  by_cases hi : i < ws.length
  · rw [List.getElem?_append_left (by simpa using hi), List.getElem?_map] at e
    rw [List.getElem?_append_left (by simpa [← r.length] using hi), List.getElem?_map]
    cases q : ws[i]? with
    | none => rw [q] at e; cases e
    | some u =>
      rw [q] at e
      cases e
      obtain ⟨v, e1, r1⟩ := r.get q
      exact ⟨v, by rw [e1]; rfl, r1⟩
  · rw [List.getElem?_append_right (by simpa using hi), List.getElem?_replicate] at e
    split at e <;> cases e
section
variable {P : Program} {w : World} {mg : Str → Option Value} {base : Heap} {T : Tx}
theorem fn_def {x qual : Str} {st : Stmt} {f : Addr} {fd : FuncData} {N ps : List Str} {k n : Nat} {g : SF} (F : Fun T.K x qual st f fd) (S : FnScope N ps (defScope st)) (hn : ps.length = n)
    (hbody : ∀ (cdv : Value) (A : Around) (outer : List Env) (s : Shared) (H : Hp) (E : XK), Room k (A.deeper (PyProof.Rows.envOfC qual (defScope st) s.heap.objs.size f cdv)) → Ctx T (cxOf (L2.CX P w) P w T.K mg base N qual (defScope st) f cdv A outer s H E) (fun c d _ H => E c d H) →
      FSs T (cxOf (L2.CX P w) P w T.K mg base N qual (defScope st) f cdv A outer s H E) (fun c d _ H => E c d H) (defBody st) g) : FnOk P w T.K mg base (L2.CX P w) (k + 1) f fd ps (spF T n (mkFn n N.length g)) := by
  refine F.okX S (fun vs H Q E h => ?_) (fun cdv A outer s H vs Q E hr h => ?_)
  · obtain ⟨m, G, ws, _, r, hl, _⟩ := h
    rw [← r.length, hl, hn]
  · obtain ⟨m, G, ws, hG, r, hl, ho⟩ := h
    obtain ⟨t, ht, it⟩ := hbody cdv A outer s H E hr ⟨takes_of rfl rfl rfl rfl, passes_of rfl, rfl, S.nd, hr.units, rfl⟩
    refine ⟨t, ht, it m (ws.map some ++ List.replicate (N.length - n) none) G (L2.start N vs) H _ hG (by rw [← hl]; exact rl_start r) ?_⟩
    simp only [mkFn, if_pos hl] at ho
    cases e : g (ws.map some ++ List.replicate (N.length - n) none) G with
    | nx ls G' => rw [e] at ho; exact fun m' σ' H' k' g' l' => ho m' _ H' k' g' .non
    | rt w G' => rw [e] at ho; exact ho
    | exc w ls G' => rw [e] at ho; exact fun m' σ' c d H' k' g' l' r' => ho m' c d H' k' g' r'
    | bk _ _ => rw [e] at ho; exact False.elim ho
    | ct _ _ => rw [e] at ho; exact False.elim ho
    | stuck => rw [e] at ho; exact False.elim ho
/-- a contract with another function that does the same where it is not stuck -/
theorem fn_imp {f : Addr} {fd : FuncData} {ps : List Str} {k n : Nat} {F F' : Fn} (h : FnOk P w T.K mg base (L2.CX P w) k f fd ps (spF T n F))
    (hF : ∀ (ws : List W) (G : Gs) (m : Mm) (H : Hp) (vs : List V) (Q : VK) (W0 : WX), RG T m G H → RWs T m H ws vs → Out T W0 m H [] Q (F' ws G) → Out T W0 m H [] Q (F ws G)) : FnOk P w T.K mg base (L2.CX P w) k f fd ps (spF T n F') :=
  h.imp fun vs H Q E ⟨m, G, ws, g, r, l, o⟩ => ⟨m, G, ws, g, r, l, hF ws G m H vs Q _ g r o⟩
end

/-! ### what is made on the way is left behind: the result is freed of the small heap -/
mutual
def beqW : W → W → Bool
  | .non, .non => true
  | .bl a, .bl b => a == b
  | .int a, .int b => a == b
  | .str a, .str b => a == b
  | .tup a, .tup b => beqWs a b
  | .lst a, .lst b => beqWs a b
  | .fz a, .fz b => beqWs a b
  | .dic a, .dic b => beqWs a b
  | .obj c a, .obj d b => c == d && beqWs a b
  | .ref i, .ref j => i == j
  | .ty a, .ty b => a == b
  | .cls a, .cls b => a == b
  | _, _ => false
def beqWs : List W → List W → Bool
  | [], [] => true
  | a :: r, b :: q => beqW a b && beqWs r q
  | _, _ => false
end
mutual
theorem beqW_eq : ∀ {a b : W}, beqW a b = true → a = b
  | .non, b, h => by cases b <;> first | rfl | (simp [beqW] at h)
  | .bl x, b, h => by cases b <;> simp [beqW] at h <;> rw [h]
  | .int x, b, h => by cases b <;> simp [beqW] at h <;> rw [h]
  | .str x, b, h => by cases b <;> simp [beqW] at h <;> rw [h]
  | .tup x, b, h => by cases b <;> simp [beqW] at h <;> rw [beqWs_eq h]
  | .lst x, b, h => by cases b <;> simp [beqW] at h <;> rw [beqWs_eq h]
  | .fz x, b, h => by cases b <;> simp [beqW] at h <;> rw [beqWs_eq h]
  | .dic x, b, h => by cases b <;> simp [beqW] at h <;> rw [beqWs_eq h]
  | .obj c x, b, h => by cases b <;> simp [beqW] at h <;> rw [h.1, beqWs_eq h.2]
  | .ref i, b, h => by cases b <;> simp [beqW] at h <;> rw [h]
  | .ty i, b, h => by cases b <;> simp [beqW] at h <;> rw [h]
  | .cls i, b, h => by cases b <;> simp [beqW] at h <;> rw [h]
theorem beqWs_eq : ∀ {a b : List W}, beqWs a b = true → a = b
  | [], b, h => by cases b <;> first | rfl | (simp [beqWs] at h)
  | x :: r, b, h => by
    cases b with
    | nil => simp [beqWs] at h
    | cons y q =>
      simp [beqWs] at h
      rw [beqW_eq h.1, beqWs_eq h.2]
end
mutual
theorem beqW_self : ∀ a : W, beqW a a = true
  | .non => rfl
  | .bl x => by simp [beqW]
  | .int x => by simp [beqW]
  | .str x => by simp [beqW]
  | .tup x => by simp only [beqW]; exact beqWs_self x
  | .lst x => by simp only [beqW]; exact beqWs_self x
  | .fz x => by simp only [beqW]; exact beqWs_self x
  | .dic x => by simp only [beqW]; exact beqWs_self x
  | .obj c x => by simp only [beqW, beqWs_self x]; simp
  | .ref i => by simp [beqW]
  | .ty i => by simp [beqW]
  | .cls i => by simp [beqW]
theorem beqWs_self : ∀ a : List W, beqWs a a = true
  | [] => rfl
  | x :: r => by simp only [beqWs, beqW_self x, beqWs_self r]; rfl
end
def beqO : O → O → Bool
  | .lst a, .lst b => beqWs a b
  | .dic a, .dic b => beqWs a b
  | .ins c a, .ins d b => c == d && beqWs a b
  | .dead, .dead => true
  | _, _ => false
theorem beqO_eq {a b : O} (h : beqO a b = true) : a = b := by
  cases a <;> cases b <;> simp [beqO] at h
  · rw [beqWs_eq h]
  · rw [beqWs_eq h]
  · rw [h.1, beqWs_eq h.2]
  · rfl
theorem beqO_self (a : O) : beqO a a = true := by
  cases a <;> simp [beqO, beqWs_self]
/-- G is how the other begins -/
def preG : Gs → Gs → Bool
  | [], _ => true
  | a :: r, b :: q => beqO a b && preG r q
  | _ :: _, [] => false
theorem preG_eq : ∀ {G G' : Gs}, preG G G' = true → ∃ e, G' = G ++ e
  | [], G', _ => ⟨G', rfl⟩
  | a :: r, [], h => by simp [preG] at h
  | a :: r, b :: q, h => by
    simp [preG] at h
    obtain ⟨e, he⟩ := preG_eq h.2
    exact ⟨e, by rw [beqO_eq h.1, he]; rfl⟩
theorem preG_self : ∀ (G e : Gs), preG G (G ++ e) = true
  | [], _ => rfl
  | a :: r, e => by
    show (beqO a a && preG r (r ++ e)) = true
    rw [beqO_self, preG_self r e]
    rfl
mutual
/-- references exchanged -/
def rsW (h : Nat → Option W) : W → Option W
  | .ref i => h i
  | .tup xs => (rsWs h xs).map .tup
  | .lst xs => (rsWs h xs).map .lst
  | .fz xs => (rsWs h xs).map .fz
  | .dic xs => (rsWs h xs).map .dic
  | .obj c xs => (rsWs h xs).map (.obj c)
  | .non => some .non
  | .bl b => some (.bl b)
  | .int i => some (.int i)
  | .str s => some (.str s)
  | .ty t => some (.ty t)
  | .cls c => some (.cls c)
def rsWs (h : Nat → Option W) : List W → Option (List W)
  | [] => some []
  | x :: r => match rsW h x, rsWs h r with
    | some y, some ys => some (y :: ys)
    | _, _ => none
end
/-- no references -/
def pureW : W → Bool
  | .ref _ => false
  | .tup xs => pureWs xs
  | .lst xs => pureWs xs
  | .fz xs => pureWs xs
  | .dic xs => pureWs xs
  | .obj _ xs => pureWs xs
  | _ => true
where pureWs : List W → Bool
  | [] => true
  | x :: r => pureW x && pureWs r
def rsH (n : Nat) (G : Gs) : Nat → Nat → Option W
  | 0, i => if i < n then some (.ref i) else none
  | k + 1, i => if i < n then some (.ref i) else match G[i]? with
    | some (.lst xs) => (rsWs (rsH n G k) xs).map .lst
    | some (.dic xs) => (rsWs (rsH n G k) xs).map .dic
    | some (.ins c xs) => (rsWs (rsH n G k) xs).map (.obj c)
    | _ => none
/-- every reference is below n -/
def lowW (n : Nat) : W → Bool
  | .ref i => decide (i < n)
  | .tup xs => lowWs xs
  | .lst xs => lowWs xs
  | .fz xs => lowWs xs
  | .dic xs => lowWs xs
  | .obj _ xs => lowWs xs
  | _ => true
where lowWs : List W → Bool
  | [] => true
  | x :: r => lowW n x && lowWs r
def lowO (n : Nat) : O → Bool
  | .lst xs => lowW.lowWs n xs
  | .dic xs => lowW.lowWs n xs
  | .ins _ xs => lowW.lowWs n xs
  | .dead => true
/-- each object is as it was, or names nothing new -/
def mixG (n : Nat) : Gs → Gs → Bool
  | [], _ => true
  | a :: r, b :: q => (beqO a b || lowO n b) && mixG n r q
  | _ :: _, [] => false
theorem mixG_get {n : Nat} : ∀ {G G' : Gs} {i : Nat} {b : O}, mixG n G G' = true → i < G.length → G'[i]? = some b → G[i]? = some b ∨ lowO n b = true
  | a :: r, c :: q, 0, b, h, _, e => by
    simp [mixG] at h
    simp at e
    subst e
    rcases h.1 with h | h
    · exact .inl (by rw [beqO_eq h]; rfl)
    · exact .inr h
  | a :: r, c :: q, i + 1, b, h, hi, e => by
    simp [mixG] at h
    exact mixG_get (G := r) (G' := q) (i := i) h.2 (by simpa using hi) (by simpa using e)
  | a :: r, [], i, b, h, _, e => by simp [mixG] at h
theorem mixG_len {n : Nat} : ∀ {G G' : Gs}, mixG n G G' = true → G.length ≤ G'.length
  | [], _, _ => Nat.zero_le _
  | a :: r, [], h => by simp [mixG] at h
  | a :: r, b :: q, h => by
    simp [mixG] at h
    exact Nat.succ_le_succ (mixG_len h.2)
theorem mixG_self {n : Nat} : ∀ (G e : Gs), mixG n G (G ++ e) = true
  | [], _ => rfl
  | a :: r, e => by
    show ((beqO a a || _) && mixG n r (r ++ e)) = true
    rw [beqO_self, mixG_self r e]
    rfl
@[simp] theorem mixG_same {n : Nat} (G : Gs) : mixG n G G = true := by
  have := mixG_self (n := n) G []
  rwa [List.append_nil] at this
@[simp] theorem mixG_app {n : Nat} (G e : Gs) : mixG n G (G ++ e) = true := mixG_self G e
@[simp] theorem mixG_nil {n : Nat} (G : Gs) : mixG n [] G = true := rfl
@[simp] theorem mixG_cons {n : Nat} (a b : O) (r q : Gs) : mixG n (a :: r) (b :: q) = ((beqO a b || lowO n b) && mixG n r q) := rfl
@[simp] theorem beqO_same (a : O) : beqO a a = true := beqO_self a
theorem rs_low {n : Nat} : ∀ (w : W), lowW n w = true → rsW (fun i => if i < n then some (.ref i) else none) w = some w
  | .non, _ => rfl
  | .bl _, _ => rfl
  | .int _, _ => rfl
  | .str _, _ => rfl
  | .ty _, _ => rfl
  | .cls _, _ => rfl
  | .ref i, h => by
    have h : i < n := of_decide_eq_true h
    simp only [rsW, if_pos h]
  | .tup xs, h => by simp only [rsW]; rw [rs_lows xs h]; rfl
  | .lst xs, h => by simp only [rsW]; rw [rs_lows xs h]; rfl
  | .fz xs, h => by simp only [rsW]; rw [rs_lows xs h]; rfl
  | .dic xs, h => by simp only [rsW]; rw [rs_lows xs h]; rfl
  | .obj _ xs, h => by simp only [rsW]; rw [rs_lows xs h]; rfl
where rs_lows : ∀ (ws : List W), lowW.lowWs n ws = true → rsWs (fun i => if i < n then some (.ref i) else none) ws = some ws
  | [], _ => rfl
  | x :: r, h => by
    have h : (lowW n x && lowW.lowWs n r) = true := h
    rw [Bool.and_eq_true] at h
    simp only [rsWs]
    rw [rs_low x h.1, rs_lows r h.2]
def purF (F : Fn) : Fn := fun ws G => match F ws G with
  | .ok w G' => if mixG G.length G G' then (match rsW (rsH G.length G' 3) w with
    | some w' => .ok w' (G'.take G.length)
    | none => .stuck) else .stuck
  | .exc w G' => if mixG G.length G G' then (match rsW (rsH G.length G' 3) w with
    | some w' => .exc w' (G'.take G.length)
    | none => .stuck) else .stuck
  | .stuck => .stuck
theorem rsWs_ne {h : Nat → Option W} : ∀ {ws ys : List W}, rsWs h ws = some ys → ws ≠ [] → ys ≠ []
  | [], _, _, z => absurd rfl z
  | x :: r, ys, e, _ => by
    simp only [rsWs] at e
    split at e
    · cases e; simp
    · cases e
theorem rs_key (h : Nat → Option W) : ∀ k : Key, rsW h (kW k) = some (kW k)
  | .inl _ => rfl
  | .inr _ => rfl
theorem rs_keys (h : Nat → Option W) : ∀ ks : List Key, rsWs h (ks.map kW) = some (ks.map kW)
  | [] => rfl
  | k :: ks => by rw [List.map_cons, rsWs, rs_key, rs_keys h ks]
section
variable {T : Tx} {m m' : Mm} {H : Hp} {h : Nat → Option W}
mutual
theorem rsW_ok (hr : ∀ i a w, m.r[i]? = some a → h i = some w → RW T m' H w (.ref a)) (hf : ∀ a, m.fr a → m'.fr a) : ∀ {w w' : W} {v : V}, RW T m H w v → rsW h w = some w' → RW T m' H w' v
  | _, _, _, .non, e => by simp only [rsW] at e; cases e; exact .non
  | _, _, _, .bl b, e => by simp only [rsW] at e; cases e; exact .bl b
  | _, _, _, .int b, e => by simp only [rsW] at e; cases e; exact .int b
  | _, _, _, .str b, e => by simp only [rsW] at e; cases e; exact .str b
  | _, _, _, .ty b, e => by simp only [rsW] at e; cases e; exact .ty b
  | _, _, _, .cls b, e => by simp only [rsW] at e; cases e; exact .cls b
  | _, _, _, .ref q, e => by simp only [rsW] at e; exact hr _ _ _ q e
  | _, _, _, .tup r f, e => by
    simp only [rsW] at e
    obtain ⟨ys, e1, rfl⟩ := Option.map_eq_some_iff.mp e
    exact .tup (rsWs_ok hr hf r e1) (f.elim (fun f => .inl ⟨hf _ f.1, f.2⟩) .inr)
  | _, _, _, .lst r n f, e => by
    simp only [rsW] at e
    obtain ⟨ys, e1, rfl⟩ := Option.map_eq_some_iff.mp e
    exact .lst (rsWs_ok hr hf r e1) (hf _ n) f
  | _, _, _, .fz r f, e => by
    simp only [rsW] at e
    obtain ⟨ys, e1, rfl⟩ := Option.map_eq_some_iff.mp e
    exact .fz (rsWs_ok hr hf r e1) (f.elim (fun f => .inl ⟨hf _ f.1, f.2⟩) .inr)
  | _, _, _, .dic r n f, e => by
    simp only [rsW] at e
    obtain ⟨ys, e1, rfl⟩ := Option.map_eq_some_iff.mp e
    exact .dic (rsWe_ok hr hf r e1) (hf _ n) f
  | _, _, _, .dit r z n f, e => by
    simp only [rsW] at e
    obtain ⟨ys, e1, rfl⟩ := Option.map_eq_some_iff.mp e
    exact .dit (rsWt_ok hr hf r e1) (rsWs_ne e1 z) (hf _ n) f
  | _, _, _, .obj r n c q l, e => by
    simp only [rsW] at e
    obtain ⟨ys, e1, rfl⟩ := Option.map_eq_some_iff.mp e
    exact .obj (rsWs_ok hr hf r e1) (hf _ n) c q l
theorem rsWs_ok (hr : ∀ i a w, m.r[i]? = some a → h i = some w → RW T m' H w (.ref a)) (hf : ∀ a, m.fr a → m'.fr a) : ∀ {ws ws' : List W} {vs : List V}, RWs T m H ws vs → rsWs h ws = some ws' → RWs T m' H ws' vs
  | _, _, _, .nil, e => by simp only [rsWs] at e; cases e; exact .nil
  | _, _, _, .cons r t, e => by
    simp only [rsWs] at e
    split at e
    · rename_i e1 e2
      cases e
      exact .cons (rsW_ok hr hf r e1) (rsWs_ok hr hf t e2)
    · cases e
theorem rsWe_ok (hr : ∀ i a w, m.r[i]? = some a → h i = some w → RW T m' H w (.ref a)) (hf : ∀ a, m.fr a → m'.fr a) : ∀ {ws ws' : List W} {vs : List (Key × V)}, RWe T m H ws vs → rsWs h ws = some ws' → RWe T m' H ws' vs
  | _, _, _, .nil, e => by simp only [rsWs] at e; cases e; exact .nil
  | _, _, _, .consI (k := k) (w := w) r t, e => by
    simp only [rsWs, rsW] at e
    cases e1 : rsW h w with
    | none => rw [e1] at e; cases e
    | some y =>
      rw [e1] at e
      simp only [Option.map_some] at e
      split at e
      · rename_i e2 e3
        cases e2
        cases e
        exact .consI (rsW_ok hr hf r e1) (rsWe_ok hr hf t e3)
      · cases e
  | _, _, _, .consS (k := k) (w := w) r t, e => by
    simp only [rsWs, rsW] at e
    cases e1 : rsW h w with
    | none => rw [e1] at e; cases e
    | some y =>
      rw [e1] at e
      simp only [Option.map_some] at e
      split at e
      · rename_i e2 e3
        cases e2
        cases e
        exact .consS (rsW_ok hr hf r e1) (rsWe_ok hr hf t e3)
      · cases e
theorem rsWt_ok (hr : ∀ i a w, m.r[i]? = some a → h i = some w → RW T m' H w (.ref a)) (hf : ∀ a, m.fr a → m'.fr a) : ∀ {ws ws' : List W} {vs : List (List Key × V)}, RWt T m H ws vs → rsWs h ws = some ws' → RWt T m' H ws' vs
  | _, _, _, .nil, e => by simp only [rsWs] at e; cases e; exact .nil
  | _, _, _, .cons (ks := ks) (w := w) r t, e => by
    simp only [rsWs, rsW, rs_keys] at e
    cases e1 : rsW h w with
    | none => rw [e1] at e; cases e
    | some y =>
      rw [e1] at e
      simp only [Option.map_some] at e
      split at e
      · rename_i e2 e3
        cases e2
        cases e
        exact .cons (rsW_ok hr hf r e1) (rsWt_ok hr hf t e3)
      · cases e
end
end
theorem rsH_ok {T : Tx} {m : Mm} {G' : Gs} {H : Hp} {n : Nat} (hG : RG T m G' H) : ∀ (k i : Nat) (a : Addr) (w : W), m.r[i]? = some a → rsH n G' k i = some w → RW T ⟨m.r.take n, m.av⟩ H w (.ref a)
  | 0, i, a, w, h, e => by
    unfold rsH at e
    split at e
    · rename_i hi
      cases e
      exact .ref (by rw [List.getElem?_take_of_lt hi]; exact h)
    · cases e
  | k + 1, i, a, w, h, e => by
    have ih := rsH_ok (n := n) hG k
    have hf : ∀ a, m.fr a → (⟨m.r.take n, m.av⟩ : Mm).fr a := fun a f => ⟨fun q => f.1 (List.mem_of_mem_take q), f.2⟩
    unfold rsH at e
    split at e
    · rename_i hi
      cases e
      exact .ref (by rw [List.getElem?_take_of_lt hi]; exact h)
    · rename_i hi
      have fa : (⟨m.r.take n, m.av⟩ : Mm).fr a := by
        refine ⟨fun q => ?_, hG.dj a (List.mem_of_getElem? h)⟩
        obtain ⟨j, hj⟩ := List.getElem?_of_mem q
        have hjn : j < n := by
          have := (List.getElem?_eq_some_iff.mp hj).1
          rw [List.length_take] at this
          omega
        rw [List.getElem?_take_of_lt hjn] at hj
        obtain ⟨h1, h1'⟩ := List.getElem?_eq_some_iff.mp hj
        obtain ⟨h2, h2'⟩ := List.getElem?_eq_some_iff.mp h
        have := ix_inj hG.nd h1 h2 (h1'.trans h2'.symm)
        omega
      split at e
      · rename_i xs eg
        obtain ⟨ys, e1, rfl⟩ := Option.map_eq_some_iff.mp e
        obtain ⟨us, e2, r⟩ := hG.ob i _ a eg h
        exact .lst (rsWs_ok ih hf r e1) fa e2
      · rename_i xs eg
        obtain ⟨ys, e1, rfl⟩ := Option.map_eq_some_iff.mp e
        rcases hG.ob i _ a eg h with ⟨us, e2, r⟩ | ⟨us, e2, z, r⟩
        · exact .dic (rsWe_ok ih hf r e1) fa (.inl e2)
        · exact .dit (rsWt_ok ih hf r e1) (rsWs_ne e1 z) fa (.inl e2)
      · rename_i c xs eg
        obtain ⟨ys, e1, rfl⟩ := Option.map_eq_some_iff.mp e
        obtain ⟨C, dx, us, hc, e2, l, r⟩ := hG.ob i _ a eg h
        exact .obj (rsWs_ok ih hf r e1) fa hc e2 l
      · cases e
mutual
theorem rsW_id {T : Tx} {m : Mm} {H : Hp} {h : Nat → Option W} (hh : ∀ i a, m.r[i]? = some a → h i = some (.ref i)) : ∀ {w : W} {v : V}, RW T m H w v → rsW h w = some w
  | _, _, .non => rfl
  | _, _, .bl _ => rfl
  | _, _, .int _ => rfl
  | _, _, .str _ => rfl
  | _, _, .ty _ => rfl
  | _, _, .cls _ => rfl
  | _, _, .ref q => by simp only [rsW]; exact hh _ _ q
  | _, _, .tup r _ => by simp only [rsW]; rw [rsWs_id hh r]; rfl
  | _, _, .lst r _ _ => by simp only [rsW]; rw [rsWs_id hh r]; rfl
  | _, _, .fz r _ => by simp only [rsW]; rw [rsWs_id hh r]; rfl
  | _, _, .dic r _ _ => by simp only [rsW]; rw [rsWe_id hh r]; rfl
  | _, _, .dit r _ _ _ => by simp only [rsW]; rw [rsWt_id hh r]; rfl
  | _, _, .obj r _ _ _ _ => by simp only [rsW]; rw [rsWs_id hh r]; rfl
theorem rsWs_id {T : Tx} {m : Mm} {H : Hp} {h : Nat → Option W} (hh : ∀ i a, m.r[i]? = some a → h i = some (.ref i)) : ∀ {ws : List W} {vs : List V}, RWs T m H ws vs → rsWs h ws = some ws
  | _, _, .nil => rfl
  | _, _, .cons r t => by simp only [rsWs]; rw [rsW_id hh r, rsWs_id hh t]
theorem rsWe_id {T : Tx} {m : Mm} {H : Hp} {h : Nat → Option W} (hh : ∀ i a, m.r[i]? = some a → h i = some (.ref i)) : ∀ {ws : List W} {vs : List (Key × V)}, RWe T m H ws vs → rsWs h ws = some ws
  | _, _, .nil => rfl
  | _, _, .consI r t => by simp only [rsWs, rsW]; rw [rsW_id hh r, rsWe_id hh t]; rfl
  | _, _, .consS r t => by simp only [rsWs, rsW]; rw [rsW_id hh r, rsWe_id hh t]; rfl
theorem rsWt_id {T : Tx} {m : Mm} {H : Hp} {h : Nat → Option W} (hh : ∀ i a, m.r[i]? = some a → h i = some (.ref i)) : ∀ {ws : List W} {vs : List (List Key × V)}, RWt T m H ws vs → rsWs h ws = some ws
  | _, _, .nil => rfl
  | _, _, .cons r t => by simp only [rsWs, rsW, rs_keys]; rw [rsW_id hh r, rsWt_id hh t]; rfl
end
section
variable {T : Tx} {m : Mm} {H : Hp} {Q : VK} {W0 : WX} {F : Fn} {ws : List W} {G : Gs}
theorem take_back {m' : Mm} {H' : Hp} {G' : Gs} (hG : RG T m G H) (k : Keep m H m' H') (g : RG T m' G' H') (hm : mixG G.length G G' = true) : Keep m H ⟨m'.r.take G.length, m'.av⟩ H' ∧ RG T ⟨m'.r.take G.length, m'.av⟩ (G'.take G.length) H' := by
  obtain ⟨x, hx⟩ := k.ext
  have ht : m'.r.take G.length = m.r := by rw [hx, ← hG.len, List.take_left]
  have kk : Keep m H ⟨m'.r.take G.length, m'.av⟩ H' := by
    rw [ht]
    exact ⟨⟨[], (List.append_nil _).symm⟩, k.avL, k.avU, k.th, fun a o h n => ⟨(k.fz a o h n).1, n⟩⟩
  refine ⟨kk, ?_⟩
  have hf : ∀ a, m'.fr a → (⟨m'.r.take G.length, m'.av⟩ : Mm).fr a := fun a f => ⟨fun q => f.1 (List.mem_of_mem_take q), f.2⟩
  let h : Nat → Option W := fun i => if i < G.length then some (.ref i) else none
  have hr : ∀ i a w, m'.r[i]? = some a → h i = some w → RW T ⟨m'.r.take G.length, m'.av⟩ H' w (.ref a) := fun i a w q e => by
    by_cases hi : i < G.length
    · simp only [h, if_pos hi] at e
      cases e
      exact .ref (by rw [List.getElem?_take_of_lt hi]; exact q)
    · simp only [h, if_neg hi] at e
      cases e
  have hh : ∀ i a, m.r[i]? = some a → h i = some (.ref i) := fun i a q => by
    have hi : i < G.length := by rw [← hG.len]; exact (List.getElem?_eq_some_iff.mp q).1
    simp only [h, if_pos hi]
  have hlen := mixG_len hm
  refine ⟨by rw [ht, List.length_take, Nat.min_eq_left hlen]; exact hG.len, by rw [ht]; exact hG.nd, fun i o a h1 h2 => ?_, g.av, fun a q => g.dj a (List.mem_of_mem_take q)⟩
  have hi : i < G.length := by
    have := (List.getElem?_eq_some_iff.mp h1).1
    rw [List.length_take] at this
    omega
  rw [List.getElem?_take_of_lt hi] at h1
  have h2 : m'.r[i]? = some a := by
    have h2 : (m'.r.take G.length)[i]? = some a := h2
    rw [List.getElem?_take_of_lt hi] at h2
    exact h2
  have h3 : m.r[i]? = some a := by
    rw [hx, List.getElem?_append_left (by rw [hG.len]; exact hi)] at h2
    exact h2
  have q := g.ob i o a h1 h2
  have go : ∀ (hw : ∀ (xs : List W), (o = .lst xs ∨ o = .dic xs ∨ ∃ c, o = .ins c xs) → rsWs h xs = some xs), RO T ⟨m'.r.take G.length, m'.av⟩ H' o a := fun hw => by
    cases o with
    | lst xs =>
      obtain ⟨vs, e1, r⟩ := q
      exact ⟨vs, e1, rsWs_ok hr hf r (hw xs (.inl rfl))⟩
    | dic xs =>
      rcases q with ⟨vs, e1, r⟩ | ⟨vs, e1, z, r⟩
      · exact .inl ⟨vs, e1, rsWe_ok hr hf r (hw xs (.inr (.inl rfl)))⟩
      · exact .inr ⟨vs, e1, z, rsWt_ok hr hf r (hw xs (.inr (.inl rfl)))⟩
    | ins c xs =>
      obtain ⟨C, dx, vs, hc, e1, l, r⟩ := q
      exact ⟨C, dx, vs, hc, e1, l, rsWs_ok hr hf r (hw xs (.inr (.inr ⟨c, rfl⟩)))⟩
    | dead => exact q
  refine go fun xs hx => ?_
  rcases mixG_get hm hi h1 with e | e
  · have q0 := hG.ob i o a e h3
    rcases hx with rfl | rfl | ⟨c, rfl⟩
    · obtain ⟨us, _, r0⟩ := q0
      exact rsWs_id hh r0
    · rcases q0 with ⟨us, _, r0⟩ | ⟨us, _, _, r0⟩
      · exact rsWe_id hh r0
      · exact rsWt_id hh r0
    · obtain ⟨_, _, us, _, _, _, r0⟩ := q0
      exact rsWs_id hh r0
  · rcases hx with rfl | rfl | ⟨c, rfl⟩
    · exact rs_low.rs_lows xs e
    · exact rs_low.rs_lows xs e
    · exact rs_low.rs_lows xs e
theorem out_pur (hG : RG T m G H) (ho : Out T W0 m H [] Q (purF F ws G)) : Out T W0 m H [] Q (F ws G) := by
  unfold purF at ho
  have hf : ∀ (m' : Mm) a, m'.fr a → (⟨m'.r.take G.length, m'.av⟩ : Mm).fr a := fun m' a f => ⟨fun q => f.1 (List.mem_of_mem_take q), f.2⟩
  cases e : F ws G with
  | stuck => rw [e] at ho; exact ho
  | ok w G' =>
    rw [e] at ho
    simp only at ho
    split at ho
    · rename_i hp
      split at ho
      · rename_i w' hw
        intro m' v H' k g r
        obtain ⟨k', g'⟩ := take_back hG k g hp
        exact ho _ v H' k' g' (rsW_ok (rsH_ok g 3) (hf m') r hw)
      · exact False.elim ho
    · exact False.elim ho
  | exc w G' =>
    rw [e] at ho
    simp only at ho
    split at ho
    · rename_i hp
      split at ho
      · rename_i w' hw
        intro m' c d H' k g r
        obtain ⟨k', g'⟩ := take_back hG k g hp
        obtain ⟨ci, us, C, dd, vs, rfl, h1, h2, h3, h4, h5, h6, h7⟩ := r
        simp only [rsW] at hw
        obtain ⟨ys, e1, rfl⟩ := Option.map_eq_some_iff.mp hw
        exact ho _ c d H' k' g' ⟨ci, ys, C, dd, vs, rfl, h1, h2, h3, hf m' _ h4, h5, h6, rsWs_ok (rsH_ok g 3) (hf m') h7 e1⟩
      · exact False.elim ho
    · exact False.elim ho
end
section
variable {P : Program} {w : World} {mg : Str → Option Value} {base : Heap} {T : Tx}
theorem fn_pur {f : Addr} {fd : FuncData} {ps : List Str} {k n : Nat} {F : Fn} (h : FnOk P w T.K mg base (L2.CX P w) k f fd ps (spF T n F)) : FnOk P w T.K mg base (L2.CX P w) k f fd ps (spF T n (purF F)) :=
  fn_imp h fun ws G m H vs Q W0 g r o => out_pur g o
end
end U

namespace U
open PySem
open L2

/-- items in another order -/
def perm {α : Type} (p : List Nat) (xs : List α) : List α := p.filterMap fun i => xs[i]?
theorem perm_vals {p : List Nat} {vs : List V} {us : List Value} (r : Vals vs us) : Vals (perm p vs) (perm p us) := by
  induction p with
  | nil => exact .nil
  | cons i p ih =>
    unfold perm at ih ⊢
    rw [List.filterMap_cons, List.filterMap_cons]
    cases e : vs[i]? with
    | none => rw [Vals.none_of r e]; exact ih
    | some v =>
      obtain ⟨u, e1, r1⟩ := Vals.get r e
      rw [e1]
      exact .cons r1 ih
theorem perm_rws {T : Tx} {m : Mm} {H : Hp} {p : List Nat} {ws : List W} {vs : List V} (r : RWs T m H ws vs) : RWs T m H (perm p ws) (perm p vs) := by
  induction p with
  | nil => exact .nil
  | cons i p ih =>
    unfold perm at ih ⊢
    rw [List.filterMap_cons, List.filterMap_cons]
    cases e : ws[i]? with
    | none =>
      have : vs[i]? = none := by
        rw [List.getElem?_eq_none_iff, ← r.length]
        exact List.getElem?_eq_none_iff.mp e
      rw [this]
      exact ih
    | some v =>
      obtain ⟨u, e1, r1⟩ := r.get e
      rw [e1]
      exact .cons r1 ih
/-- how n positional values and the keywords' values, then defaults, come to the parameters -/
def KB (K : PySem.W.Frag) (fd : FuncData) (ps : List Str) (n : Nat) (ks : List Str) (ds : List Value) (p : List Nat) : Prop :=
  ∀ (s : Shared) (us ws : List Value), K.In s.heap → us.length = n → ws.length = ks.length → BindsTo s fd ⟨us, ks.zip ws⟩ (ps.zip (perm p (us ++ ws ++ ds)))
theorem kb_of {K : PySem.W.Frag} {x qual : Str} {st : Stmt} {f : Addr} {fd : FuncData} {ps ks : List Str} {n : Nat} {p : List Nat} (F : Fun K x qual st f fd)
    (h : ∀ (kV doc pm : Value) (an : Option Addr) (cdv ct : Value) (us ws : List Value), us.length = n → ws.length = ks.length → bindArgs (PySem.W.fnOf x qual (defArgs st) (defBody st) (defScope st) .none kV doc pm an cdv ct) ⟨us, ks.zip ws⟩ = pure (ps.zip (perm p (us ++ ws ++ [])))) : KB K fd ps n ks [] p := by
  obtain ⟨oc, od, kV, doc, pm, an, cdv, ct, osl, rfl, lk, hcd⟩ := F.ex
  exact fun s us ws _ h1 h2 => .of_eq (h kV doc pm an cdv ct us ws h1 h2)
/-- keywords' values -/
def FK (T : Tx) (X : Cx) (W0 : WX) (kws : List Keyword) (f : EF) : Prop := ∃ t, PK X kws t ∧ ImpA T W0 t f
section
variable {T : Tx} {X : Cx} {W0 : WX} {e : Expr} {kws : List Keyword} {f r : EF} {nm : Option Str} {kpos pos p : Pos} {x : Str}
theorem imp_acons {te : TE} {t : TA} (i : Imp T W0 te f) (ir : ImpA T W0 t r) : ImpA T W0 (tCons te t) (aCons f r) := by
  intro m ls G σ H Q hG hL ho
  refine i m ls G σ H _ hG hL ?_
  simp only [aCons] at ho
  cases e : f ls G with
  | stuck => rw [e] at ho; exact ho
  | exc w G1 => rw [e] at ho; exact ho
  | ok w G1 =>
    rw [e] at ho
    simp only [Res.bind] at ho
    intro m1 v H1 k1 g1 r1
    refine ir m1 ls G1 σ H1 _ g1 (hL.keep k1) ?_
    cases e2 : r ls G1 with
    | stuck => rw [e2] at ho; exact ho
    | exc w2 G2 => rw [e2] at ho; exact fun m2 c d H2 k2 g2 r2 => ho m2 c d H2 (k1.trans k2) g2 r2
    | ok w2 G2 =>
      rw [e2] at ho
      cases w2 with
      | tup ws =>
        obtain ⟨us, eu, q⟩ := ho
        cases eu
        exact ⟨ws, rfl, fun m2 vs H2 k2 g2 r2 => q m2 _ H2 (k1.trans k2) g2 (.cons (r1.keep k2) r2)⟩
      | _ => obtain ⟨us, eu, q⟩ := ho; try cases eu
theorem fk_nil : FK T X W0 [] aNil := ⟨_, pk_nil, fun m ls G σ H Q hG hL ho => by
  obtain ⟨ws, ew, q⟩ := ho
  cases ew
  exact q m [] H (.refl _ _) hG .nil⟩
theorem fk_cons (h : FE T X W0 e f) (hr : FK T X W0 kws r) : FK T X W0 (⟨nm, e, kpos⟩ :: kws) (aCons f r) := by
  obtain ⟨t, h, i⟩ := h
  obtain ⟨u, hr, ir⟩ := hr
  exact ⟨_, pk_cons h hr, imp_acons i ir⟩
variable {k n : Nat} {fa : Addr} {fd : FuncData} {ps ks : List Str} {F : Fn} {dvs : List V} {dws : List W} {ds : List Value} {pm : List Nat} {fk : EF}
theorem run_fnK {pins : List (Addr × Obj)} {σ : St} {H : Hp} {s : Shared} {Q : VK} {us ws : List Value} {vs zs : List V} {sp : Sp} (c : Ctx T X W0) (FO : FnOk X.prog X.w X.K X.mg X.base (L2.CX X.prog X.w) k fa fd ps sp) (hr : Room k X.A) (hb : KB X.K fd ps n ks ds pm) (hd : Vals dvs ds)
    (I : Inv X pins σ H s) (r : Vals vs us) (rz : Vals zs ws) (l1 : us.length = n) (l2 : ws.length = ks.length) (h : sp (perm pm (vs ++ zs ++ dvs)) H Q (WE W0 σ)) : wpAny (model X.prog X.w) X.A (call (.ref fa) us (ks.zip ws)) (EP X pins σ Q) X.xe s := by
  refine wpAny_call (codeAny_mono (FO.run X.A X.stack s H ⟨us, ks.zip ws⟩ _ _ Q (WE W0 σ) hr I.env0 (hb s us ws I.kIn l1 l2) (perm_vals ((r.append rz).append hd)) h) fun r s' hq => ?_)
  cases r with
  | error e => exact passAt c.tk σ pins H s e s' I hq
  | ok fl =>
    cases fl with
    | ret u => exact I.after hq
    | next => exact False.elim hq
    | brk => exact False.elim hq
    | cont => exact False.elim hq
/-- f(k = v, ..) -/
def tCallKO (sp : Sp) (pm : List Nat) (n : Nat) (dvs : List V) (E : St → XK) (tk : TA) : TE := fun σ H Q => tk σ H fun zs H2 => zs.length = n ∧ sp (perm pm ([] ++ zs ++ dvs)) H2 Q (E σ)
theorem pe_callKO {sp : Sp} {tk : TA} (c : Ctx T X W0) (FO : FnOk X.prog X.w X.K X.mg X.base (L2.CX X.prog X.w) k fa fd ps sp) (hr : Room k X.A) (hg : Gl X x) (hm : X.mg x = some (.ref fa)) (hk : PySem.W.keepIn X.K (.ref fa) = true) (hb : KB X.K fd ps 0 ks ds pm) (hd : Vals dvs ds)
    (hkw : PK X kws tk) (hall : (backToKw pos (keywordEach kws X.env)).all (·.1.isSome) = true) (hks : (backToKw pos (keywordEach kws X.env)).filterMap (·.1) = ks)
    (hdb : (x == ("__debug__" : Str)) = false) (hpl : ((backTo pos (starEach [] X.env)).any (·.1) || (backToKw pos (keywordEach kws X.env)).any (·.1.isNone)) = false) :
    PE X (.Call (.Name x p) [] kws pos) (tCallKO sp pm ks.length dvs (WE W0) tk) := by
  refine ⟨fun pins s σ H Q I h => ?_⟩
  refine wpAny_Call_Name_kw (ld_glob I hg hm ?_ hdb)
  refine PySem.W.callWith_KW0 (h₀ := X.base) I.ok.mod.kin hk hall ?_ hpl
  refine thn (hkw.run pos pins s σ H _ I h) fun ws s2 ⟨zs, H2, I2, rz, l2, q2⟩ => ⟨I2.kIn, ?_⟩
  rw [hks]
  exact run_fnK (us := []) (vs := []) c FO hr hb hd I2 .nil rz rfl (rz.length.symm.trans l2) q2
@[simp] def eFnK (F : Fn) (pm : List Nat) (dws : List W) (fa fk : EF) : EF := fun ls G => (fa ls G).bind fun w G1 => asT w fun ws => (fk ls G1).bind fun z G2 => asT z fun zs => F (perm pm (ws ++ zs ++ dws)) G2
theorem fe_callKO (c : Ctx T X W0) (FO : FnOk X.prog X.w X.K X.mg X.base (L2.CX X.prog X.w) k fa fd ps (spF T n F)) (hr : Room k X.A) (hm : X.mg x = some (.ref fa)) (hk : PySem.W.keepIn X.K (.ref fa) = true) (hb : KB X.K fd ps 0 ks ds pm) (hd : Dfl T dws dvs ds)
    (hkw : FK T X W0 kws fk) (hl : ∀ ls G ws G1, fk ls G = .ok (.tup ws) G1 → ws.length = ks.length) (hn : ∀ zs : List W, zs.length = ks.length → (perm pm ([] ++ zs ++ dws)).length = n)
    (hg : Gl X x := by rfl) (hall : (backToKw pos (keywordEach kws X.env)).all (·.1.isSome) = true := by rfl) (hks : (backToKw pos (keywordEach kws X.env)).filterMap (·.1) = ks := by rfl)
    (hdb : (x == ("__debug__" : Str)) = false := by decide +kernel) (hpl : ((backTo pos (starEach [] X.env)).any (·.1) || (backToKw pos (keywordEach kws X.env)).any (·.1.isNone)) = false := by rfl) :
    FE T X W0 (.Call (.Name x p) [] kws pos) (eFnK F pm dws aNil fk) := by
  obtain ⟨t, hkw, ik⟩ := hkw
  refine ⟨_, pe_callKO c FO hr hg hm hk hb hd.1 hkw hall hks hdb hpl, fun m ls G σ H Q hG hL ho => ?_⟩
  refine ik m ls G σ H _ hG hL ?_
  simp only [eFnK, aNil, Res.bind, asT] at ho
  cases e1 : fk ls G with
  | stuck => rw [e1] at ho; exact ho
  | exc w G1 => rw [e1] at ho; exact ho
  | ok w G1 =>
    rw [e1] at ho
    cases w with
    | tup zs =>
      refine ⟨zs, rfl, fun m1 vs H1 k1 g1 r1 => ?_⟩
      have hz := hl ls G zs G1 e1
      exact ⟨by rw [← r1.length, hz], m1, G1, perm pm ([] ++ zs ++ dws), g1, perm_rws (r1.append (hd.2 m1 H1)), hn zs hz, Out.wx (Out.keep k1 ho) fun _ _ _ h => h⟩
    | _ => exact False.elim ho
end

/-! ### the end: the law's own call -/
theorem fz_ints {T : Tx} {m : Mm} {H : Hp} : ∀ ns : List Int, RWs T m H (ns.map W.int) (ns.map V.int)
  | [] => .nil
  | n :: r => .cons (.int n) (fz_ints r)
theorem law_sp {T : Tx} {H : Hp} {a : Addr} {ns : List Int} {F : Fn} {G : Gs} (hS : SqL T.K H a (ns.map V.int)) (h : F [.fz (ns.map .int)] [] = .ok (.bl true) G) : spF T 1 F [.ref a] H (fun v _ => v = .bl true) fun _ _ _ => False := by
  refine ⟨⟨[], []⟩, [], [.fz (ns.map .int)], ⟨rfl, List.Pairwise.nil, fun i o a e => by simp at e, fun a h => (nomatch h), fun a h => (nomatch h)⟩, .cons (.fz (fz_ints ns) ?_) .nil, rfl, ?_⟩
  · rcases hS with h | h
    · exact .inl ⟨⟨(fun q => nomatch q), (fun q => nomatch q)⟩, h⟩
    · exact .inr h
  · rw [h]
    intro m' v H' k g r
    cases r
    rfl

theorem fe_const {T : Tx} {X : Cx} {W0 : WX} {x y : Str} {t : Tok} {pos : Pos} (hm : X.mg x = some (.str y t)) (s : List Nat) (h : y = ⟨s.toArray⟩ := by decide +kernel) (hg : Gl X x := by rfl) (hdb : (x == ("__debug__" : Str)) = false := by decide +kernel) : FE T X W0 (.Name x pos) (eC (.str s)) := by
  subst h
  exact ⟨_, pe_glob (v := .str ⟨s.toArray⟩) hg hm ⟨t, rfl⟩ hdb, fun m _ _ _ H _ hG _ ho => ho m _ H (.refl m H) hG (.str s)⟩
theorem fn_stuck {P : Program} {w : World} {mg : Str → Option Value} {base : Heap} {T : Tx} {k n : Nat} {f : Addr} {fd : FuncData} {ps : List Str} (hn : ps.length = n) : FnOk P w T.K mg base (L2.CX P w) k f fd ps (spF T n fun _ _ => .stuck) :=
  ⟨fun vs H Q E h => by
    obtain ⟨m, G, ws, _, r, hl, _⟩ := h
    rw [← r.length, hl, hn], fun A outer s H args us vs Q E hr e0 hb r h => by
    obtain ⟨m, G, ws, _, _, _, ho⟩ := h
    exact False.elim ho⟩
theorem cx_none {P : Program} (w : World) (H : Hp) (s : Shared) (e : Value) (s' : Shared) (h : L2.CX P w [] H s (fun _ _ _ => False) e s') : False := by
  obtain ⟨_, _, _, _, _, _, _, _, _, _, _, _, z⟩ := h
  exact z
end U

/-! starred targets and displays -/
namespace U
open PySem
open PySem.W
open PyProof.Rows
open Builtin
open L2
open Sem (wp)
theorem walks_from {prog : Program} {w : World} {A : Around} {I : Addr} {fp wr : List Addr} {n : Nat} {P : Nat → Value → Prop} {St : Nat → Heap → Prop} (W : Walks prog w A I fp wr n P St) (i : Nat) (hi : i ≤ n) :
    Walks prog w A I fp wr (n - i) (fun j v => P (i + j) v) (fun j h => St (i + j) h) where
  sub := W.sub
  frame := fun j h h' st hk => W.frame (i + j) h h' st hk
  item := fun j s Q E hj st hQ => W.item (i + j) s Q E (by omega) st fun v h' tk hp st' hk => hQ v h' tk hp st' hk
  done := fun s Q E st hQ => W.done s Q E (by have e : i + (n - i) = n := by omega
                                              rw [← e]; exact st) hQ
  self := fun j s Q E st hQ => W.self (i + j) s Q E st hQ
section
variable {prog : Program} {w : World} {A : Around} {E : Value → Shared → Prop} {s : Shared}
theorem items_of {P : Nat → Value → Prop} {acc : Array Value} {l : List Value} (h : ItemsOf P acc l.length) (hp : ∀ j v, P j v → l[j]? = some v) : acc.toList = l := by
  refine List.ext_getElem? fun j => ?_
  rw [Array.getElem?_toList]
  cases e : acc[j]? with
  | some v => exact (hp j v (h.2 j v e)).symm
  | none =>
    have : l.length ≤ j := by
      rw [← h.1]
      rcases Nat.lt_or_ge j acc.size with hl | hl
      · rw [Array.getElem?_eq_getElem hl] at e
        cases e
      · exact hl
    rw [List.getElem?_eq_none this]
theorem unpackItems_star {t : Addr} {items : Array Value} {i : Nat} {Q : List Value → Shared → Prop} (hh : A.handled = none) (ht : PyProof.Rows.IsTup s.heap t items) (hi : i ≤ items.size) (hz : items.size ≤ sizeLine)
    (hQ : ∀ (h' : Heap) (tk : Nat), (∀ b o, s.heap.get? b = some o → h'.get? b = some o) → Q (items.toList.take i ++ [.ref h'.objs.size]) { s with heap := h'.push { cls := .type "list", data := .seq (items.toList.drop i).toArray }, toks := tk }) :
    wpAny (model prog w) A (unpackItems (.ref t) (i + 1) (some i)) Q E s := by
  have hlt : t ≠ s.heap.objs.size := by obtain ⟨o, ho, _⟩ := ht; exact Nat.ne_of_lt (Heap.lt_size ho)
  unfold unpackItems
  refine wpAny_bind ?_
  unfold notIterableAtAll
  refine wpAny_bind (wpAny_specialOf ht.typeIs slot_tuple_iter.lookup ?_)
  refine wpAny_pure ?_
  simp only [Bool.false_eq_true, if_false]
  refine wpAny_bind (wpAny_holding (PyProof.Rows.iter_tuple ht ?_))
  refine wpAny_bind (wpAny_holding (PyProof.Rows.draw_tuple hlt i 0 _ _ ⟨_, Heap.get?_push_size _ rfl, rfl, rfl⟩ (ht.push _) (by omega) fun h₁ hit₁ hs₁ => ?_))
  rw [List.drop_zero, Nat.zero_add] at *
  have hlen : (items.toList.take i).length = i := by rw [List.length_take, Array.length_toList]; omega
  rw [if_neg (by rw [hlen]; exact Nat.lt_irrefl i)]
  have ht₁ : PyProof.Rows.IsTup h₁ t items := (ht.push _).extBut hs₁.extBut hlt
  have W := (walks_from (Walks.tuple (prog := prog) (w := w) (A := A.in1) (show A.in1.handled = none from hh) s.heap.objs.size t hlt items) i hi).toS
  refine wpAny_bind (wpAny_holding (wpAny_collect_iter (.inr (.inr (.inr rfl))) W ?_ ?_ ?_ ?_ (fun s' acc hm ha => ?_) (by omega)))
  · exact fun j s1 st => let ⟨o, ho, hc, _⟩ := st.1; ⟨o, ho, hc⟩
  · exact ⟨hit₁, ht₁⟩
  · intro b hb
    simp only [List.mem_cons, List.not_mem_nil, or_false] at hb
    rcases hb with rfl | rfl
    · obtain ⟨o, ho, _⟩ := hit₁; exact Heap.lt_size ho
    · obtain ⟨o, ho, _⟩ := ht₁; exact Heap.lt_size ho
  · exact List.mem_cons_self
  · have e : acc.toList = items.toList.drop i := items_of (l := items.toList.drop i) (by rw [List.length_drop, Array.length_toList]; exact ha) fun j v hv => by
      rw [List.getElem?_drop, Array.getElem?_toList]
      exact hv
    have hk : ∀ b o, s.heap.get? b = some o → s'.heap.get? b = some o := fun b o hb => by
      have hne : b ≠ s.heap.objs.size := Nat.ne_of_lt (Heap.lt_size hb)
      refine hm.heap b o (by simpa using hne) ?_
      exact hs₁.extBut b o hne (Heap.get?_push_of_some _ hb)
    rw [e]
    have h0 : i + 1 - 1 - i = 0 := by omega
    rw [h0]
    rw [if_neg (Nat.not_lt_zero _)]
    rw [Nat.sub_zero, List.take_length, List.drop_length]
    refine wpAny_bind (wpAny_newObj_type ?_ (by simp [sizeOk]; omega))
    refine wpAny_pure ?_
    rw [List.append_nil]
    have := hQ s'.heap s'.toks hk
    have e1 := hm.gens
    have e2 := hm.drawn
    have e3 := hm.os
    simp only at e1 e2 e3
    rw [← e1, ← e2, ← e3] at this
    exact this
end

/-! ### a starred target -/
def gStar (K : PySem.W.Frag) (i : Nat) (t : TGs) : TG := fun v σ H Q => ∃ a xs, v = .ref a ∧ SqT K H a xs ∧ i ≤ xs.length ∧ ∀ p, H p = none → t (xs.take i ++ [.ref p]) σ (upd H p (.lst (xs.drop i))) Q
theorem vals_drop {vs : List V} {us : List Value} (r : Vals vs us) : ∀ n : Nat, Vals (vs.drop n) (us.drop n)
  | 0 => r
  | n + 1 => by
    cases r with
    | nil => exact .nil
    | cons r1 r2 => exact vals_drop r2 n
theorem vals_takeApp {vs : List V} {us : List Value} {x : V} {u : Value} (r : Vals vs us) (h : RelV x u) : ∀ n : Nat, Vals (vs.take n ++ [x]) (us.take n ++ [u])
  | 0 => .cons h .nil
  | n + 1 => by
    cases r with
    | nil => exact .cons h .nil
    | cons r1 r2 => exact .cons r1 (vals_takeApp r2 h n)
theorem pg_star {X : Cx} {pos : Pos} {es : List Expr} {k i : Nat} {t : TGs} (hc : X.calm = true) (h : PGs X es t)
    (hn : (assignEach es X.env).length = i + 1 := by rfl) (hst : (assignEach es X.env).findIdx? (·.1) = some i := by rfl) : PG X (.Tuple es k pos) (gStar X.K i t) := by
  refine ⟨fun pins s σ H v u Q I r hw => ?_⟩
  obtain ⟨a, xs, e1, hq, hl, hw⟩ := hw
  subst e1
  cases r
  obtain ⟨its, rv, ht, hz⟩ := I.tuple hq
  have el := rv.length
  rw [PyProof.Rows.assign_Tuple]
  refine wpAny_bind (wpAny_standAt ?_)
  unfold unpack
  rw [hn, hst]
  refine wpAny_bind (wpAny_holding (unpackItems_star (I.ok.hd hc) ht (by simp; omega) (by simp; omega) fun h' tk hk => ?_))
  have I1 : Inv X pins σ H { s with heap := h', toks := tk } := I.kept hk
  have hf : H h'.objs.size = none := I1.hok.fresh (Nat.le_refl _)
  have I2 : Inv X pins σ (upd H h'.objs.size (.lst (xs.drop i))) { s with heap := h'.push { cls := .type "list", data := .seq ((its.toArray.toList).drop i).toArray }, toks := tk } :=
    I1.laid (t' := tk) (fun b u e => Heap.get?_push_of_some _ e) (Nat.le_refl _) ⟨by rw [List.length_drop]; omega, its.drop i, 0, vals_drop rv i, Heap.get?_push_size _ rfl⟩
  exact h.run pins _ σ _ _ _ Q I2 (vals_takeApp rv (show RelV (.ref h'.objs.size) (.ref h'.objs.size) from rfl) i) (hw _ hf)
theorem pgs_star {X : Cx} {e : Expr} {es : List Expr} {t : TG} {u : TGs} {p : Pos} (h1 : PG X e t) (h2 : PGs X es u)
    (hs : (assignEach (.Starred e p :: es) X.env).map (·.2) = assign e X.env :: (assignEach es X.env).map (·.2) := by rfl) : PGs X (.Starred e p :: es) (gCons t u) := by
  refine ⟨fun pins s σ H vs us Q I r h => ?_⟩
  obtain ⟨v, vr, e1, h⟩ := h
  subst e1
  cases r with
  | cons r rr =>
    rw [hs]
    refine assignInOrder_cons (thn (h1.run pins s σ H _ _ _ I r h) fun _ s1 ⟨σ1, H1, I1, q1⟩ => ?_)
    exact h2.run pins s1 σ1 H1 _ _ Q I1 rr q1
def gS (i : Nat) (g : List W → SF) : TF
  | .tup ws, ls, G => if i ≤ ws.length then g (ws.take i ++ [.lst (ws.drop i)]) ls G else .stuck
  | _, _, _ => .stuck
@[simp] theorem gS_e1 (i : Nat) (g : List W → SF) (ws : List W) (ls : Ls) (G : Gs) : gS i g (.tup ws) ls G = if i ≤ ws.length then g (ws.take i ++ [.lst (ws.drop i)]) ls G else .stuck := rfl
theorem RWs.app {T : Tx} {m : Mm} {H : Hp} {a b : List W} {x y : List V} (r : RWs T m H a x) (q : RWs T m H b y) : RWs T m H (a ++ b) (x ++ y) := by
  match r with
  | .nil => exact q
  | .cons h t => exact .cons h (RWs.app t q)
section
variable {T : Tx} {X : Cx} {W0 : WX} {pos : Pos}
theorem fgs_star {is js : List Nat} {e : Expr} {es : List Expr} {g : TF} {r : List W → SF} {p : Pos} (h : FG T X is e g) (hr : FGs T X js es r) (hs : (assignEach (.Starred e p :: es) X.env).map (·.2) = assign e X.env :: (assignEach es X.env).map (·.2) := by rfl) : FGs T X (is ++ js) (.Starred e p :: es) (gs1 g r) := by
  obtain ⟨t, h, i⟩ := h
  obtain ⟨u, hr, ir⟩ := hr
  refine ⟨_, pgs_star h hr hs, fun m ls G σ H ws vs Q hG hL rw_ ho => ?_⟩
  cases rw_ with
  | nil => exact False.elim ho
  | cons r1 r2 =>
    refine ⟨_, _, rfl, i m ls G σ H _ _ _ hG hL r1 ?_⟩
    simp only [gs1] at ho
    cases e : g _ ls G with
    | nx ls1 G1 =>
      rw [e] at ho
      exact fun m1 σ1 H1 k1 g1 l1 c1 => ir m1 ls1 G1 σ1 H1 _ _ Q g1 l1 (r2.keep k1) (OutG.keep k1 (c1.mono fun j h => List.mem_append_left _ h) (fun j h => List.mem_append_right _ h) ho)
    | _ => rw [e] at ho; exact False.elim ho
theorem sto_s {n : Nat} {g : List W → SF} (h : Stos g) : Sto (gS n g) := fun w ls G => by
  cases w with
  | tup ws =>
    simp only [gS]
    split
    · exact h _ ls G
    · exact .inr rfl
  | _ => exact .inr rfl
theorem fg_star {is : List Nat} {es : List Expr} {k i : Nat} {g : List W → SF} (c : Ctx T X W0) (h : FGs T X is es g) (hn : (assignEach es X.env).length = i + 1 := by rfl) (hst : (assignEach es X.env).findIdx? (·.1) = some i := by rfl) : FG T X is (.Tuple es k pos) (gS i g) := by
  obtain ⟨t, h, ih⟩ := h
  refine ⟨_, pg_star c.calm h hn hst, fun m ls G σ H w v Q hG hL r ho => ?_⟩
  cases r with
  | @tup ws vs a r f =>
    simp only [gS] at ho
    split at ho
    · rename_i hl
      refine ⟨_, _, rfl, by rw [c.hK]; exact f.sq, by rw [← r.length]; exact hl, fun p hp => ?_⟩
      have k1 := Keep.new (o := .lst (vs.drop i)) hG hp
      refine ih m ls G σ _ _ _ Q (hG.new hp) (hL.keep k1) ((r.keep k1).take i |>.app (.cons (.lst ((r.keep k1).drop i) (hG.free hp) upd_same) .nil)) ?_
      exact OutG.keep k1 (Chg.refl _ _) (fun j h => h) ho
    · exact False.elim ho
  | _ => exact False.elim ho

/-! ### starred arguments and items -/
@[simp] def aStar (f r : EF) : EF := fun ls G => (f ls G).bind fun w G1 => match itemsW w G1 with
  | some xs => (r ls G1).bind fun v G2 => asT v fun ws => .ok (.tup (xs ++ ws)) G2
  | none => .stuck
variable {e : Expr} {es : List Expr} {f r fa : EF} {p : Pos}
theorem fa_star (c : Ctx T X W0) (h : FE T X W0 e f) (hr : FA T X W0 es r) (hs : starEach (.Starred e p :: es) X.env = (true, eval e X.env) :: starEach es X.env := by rfl) : FA T X W0 (.Starred e p :: es) (aStar f r) := by
  obtain ⟨t, h, i⟩ := h
  obtain ⟨u, hr, ir⟩ := hr
  refine ⟨_, StX.pa_star h hr hs, fun m ls G σ H Q hG hL ho => ?_⟩
  refine i m ls G σ H _ hG hL ?_
  simp only [aStar] at ho
  cases e : f ls G with
  | stuck => rw [e] at ho; exact ho
  | exc w G1 => rw [e] at ho; exact ho
  | ok w G1 =>
    rw [e] at ho
    simp only [Res.bind] at ho
    intro m1 v H1 k1 g1 r1
    cases e3 : itemsW w G1 with
    | none =>
      rw [e3] at ho
      exact ho.elim
    | some xs =>
      rw [e3] at ho
      obtain ⟨a, ys, rfl, hq, r3⟩ := items_ok g1 r1 e3
      refine ⟨a, ys, rfl, by rw [c.hK]; exact hq.symm, ?_⟩
      refine ir m1 ls G1 σ H1 _ g1 (hL.keep k1) ?_
      cases e2 : r ls G1 with
      | stuck => rw [e2] at ho; exact ho
      | exc w2 G2 => rw [e2] at ho; exact fun m2 c d H2 k2 g2 r2 => ho m2 c d H2 (k1.trans k2) g2 r2
      | ok w2 G2 =>
        rw [e2] at ho
        cases w2 with
        | tup ws =>
          obtain ⟨us, eu, q⟩ := ho
          cases eu
          exact ⟨ws, rfl, fun m2 vs H2 k2 g2 r2 => q m2 _ H2 (k1.trans k2) g2 ((r3.keep k2).app r2)⟩
        | _ => obtain ⟨us, eu, q⟩ := ho; try cases eu
end

/-! ### str of an int, max and min of a list -/
def strI (i : Int) : List Nat := (Str.ofString (toString i)).cps.toList
def cStr (i : Int) : Bool := decide (i.natAbs.log2 < 1920)
def strW : List W → Gs → Res
  | [.int i], G => if cStr i then .ok (.str (strI i)) G else .stuck
  | [.str s], G => .ok (.str s) G
  | _, _ => .stuck
@[simp] theorem strW_e1 (i : Int) (G : Gs) : strW [.int i] G = if cStr i then .ok (.str (strI i)) G else .stuck := rfl
@[simp] theorem strW_e2 (s : List Nat) (G : Gs) : strW [.str s] G = .ok (.str s) G := rfl
theorem strI_str (i : Int) : (⟨(strI i).toArray⟩ : Str) = Str.ofString (toString i) := by
  unfold strI
  cases Str.ofString (toString i) with
  | mk c => simp
def rStr : List V → Hp → VK → Prop := fun xs H Q => (∃ i, xs = [.int i] ∧ i.natAbs.log2 < 1920 ∧ Q (.str (toString i)) H) ∨ ∃ a, xs = [.str a] ∧ Q (.str a) H
theorem cr_str {X : Cx} : CallR X (.type "str") rStr := by
  intro pins s σ H xs us Q I r h
  rcases h with h | h
  · exact call_str_int pins s σ H xs us Q I r h
  · exact SkE.call_str_str pins s σ H xs us Q I r h
theorem ib_str {T : Tx} {W0 : WX} : ImpB T W0 rStr strW := by
  intro m G σ H Q ws vs hG r0 ho
  unfold strW at ho
  split at ho
  · obtain ⟨v, rfl, r⟩ := r0.inv1
    cases r
    split at ho
    · rename_i h
      refine .inl ⟨_, rfl, of_decide_eq_true h, ?_⟩
      have := ho.now hG (.str _)
      rw [strI_str] at this
      exact this
    · exact False.elim ho
  · obtain ⟨v, rfl, r⟩ := r0.inv1
    cases r
    exact .inr ⟨_, rfl, ho.now hG (.str _)⟩
  · exact False.elim ho
def maxL : List Int → Int
  | [] => 0
  | [a] => a
  | a :: r => if maxL r ≤ a then a else maxL r
def minL : List Int → Int
  | [] => 0
  | [a] => a
  | a :: r => if a ≤ minL r then a else minL r
theorem maxL_in : ∀ {ns : List Int}, ns ≠ [] → maxL ns ∈ ns
  | [a], _ => List.mem_cons_self
  | a :: b :: r, _ => by
    show (if maxL (b :: r) ≤ a then a else maxL (b :: r)) ∈ _
    split
    · exact List.mem_cons_self
    · exact List.mem_cons_of_mem _ (maxL_in (by simp))
theorem maxL_le : ∀ {ns : List Int} {y : Int}, y ∈ ns → y ≤ maxL ns
  | [a], y, h => by simp at h; exact Int.le_of_eq h
  | a :: b :: r, y, h => by
    show y ≤ (if maxL (b :: r) ≤ a then a else maxL (b :: r))
    rcases List.mem_cons.mp h with rfl | h
    · split <;> omega
    · have := maxL_le h
      split <;> omega
theorem minL_in : ∀ {ns : List Int}, ns ≠ [] → minL ns ∈ ns
  | [a], _ => List.mem_cons_self
  | a :: b :: r, _ => by
    show (if a ≤ minL (b :: r) then a else minL (b :: r)) ∈ _
    split
    · exact List.mem_cons_self
    · exact List.mem_cons_of_mem _ (minL_in (by simp))
theorem minL_le : ∀ {ns : List Int} {y : Int}, y ∈ ns → minL ns ≤ y
  | [a], y, h => by simp at h; exact Int.le_of_eq h.symm
  | a :: b :: r, y, h => by
    show (if a ≤ minL (b :: r) then a else minL (b :: r)) ≤ y
    rcases List.mem_cons.mp h with rfl | h
    · split <;> omega
    · have := minL_le h
      split <;> omega
def maxW : List W → Gs → Res
  | [w], G => (match (lstW w G).bind intsOf with
    | some (a :: r) => .ok (.int (maxL (a :: r))) G
    | _ => .stuck)
  | _, _ => .stuck
def minW : List W → Gs → Res
  | [w], G => (match (lstW w G).bind intsOf with
    | some (a :: r) => .ok (.int (minL (a :: r))) G
    | _ => .stuck)
  | _, _ => .stuck
@[simp] theorem maxW_e1 (w : W) (G : Gs) : maxW [w] G = (match (lstW w G).bind intsOf with
    | some (a :: r) => .ok (.int (maxL (a :: r))) G
    | _ => .stuck) := rfl
@[simp] theorem minW_e1 (w : W) (G : Gs) : minW [w] G = (match (lstW w G).bind intsOf with
    | some (a :: r) => .ok (.int (minL (a :: r))) G
    | _ => .stuck) := rfl
theorem ib_max {T : Tx} {W0 : WX} : ImpB T W0 (rMax T.K) maxW := by
  intro m G σ H Q ws vs hG r0 ho
  unfold maxW at ho
  split at ho
  · obtain ⟨v, rfl, r⟩ := r0.inv1
    split at ho
    · rename_i a bs e
      obtain ⟨xs, e1, e2⟩ := Option.bind_eq_some_iff.mp e
      obtain ⟨p, ys, rfl, f, r⟩ := lst_ok hG r e1
      have := ints_ok r e2
      subst this
      refine ⟨_, a :: bs, rfl, SqL.of f, Nat.succ_pos _, fun m h1 h2 => ?_⟩
      have : m = maxL (a :: bs) := Int.le_antisymm (maxL_le h1) (h2 _ (maxL_in (by simp)))
      rw [this]
      exact ho.now hG (.int _)
    · exact False.elim ho
  · exact False.elim ho
theorem ib_min {T : Tx} {W0 : WX} : ImpB T W0 (rMin T.K) minW := by
  intro m G σ H Q ws vs hG r0 ho
  unfold minW at ho
  split at ho
  · obtain ⟨v, rfl, r⟩ := r0.inv1
    split at ho
    · rename_i a bs e
      obtain ⟨xs, e1, e2⟩ := Option.bind_eq_some_iff.mp e
      obtain ⟨p, ys, rfl, f, r⟩ := lst_ok hG r e1
      have := ints_ok r e2
      subst this
      refine ⟨_, a :: bs, rfl, SqL.of f, Nat.succ_pos _, fun m h1 h2 => ?_⟩
      have : m = minL (a :: bs) := Int.le_antisymm (h2 _ (minL_in (by simp))) (minL_le h1)
      rw [this]
      exact ho.now hG (.int _)
    · exact False.elim ho
  · exact False.elim ho
end U

/-! comprehensions whose list changes later -/
namespace U
open PySem
open L2
def Mm.rev (m : Mm) (p : Addr) : Mm := ⟨m.r ++ [p], m.av.filter fun a => decide (a ≠ p)⟩
theorem fr_rev {m : Mm} {p a : Addr} (hp : p ∈ m.av) (h : m.fr a) : (m.rev p).fr a :=
  ⟨fun q => by
    rcases List.mem_append.mp q with q | q
    · exact h.1 q
    · exact h.2 (List.mem_singleton.mp q ▸ hp), fun q => h.2 (List.mem_filter.mp q).1⟩
theorem rev_old {m : Mm} {p a : Addr} {i : Nat} (h : m.r[i]? = some a) : (m.rev p).r[i]? = some a := by
  show (m.r ++ [p])[i]? = some a
  rw [List.getElem?_append_left (List.getElem?_eq_some_iff.mp h).1]
  exact h
mutual
theorem RW.rev {T : Tx} {m : Mm} {H : Hp} {p : Addr} (hp : p ∈ m.av) : ∀ {w : W} {v : V}, RW T m H w v → RW T (m.rev p) H w v
  | _, _, .non => .non
  | _, _, .bl b => .bl b
  | _, _, .int i => .int i
  | _, _, .str s => .str s
  | _, _, .tup r f => .tup (RWs.rev hp r) (f.elim (fun f => .inl ⟨fr_rev hp f.1, f.2⟩) .inr)
  | _, _, .lst r n f => .lst (RWs.rev hp r) (fr_rev hp n) f
  | _, _, .fz r f => .fz (RWs.rev hp r) (f.elim (fun f => .inl ⟨fr_rev hp f.1, f.2⟩) .inr)
  | _, _, .dic r n f => .dic (RWe.rev hp r) (fr_rev hp n) f
  | _, _, .dit r z n f => .dit (RWt.rev hp r) z (fr_rev hp n) f
  | _, _, .obj r n c h l => .obj (RWs.rev hp r) (fr_rev hp n) c h l
  | _, _, .ref h => .ref (rev_old h)
  | _, _, .ty t => .ty t
  | _, _, .cls h => .cls h
theorem RWs.rev {T : Tx} {m : Mm} {H : Hp} {p : Addr} (hp : p ∈ m.av) : ∀ {ws : List W} {vs : List V}, RWs T m H ws vs → RWs T (m.rev p) H ws vs
  | _, _, .nil => .nil
  | _, _, .cons r t => .cons (RW.rev hp r) (RWs.rev hp t)
theorem RWe.rev {T : Tx} {m : Mm} {H : Hp} {p : Addr} (hp : p ∈ m.av) : ∀ {ws : List W} {vs : List (Key × V)}, RWe T m H ws vs → RWe T (m.rev p) H ws vs
  | _, _, .nil => .nil
  | _, _, .consI r t => .consI (RW.rev hp r) (RWe.rev hp t)
  | _, _, .consS r t => .consS (RW.rev hp r) (RWe.rev hp t)
theorem RWt.rev {T : Tx} {m : Mm} {H : Hp} {p : Addr} (hp : p ∈ m.av) : ∀ {ws : List W} {vs : List (List Key × V)}, RWt T m H ws vs → RWt T (m.rev p) H ws vs
  | _, _, .nil => .nil
  | _, _, .cons r t => .cons (RW.rev hp r) (RWt.rev hp t)
end
theorem RO.rev {T : Tx} {m : Mm} {H : Hp} {p : Addr} (hp : p ∈ m.av) {o : O} {a : Addr} (r : RO T m H o a) : RO T (m.rev p) H o a := by
  cases o with
  | lst xs => obtain ⟨vs, e, r⟩ := r; exact ⟨vs, e, r.rev hp⟩
  | dic xs => rcases r with ⟨vs, e, r⟩ | ⟨vs, e, z, r⟩
              · exact .inl ⟨vs, e, r.rev hp⟩
              · exact .inr ⟨vs, e, z, r.rev hp⟩
  | ins c xs => obtain ⟨C, dx, vs, hc, e, l, r⟩ := r; exact ⟨C, dx, vs, hc, e, l, r.rev hp⟩
  | dead => exact r
theorem RG.rev {T : Tx} {m : Mm} {G : Gs} {H : Hp} {p : Addr} {ws : List W} {vs : List V} (R : RG T m G H) (hp : p ∈ m.av) (hr : p ∉ m.r) (e : H p = some (.lst vs)) (r : RWs T m H ws vs) : RG T (m.rev p) (G ++ [.lst ws]) H := by
  refine ⟨by simp [Mm.rev, R.len], List.nodup_append.mpr ⟨R.nd, by simp, fun a ha b hb => ?_⟩, fun i x a e1 e2 => ?_, fun a q => R.av a (List.mem_filter.mp q).1, fun a q z => ?_⟩
  · rw [List.mem_singleton.mp hb]
    intro e
    exact hr (e ▸ ha)
  · have e2 : (m.r ++ [p])[i]? = some a := e2
    by_cases hi : i < m.r.length
    · rw [List.getElem?_append_left hi] at e2
      rw [List.getElem?_append_left (by rw [← R.len]; exact hi)] at e1
      exact (R.ob i x a e1 e2).rev hp
    · rw [List.getElem?_append_right (by omega)] at e2
      rw [List.getElem?_append_right (by rw [← R.len]; omega)] at e1
      rw [R.len] at e2
      cases q : i - G.length with
      | zero =>
        rw [q] at e1 e2
        simp at e1 e2
        subst e1; subst e2
        exact ⟨vs, e, r.rev hp⟩
      | succ n =>
        rw [q] at e1
        simp at e1
  · have z' := List.mem_filter.mp z
    rcases List.mem_append.mp q with q | q
    · exact R.dj a q z'.1
    · rw [List.mem_singleton.mp q] at z'
      simp at z'
theorem Keep.rev {T : Tx} {m m' : Mm} {G : Gs} {H H' : Hp} (R : RG T m G H) {p : Addr} (h : H p = none) (k : Keep m H m' H') : Keep m H (m'.rev p) H' :=
  ⟨by obtain ⟨e, q⟩ := k.ext; exact ⟨e ++ [p], by show m'.r ++ [p] = _; rw [q, List.append_assoc]⟩, fun a q => List.mem_filter.mpr ⟨k.avL a q, decide_eq_true fun e => R.av a q (e ▸ h)⟩, fun a q => k.avU a (List.mem_filter.mp q).1, k.th, fun a o e n => ⟨(k.fz a o e n).1, fun q => by
    rcases List.mem_append.mp q with q | q
    · exact (k.fz a o e n).2 q
    · rw [List.mem_singleton.mp q, h] at e
      cases e⟩⟩
theorem rev_get {T : Tx} {m : Mm} {G : Gs} {H : Hp} {p : Addr} (R : RG T m G H) : (m.rev p).r[G.length]? = some p := by
  show (m.r ++ [p])[G.length]? = some p
  rw [← R.len, List.getElem?_append_right (Nat.le_refl _), Nat.sub_self]
  rfl
def thawK : W → Gs → Res
  | .lst ws, G => .ok (.ref G.length) (G ++ [.lst ws])
  | _, _ => .stuck
@[simp] theorem thawK_e1 (ws : List W) (G : Gs) : thawK (.lst ws) G = .ok (.ref G.length) (G ++ [.lst ws]) := rfl
@[simp] def eCompM (vs : List Nat) (fi : EF) (g : TF) (ft fe : EF) : EF := fun ls G => (fi ls G).bind fun w G1 => match w with
  | .lst ws => (compL g ft fe (wipeL ls vs) ws [] G1).bind thawK
  | _ => .stuck
section
variable {T : Tx} {X : Cx} {W0 : WX}
theorem imp_compM {is vs : List Nat} {wi : TI} {tg : TG} {tt : TT} {te : TE} {fi : EF} {g : TF} {ft fe : EF} (ii : ImpI T W0 wi fi) (ig : ImpG T is tg g) (it' : ImpT T WN tt ft) (ie : Imp T WN te fe) (hs : ∀ j ∈ is, j ∈ vs) : Imp T W0 (tLc wi tg tt te vs) (eCompM vs fi g ft fe) := by
  intro m ls G σ H Q hG hL ho
  refine ii m ls G σ H _ hG hL ?_
  simp only [eCompM] at ho
  cases e : fi ls G with
  | stuck => rw [e] at ho; exact ho
  | exc w G1 => rw [e] at ho; exact ho
  | ok w G1 =>
    rw [e] at ho
    simp only [Res.bind] at ho
    split at ho
    · rename_i ws
      refine ⟨ws, rfl, fun m1 J H1 k1 g1 it D hD => ?_⟩
      have o1 := Out.keep k1 ho
      have hDr : D ∉ m1.r := g1.freeR hD
      refine ⟨fun i k H => k = ws.length - i ∧ ∃ m2 acc accV G2, Keep m1 H1 m2 H ∧ RG T m2 G2 H ∧ D ∈ m2.av ∧ D ∉ m2.r ∧ H D = some (.lst accV) ∧ RWs T m2 H acc accV ∧ RL T m2 H (wipeL ls vs) (L2.wipe σ vs) ∧
        Out T W0 m1 H1 σ Q ((compL g ft fe (wipeL ls vs) (ws.drop i) acc G2).bind thawK), ⟨ws.length, rfl, m1.hide D, [], [], G1, Keep.hide g1 hD, g1.hide hD, List.mem_cons_self, hDr, upd_same, .nil, (((hL.keep k1).keep (Keep.hide g1 hD)).wipe vs), o1⟩, ?_⟩
      rintro i k H2 ⟨rfl, m2, acc, accV, G2, k2, g2, hDa, hDr2, eD, ra, l2, o2⟩
      obtain ⟨go, stop⟩ := it m2 G2 H2 k2 g2
      cases hw : ws[i]? with
      | none =>
        have hle : ws.length ≤ i := List.getElem?_eq_none_iff.mp hw
        rw [List.drop_eq_nil_of_le hle] at o2
        refine .inl ⟨stop i hle, ?_⟩
        exact o2 (m2.rev D) (.ref D) H2 (Keep.rev g1 hD k2) (g2.rev hDa hDr2 eD ra) (.ref (rev_get g2))
      | some w =>
        have hlt : i < ws.length := (List.getElem?_eq_some_iff.mp hw).1
        have hd : ws.drop i = w :: ws.drop (i + 1) := by
          rw [List.drop_eq_getElem_cons hlt, (List.getElem?_eq_some_iff.mp hw).2]
        rw [hd] at o2
        obtain ⟨hgo, hy⟩ := go i w hw
        refine .inr ⟨hgo, fun H => ∃ m2 acc accV G2, Keep m1 H1 m2 H ∧ RG T m2 G2 H ∧ D ∈ m2.av ∧ D ∉ m2.r ∧ H D = some (.lst accV) ∧ RWs T m2 H acc accV ∧ RL T m2 H (wipeL ls vs) (L2.wipe σ vs) ∧
          Out T W0 m1 H1 σ Q ((compL g ft fe (wipeL ls vs) (ws.drop (i + 1)) acc G2).bind thawK), fun H' n => ⟨ws.length - (i + 1), by omega, rfl, n⟩, fun x H' yl => ?_⟩
        obtain ⟨k3, g3, r3⟩ := hy x H' yl
        refine ig m2 (wipeL ls vs) G2 (L2.wipe σ vs) H' w x _ g3 (l2.keep k3) r3 ?_
        simp only [compL] at o2
        cases eg : g w (wipeL ls vs) G2 with
        | nx ls4 G4 =>
          rw [eg] at o2
          simp only at o2
          intro m4 σ4 H4 k4 g4 l4 c4
          refine ⟨c4.wipe hs, ?_⟩
          refine it' m4 ls4 G4 σ4 H4 _ g4 l4 ?_
          cases et : ft ls4 G4 with
          | ok b G5 =>
            rw [et] at o2
            intro m5 v5 H5 k5 g5 r5
            have kk : Keep m2 H2 m5 H5 := (k3.trans k4).trans k5
            have fin : ∀ {m6 : Mm} {H6 : Hp} {G6 : Gs} (_ : Keep m2 H2 m6 H6) (_ : RG T m6 G6 H6), D ∈ m6.av ∧ D ∉ m6.r ∧ H6 D = some (.lst accV) := fun {m6 H6 G6} k6 g6 => ⟨k6.avL D hDa, (k6.fzE eD hDr2).2, (k6.fzE eD hDr2).1⟩
            cases r5 with
            | bl b =>
              refine ⟨b, rfl, ?_⟩
              cases b with
              | false =>
                simp only [Bool.false_eq_true, if_false]
                obtain ⟨f1, f2, f3⟩ := fin kk g5
                exact ⟨m5, acc, accV, G5, k2.trans kk, g5, f1, f2, f3, ra.keep kk, l2.keep kk, o2⟩
              | true =>
                simp only [if_true]
                refine ie m5 ls4 G5 σ4 H5 _ g5 (l4.keep k5) ?_
                simp only at o2
                cases ee : fe ls4 G5 with
                | ok y G6 =>
                  rw [ee] at o2
                  simp only at o2
                  split at o2
                  · rename_i hz
                    intro m6 v6 H6 k6 g6 r6
                    have kk' := kk.trans k6
                    obtain ⟨f1, f2, f3⟩ := fin kk' g6
                    have ra6 := ra.keep kk'
                    refine ⟨accV, f3, by rw [← ra6.length, ← sz_eq]; exact hz, m6, acc ++ [y], accV ++ [v6], G6, Keep.pen hD (k2.trans kk'), g6.pen f1 f2, f1, f2, upd_same, ?_, (l2.keep kk').pen f1, o2⟩
                    exact (ra6.append (.cons r6 .nil)).pen f1
                  · exact False.elim o2
                | exc y G6 => rw [ee] at o2; exact False.elim o2
                | stuck => rw [ee] at o2; exact False.elim o2
            | _ => exact False.elim o2
          | exc b G5 => rw [et] at o2; exact False.elim o2
          | stuck => rw [et] at o2; exact False.elim o2
        | _ => rw [eg] at o2; exact False.elim o2
    · exact False.elim ho

section
variable {elt tg iter : Expr} {ifs : List Expr} {scope : Scope} {pos : Pos} {is : List Nat} {fi : EF} {g : TF} {ft fe : EF}
theorem fe_compM (own : List (Str × Nat)) (c : Ctx T X W0) (hi : FI T X W0 tg iter fi) (hg : ∀ p : BP, Ctx T (p.cx X scope) WN → FG T (p.cx X scope) is tg g) (ht : ∀ p : BP, Ctx T (p.cx X scope) WN → FTs T (p.cx X scope) WN ifs ft) (he : ∀ p : BP, Ctx T (p.cx X scope) WN → FE T (p.cx X scope) WN elt fe)
    (ok : blkC X.N X.env.scope scope own = true := by kernel_rfl) (hs : ∀ j ∈ is, j ∈ own.map (·.2) := by decide) (hf : ∀ x, foldedSetIterable iter X.env x = pure x := by intro _; rfl) :
    FE T X W0 (.ListComp elt [⟨tg, iter, ifs, 0⟩] scope pos) (eCompM (own.map (·.2)) fi g ft fe) := by
  obtain ⟨wi, hi, ii⟩ := hi
  obtain ⟨tg', hg, ig⟩ := one_g fun p => hg p (c.blk p scope)
  obtain ⟨tt, ht, it⟩ := one_t fun p => ht p (c.blk p scope)
  obtain ⟨te, he, ie⟩ := one_e fun p => he p (c.blk p scope)
  exact ⟨_, pe_lc c.calm c.nd hi (blkOk_by ok) (fun s H C cl fp => hg ⟨s, H, C, cl, fp⟩) (fun s H C cl fp => ht ⟨s, H, C, cl, fp⟩) (fun s H C cl fp => he ⟨s, H, C, cl, fp⟩) hf, imp_compM ii ig it ie hs⟩
theorem fs_setLcM (i : Nat) {y : Str} {py spos : Pos} (own : List (Str × Nat)) (c : Ctx T X W0) (hi : FI T X W0 tg iter fi) (hg : ∀ p : BP, Ctx T (p.cx X scope) WN → FG T (p.cx X scope) is tg g) (ht : ∀ p : BP, Ctx T (p.cx X scope) WN → FTs T (p.cx X scope) WN ifs ft) (he : ∀ p : BP, Ctx T (p.cx X scope) WN → FE T (p.cx X scope) WN elt fe)
    (hy : X.N[i]? = some y := by rfl) (hyl : X.env.scope.names.lookup y = some .local := by rfl) (hsw : swapsWith (.ListComp elt [⟨tg, iter, ifs, 0⟩] scope pos) (some (.Name y py)) spos.line X.env = pure true := by exact sw_true rfl rfl rfl (by decide +kernel))
    (ok : blkC X.N X.env.scope scope own = true := by kernel_rfl) (hs : ∀ j ∈ is, j ∈ own.map (·.2) := by decide) (hf : ∀ x, foldedSetIterable iter X.env x = pure x := by intro _; rfl) :
    FS T X W0 (.Assign [.Name y py] (.ListComp elt [⟨tg, iter, ifs, 0⟩] scope pos) spos) (sAsg (eCompM (own.map (·.2)) fi g ft fe) (gN i)) := by
  obtain ⟨wi, hi, ii⟩ := hi
  obtain ⟨tg', hg, ig⟩ := one_g fun p => hg p (c.blk p scope)
  obtain ⟨tt, ht, it⟩ := one_t fun p => ht p (c.blk p scope)
  obtain ⟨te, he, ie⟩ := one_e fun p => he p (c.blk p scope)
  refine ⟨_, ps_setLc c.calm c.nd hy hyl hsw hi (blkOk_by ok) (fun s H C cl fp => hg ⟨s, H, C, cl, fp⟩) (fun s H C cl fp => ht ⟨s, H, C, cl, fp⟩) (fun s H C cl fp => he ⟨s, H, C, cl, fp⟩) hf, fun m ls G σ H D hG hL ho => ?_⟩
  exact (imp_compM ii ig it ie hs).goS hG hL ho fun w G1 m1 v H1 k1 g1 r1 l1 o1 => o1 m1 _ H1 (.refl _ _) g1 (l1.set i r1)
end
end
end U

/-! enumerate of a tuple -/
namespace U
open PySem
open PySem.W
open L2
open PySem.Spec
open PyProof.Rows
open Sem (wp)
set_option maxHeartbeats 1000000 in
theorem meets_enumT {v : Value} {o : Obj} {H : Heap → Prop} (B : Begins v o H) :
    Meets (Builtin.«enumerate.__new__» ⟨[.type "enumerate", v], []⟩) (fun _ R s => H s.heap ∧
      R (.ok (.ret (.ref (s.heap.push o).objs.size))) { s with heap := (s.heap.push o).push { cls := .type "enumerate", data := .fields #[.none, .bool false, .ref s.heap.objs.size, rawInt 0, .none, .none] } }) :=
  .of_wp fun prog w A R s h => by
    obtain ⟨hp, g, d, tk, os⟩ := s; obtain ⟨h1, h⟩ := h
    have hsub := sub_enumerate
    have q1 : ∀ {A' : Around} {E : Value → Shared → Prop} {Q : Value → Shared → Prop}, Q (.ref hp.objs.size) ⟨hp.push o, g, d, tk, os⟩ → wpAny (model prog w) A' (pyIter v) Q E ⟨hp, g, d, tk, os⟩ :=
      fun q => B.iter prog w _ _ ⟨hp, g, d, tk, os⟩ _ h1 q
    wp_walk using q1
    refine wpAny_stack_any fun st => wpAny_pure ?_
    split
    · rename_i c _ _ _ _ _
      cases (c == Value.type "enumerate")
      · wp_walk using q1
        exact ⟨_, rfl, h⟩
      · wp_walk using q1
        exact ⟨_, rfl, h⟩
    · wp_walk using q1
      exact ⟨_, rfl, h⟩
section
variable {prog : Program} {w : World} {A : Around} {E : Value → Shared → Prop} {s : Shared}
theorem call_enumT {l : Addr} {items : Array Value} {Q : Value → Shared → Prop} (hL : s.heap.IsTuple l items)
    (h : ∀ h', IsEnum h' (s.heap.objs.size + 1) s.heap.objs.size 0 .none → h'.IsTupleIter s.heap.objs.size l 0 → h'.objs.size = s.heap.objs.size + 2 →
      (∀ b o, s.heap.get? b = some o → h'.get? b = some o) → Q (.ref (s.heap.objs.size + 1)) { s with heap := h' }) :
    wpAny (model prog w) A (call (.type "enumerate") [.ref l]) Q E s := by
  refine callType_new F.called_enumerate (by decide) (F.typeCall_enumerate_1 _) (F.newCall_enumerate_1 _) (fun obj => F.args_object_init_2 obj _) F.entry_enumerate_new
    (meets_enumT (begins_tuple l items)) ⟨hL, ?_⟩
  have hz : (s.heap.push { cls := .type "tuple_iterator", data := .fields #[.ref l, .int 0 0] }).objs.size = s.heap.objs.size + 1 := Heap.size_push ..
  show _ ∧ _
  rw [hz]
  have he : IsEnum ((s.heap.push { cls := .type "tuple_iterator", data := .fields #[.ref l, .int 0 0] }).push
      { cls := .type "enumerate", data := .fields #[.none, .bool false, .ref s.heap.objs.size, rawInt 0, .none, .none] }) (s.heap.objs.size + 1) s.heap.objs.size 0 .none := by
    have := Heap.get?_push_size (s.heap.push { cls := .type "tuple_iterator", data := .fields #[.ref l, .int 0 0] })
      (o := { cls := .type "enumerate", data := .fields #[.none, .bool false, .ref s.heap.objs.size, rawInt 0, .none, .none] }) rfl
    rw [hz] at this; exact this
  refine ⟨⟨_, he, rfl⟩, h _ he ⟨_, Heap.get?_push_of_some _ (Heap.get?_push_size _ rfl), rfl, rfl⟩ (by rw [Heap.size_push, hz]) fun b o x => Heap.get?_push_of_some _ (Heap.get?_push_of_some _ x)⟩
theorem next_enumT_end {e it l : Addr} {i : Nat} {items : Array Value} {old : Value} {Q : Option Value → Shared → Prop} (hh : A.handled = none)
    (he : IsEnum s.heap e it i old) (hit : s.heap.IsTupleIter it l i) (hl : s.heap.IsTuple l items) (hx : items[i]? = none)
    (hQ : ∀ h', Heap.ExtBut it s.heap h' → Q none { s with heap := h' }) : wpAny (model prog w) A (pyNext (.ref e)) Q E s := by
  have hT : s.TypeIs (.ref e) "enumerate" := ⟨_, he, rfl⟩
  unfold pyNext
  refine wpAny_bind (wpAny_attempt (wpAny_callSpecial?_slot (name := Str.ofString "__next__") hT F.slot_enumerate_next
    (wpAny_call_entry F.slot_enumerate_next hT F.entry_enumerate_next ?_ (F.args_enumerate_next_1 _))))
  show wpAny _ _ (field (.ref e) 2 >>= _) _ _ _
  refine wpAny_bind (wpAny_field he rfl (x := .ref it) rfl ?_)
  refine wpAny_bind (wpAny_nextOf_tuple_end (show A.in1.handled = none from hh) hit hl hx fun h' x he' hx' => ?_)
  obtain ⟨o, ho, hc⟩ := hx'
  refine wpAny_bind (wpAny_isInstance (T := "StopIteration") (b := true) ⟨o, ho, hc⟩ isSubtype_stop ?_)
  exact wpAny_pure (hQ _ he')
end
/-- the tuple at a, each item in a new pair -/
def IteT (K : PySem.W.Frag) (a : Addr) : It :=
  ⟨fun i H => ∃ (xs : List V) (x : V), SqT K H a xs ∧ xs[i]? = some x, fun i H v H' => ∃ T x, v = .ref T ∧ H T = none ∧ H' = upd H T (.tup [.int (i : Nat), x]) ∧ ∀ xs, SqT K H a xs → xs[i]? = some x, fun i H => ∃ xs : List V, SqT K H a xs ∧ xs.length ≤ i⟩
theorem turn_enumT {P : Program} {w : World} {K : PySem.W.Frag} {elts : List Expr} {kk : Nat} {tpos : Pos} (a e it : Addr) :
    Turn P w K (.Tuple elts kk tpos) (IteT K a) [e, it] e (fun i h => (∃ old, IsEnum h e it ((i : Nat) : Int) old) ∧ h.IsTupleIter it a i ∧ e ≠ it ∧ a ≠ it ∧ a ≠ e) where
  mem := by simp
  obj := fun i h st b hb => by
    obtain ⟨⟨old, he⟩, ⟨o, ho, hc, hd⟩, _⟩ := st
    have e' : b = e ∨ b = it := by simpa using hb
    rcases e' with z | z
    · rw [z]; exact ⟨_, he, fun v q => nomatch q⟩
    · rw [z]; exact ⟨o, ho, fun v q => by rw [hd] at q; cases q⟩
  keep := fun i h h' st k => let ⟨⟨old, he⟩, hi, hne⟩ := st; ⟨⟨old, k e (by simp) _ he⟩, hi.at fun o q => k it (by simp) o q, hne⟩
  item := by
    intro X hP hw hK hc i pins s σ H E I hf st hg
    subst hP hw hK
    obtain ⟨⟨old, he⟩, hit, hne, hai, hae⟩ := st
    obtain ⟨xs, x, hq, hx⟩ := hg
    obtain ⟨its, rv, p, hz⟩ := I.tuple hq
    obtain ⟨u, hu, ru⟩ := rv.get hx
    have hel : e < s.heap.objs.size := Heap.lt_size he
    have hil : it < s.heap.objs.size := by obtain ⟨_, q, _⟩ := hit; exact Heap.lt_size q
    have hlt : i < its.toArray.size := by
      have := (List.getElem?_eq_some_iff.mp hu).1
      simpa using this
    refine wpAny_pyNext_enum_itemD (Draws.tuple (show X.A.in1.handled = none from I.ok.hd hc) it a hai its.toArray) he ⟨hit, p⟩ hlt hne (by simp; exact ⟨hne, fun z => hae z.symm⟩) fun x' h' tk hP ho hst hT hsz hk => ?_
    have ex : x' = u := by
      have hP : its.toArray[i]? = some x' := hP
      simp at hP
      rw [hP] at hu
      exact Option.some.inj hu
    subst ex
    refine ⟨_, rfl, wpAny_letOwnedTupleGo_enum (s := { s with heap := h', toks := tk + 1 }) ho fun h'' he' sb => ?_⟩
    have hT2 : h''.get? s.heap.objs.size = some { cls := .type "tuple", data := .seq #[.int i tk, x'] } := (sb.2 _ (Nat.ne_of_gt hel)).trans hT
    have new : ObjOk X.prog X.w (upd H s.heap.objs.size (.tup [.int (i : Nat), x])) h'' s.heap.objs.size (.tup [.int (i : Nat), x]) :=
      ⟨by show 2 ≤ sizeLine; decide, [.int i tk, x'], .cons ⟨_, rfl⟩ (.cons ru .nil), ⟨_, hT2, rfl, _, rfl⟩⟩
    have I1 : Inv X pins σ (upd H s.heap.objs.size (.tup [.int (i : Nat), x])) { s with heap := h'', toks := tk + 1 } :=
      I.turnedNew (ch := [e, it]) (fun b ob hb q => (sb.2 b (fun z => hb (by simp [z]))).trans (hk b ob (fun z => hb (by simp [z])) (fun z => hb (by simp [z])) q)) hf (Nat.le_refl _) new
    refine ⟨.ref s.heap.objs.size, _, I1, rfl, ⟨_, x, rfl, I.hok.fresh (Nat.le_refl _), rfl, fun ys hy => by rw [I.tuple_inj hy hq]; exact hx⟩, ⟨⟨x', ?_⟩, hst.1.at fun o q => (sb.2 it (Ne.symm hne)).trans q, hne, hai, hae⟩, fun b hb => ?_⟩
    · have e1 : ((i + 1 : Nat) : Int) = (i : Int) + 1 := by omega
      rw [e1]; exact he'
    · have hb' : b < s.heap.objs.size := by
        have e' : b = e ∨ b = it := by simpa using hb
        rcases e' with z | z
        · rw [z]; exact hel
        · rw [z]; exact hil
      rw [upd_ne (Nat.ne_of_lt hb')]
      exact (hf b hb).1
  done := by
    intro X hP hw hK hc i pins s σ H E I hf st hg
    subst hP hw hK
    obtain ⟨⟨old, he⟩, hit, hne, hai, hae⟩ := st
    obtain ⟨xs, hq, hx⟩ := hg
    obtain ⟨its, rv, p, hz⟩ := I.tuple hq
    obtain ⟨f0, f1, f2, f3, f4, f5⟩ := hf it (by simp)
    have hl := rv.length
    exact next_enumT_end (I.ok.hd hc) he hit p (by simp; omega) fun h' eb => ⟨rfl, I.turned (t' := s.toks) (fun b o hb q => eb b o hb q) f0 f1 f3 f4 f5⟩
  self := fun A i s Q E st h => let ⟨⟨_, he⟩, _⟩ := st; wpAny_pyIter_enum he h
def iEnumU (K : PySem.W.Frag) (ta : TA) : TI := fun σ H R => ta σ H fun vs H1 => ∃ a xs, vs = [.ref a] ∧ ((SqL K H1 a xs ∧ R (Ite K a) H1) ∨ (SqT K H1 a xs ∧ R (IteT K a) H1))
theorem pi_enumU {X : Cx} {e : Expr} {ta : TA} {p pos tpos : Pos} {elts : List Expr} {kk : Nat} (hg : Gl X "enumerate") (hm : X.mg "enumerate" = none) (ha : PA X [e] ta) (hs : starEach [e] X.env = [(false, eval e X.env)] := by rfl) :
    PI X (.Tuple elts kk tpos) (.Call (.Name "enumerate" p) [e] [] pos) (iEnumU X.K ta) := by
  refine ⟨fun pins s σ H R I h => ?_⟩
  refine Call_ (ld_blt I hg hm boot_enumerate (PyProof.Rows.callWith_type1 (thn (ha.run pos pins s σ H _ I h) fun us s1 ⟨vs, H1, I1, r1, q1⟩ => ?_) hs rfl))
  obtain ⟨a, xs, ex, q⟩ := q1
  subst ex
  cases r1 with
  | cons r rr =>
    cases rr
    cases r
    rcases q with ⟨hq, q⟩ | ⟨hq, q⟩
    · obtain ⟨its, rv, p', hz⟩ := I1.list hq
      refine call_enumerate_list p'.isList fun h' he hit hsz hk => wpAny_pyIter_enum he ?_
      have I2 : Inv X pins σ H1 { s1 with heap := h' } := I1.kept (t' := s1.toks) hk
      refine ⟨s1.heap.objs.size + 1, [s1.heap.objs.size + 1, s1.heap.objs.size], _, _, H1, rfl, I2, turn_enum a (s1.heap.objs.size + 1) s1.heap.objs.size, ⟨⟨.none, he⟩, hit, Nat.succ_ne_self _⟩, fun b hb => ?_, q⟩
      have e' : b = s1.heap.objs.size + 1 ∨ b = s1.heap.objs.size := by simpa using hb
      have hle : s1.heap.objs.size ≤ b := by
        rcases e' with z | z
        · rw [z]; exact Nat.le_add_right _ _
        · rw [z]; exact Nat.le_refl _
      exact I1.fpOk hle (I1.hok.fresh hle)
    · obtain ⟨its, rv, p', hz⟩ := I1.tuple hq
      have hal : a < s1.heap.objs.size := by obtain ⟨o, ho, _⟩ := p'; exact Heap.lt_size ho
      refine call_enumT p' fun h' he hit hsz hk => wpAny_pyIter_enum he ?_
      have I2 : Inv X pins σ H1 { s1 with heap := h' } := I1.kept (t' := s1.toks) hk
      refine ⟨s1.heap.objs.size + 1, [s1.heap.objs.size + 1, s1.heap.objs.size], _, _, H1, rfl, I2, turn_enumT a (s1.heap.objs.size + 1) s1.heap.objs.size, ⟨⟨.none, he⟩, hit, Nat.succ_ne_self _, Nat.ne_of_lt hal, Nat.ne_of_lt (Nat.lt_succ_of_lt hal)⟩, fun b hb => ?_, q⟩
      have e' : b = s1.heap.objs.size + 1 ∨ b = s1.heap.objs.size := by simpa using hb
      have hle : s1.heap.objs.size ≤ b := by
        rcases e' with z | z
        · rw [z]; exact Nat.le_add_right _ _
        · rw [z]; exact Nat.le_refl _
      exact I1.fpOk hle (I1.hok.fresh hle)
theorem it_enumT {T : Tx} {m : Mm} {H : Hp} {a : Addr} {ws : List W} {vs : List V} (r : RWs T m H ws vs) (h : ∀ m' H', Keep m H m' H' → SqT T.K H' a vs) : ItOk T m H (IteT T.K a) (enumL 0 ws) := fun m' G' H' k g => by
  have q := h m' H' k
  refine ⟨fun i w e => ?_, fun i hi => ⟨vs, q, by rw [enumL_len] at hi; rw [← r.length]; exact hi⟩⟩
  rw [enumL_get] at e
  obtain ⟨x, ex, rfl⟩ := Option.map_eq_some_iff.mp e
  obtain ⟨v, e1, r1⟩ := r.get ex
  refine ⟨⟨vs, v, q, e1⟩, fun z H'' y => ?_⟩
  obtain ⟨D, x', rfl, hD, rfl, y⟩ := y
  have e2 := y vs q
  rw [e1] at e2
  cases e2
  have kk : Keep m' H' m' (upd H' D (.tup [.int (i : Nat), v])) := Keep.new g hD
  refine ⟨kk, g.new hD, .tup (.cons ?_ (.cons ((r1.keep k).keep kk) .nil)) (.inl ⟨g.free hD, upd_same⟩)⟩
  rw [Nat.zero_add]
  exact .int _
/-- enumerate of a list or a tuple -/
@[simp] def iEnumA (fa : EF) : EF := fun ls G => (fa ls G).bind fun w G1 => match w with
  | .tup [.lst xs] => .ok (.lst (enumL 0 xs)) G1
  | .tup [.fz xs] => .ok (.lst (enumL 0 xs)) G1
  | .tup [.tup xs] => .ok (.lst (enumL 0 xs)) G1
  | _ => .stuck
section
variable {T : Tx} {X : Cx} {W0 : WX} {tg e e2 : Expr} {f : EF} {p pos : Pos}
theorem fi_enumA {elts : List Expr} {kk : Nat} {tpos : Pos} (c : Ctx T X W0) (hm : X.mg "enumerate" = none) (ha : FA T X W0 [e] f) (hg : Gl X "enumerate" := by rfl) (hs : starEach [e] X.env = [(false, eval e X.env)] := by rfl) : FI T X W0 (.Tuple elts kk tpos) (.Call (.Name "enumerate" p) [e] [] pos) (iEnumA f) := by
  obtain ⟨t, ha, ia⟩ := ha
  refine ⟨_, pi_enumU hg hm ha hs, fun m ls G σ H R hG hL ho => ?_⟩
  refine ia m ls G σ H _ hG hL ?_
  simp only [iEnumA] at ho
  cases e : f ls G with
  | stuck => rw [e] at ho; exact ho
  | exc w G1 => rw [e] at ho; exact ho
  | ok w G1 =>
    rw [e] at ho
    simp only [Res.bind] at ho
    split at ho
    · rename_i hc
      split at hc
      · cases hc
        obtain ⟨ws, ew, q⟩ := ho
        cases ew
        refine ⟨_, rfl, fun m1 vs H1 k1 g1 r1 => ?_⟩
        obtain ⟨v, rfl, r⟩ := r1.inv1
        cases r with
        | lst r n f => exact ⟨_, _, rfl, .inl ⟨SqL.of f, by rw [c.hK]; exact q m1 _ H1 k1 g1 (it_enum r fun m' H' k => SqL.of (k.at_ f n).1)⟩⟩
      · cases hc
        obtain ⟨ws, ew, q⟩ := ho
        cases ew
        refine ⟨_, rfl, fun m1 vs H1 k1 g1 r1 => ?_⟩
        obtain ⟨v, rfl, r⟩ := r1.inv1
        cases r with
        | fz r f => exact ⟨_, _, rfl, .inl ⟨by rw [c.hK]; exact f.sq, by rw [c.hK]; exact q m1 _ H1 k1 g1 (it_enum r fun m' H' k => (k.fzL f).sq)⟩⟩
      · cases hc
        obtain ⟨ws, ew, q⟩ := ho
        cases ew
        refine ⟨_, rfl, fun m1 vs H1 k1 g1 r1 => ?_⟩
        obtain ⟨v, rfl, r⟩ := r1.inv1
        cases r with
        | tup r f => exact ⟨_, _, rfl, .inr ⟨by rw [c.hK]; exact f.sq, by rw [c.hK]; exact q m1 _ H1 k1 g1 (it_enumT r fun m' H' k => (k.fzT f).sq)⟩⟩
      · cases hc
    · rename_i hc
      split at hc <;> cases hc
    · exact False.elim ho
end
end U

/-! == of data -/
namespace U
open PySem
open L2
mutual
def eqD : W → W → Bool
  | .non, .non => true
  | .bl a, .bl b => a == b
  | .bl a, .int b => (if a then 1 else 0) == b
  | .int a, .bl b => a == (if b then 1 else 0)
  | .int a, .int b => a == b
  | .str a, .str b => a == b
  | .tup a, .tup b => eqDs a b
  | .lst a, .lst b => eqDs a b
  | _, _ => false
def eqDs : List W → List W → Bool
  | [], [] => true
  | x :: r, y :: q => eqD x y && eqDs r q
  | _, _ => false
end
mutual
def shW : Nat → W → Bool
  | _, .non => true
  | _, .bl _ => true
  | _, .int _ => true
  | _, .str s => PyData.strOk ⟨s.toArray⟩
  | n + 1, .tup xs => shWs n xs
  | n + 1, .lst xs => shWs n xs
  | _, _ => false
def shWs : Nat → List W → Bool
  | _, [] => true
  | n, x :: r => shW n x && shWs n r
end
mutual
theorem toD_sh : ∀ (n : Nat) (w : W), shW n w = true → ∃ d, toD w = some d ∧ d.canLay0 = true ∧ d.depth ≤ n
  | _, .non, _ => ⟨_, rfl, rfl, Nat.zero_le _⟩
  | _, .bl _, _ => ⟨_, rfl, rfl, Nat.zero_le _⟩
  | _, .int _, _ => ⟨_, rfl, rfl, Nat.zero_le _⟩
  | _, .str s, h => ⟨_, rfl, by simpa [shW, PyData.canLay0] using h, Nat.zero_le _⟩
  | n + 1, .tup xs, h => by
    obtain ⟨ds, e, c, l⟩ := toDs_sh n xs (by simpa [shW] using h)
    exact ⟨.tuple ds, by simp [toD, e], by simpa [PyData.canLay0] using c, by simp only [PyData.depth]; omega⟩
  | n + 1, .lst xs, h => by
    obtain ⟨ds, e, c, l⟩ := toDs_sh n xs (by simpa [shW] using h)
    exact ⟨.list ds, by simp [toD, e], by simpa [PyData.canLay0] using c, by simp only [PyData.depth]; omega⟩
  | 0, .tup _, h => by simp [shW] at h
  | 0, .lst _, h => by simp [shW] at h
  | 0, .fz _, h => by simp [shW] at h
  | _ + 1, .fz _, h => by simp [shW] at h
  | 0, .dic _, h => by simp [shW] at h
  | _ + 1, .dic _, h => by simp [shW] at h
  | 0, .obj _ _, h => by simp [shW] at h
  | _ + 1, .obj _ _, h => by simp [shW] at h
  | 0, .ref _, h => by simp [shW] at h
  | _ + 1, .ref _, h => by simp [shW] at h
  | 0, .ty _, h => by simp [shW] at h
  | _ + 1, .ty _, h => by simp [shW] at h
  | 0, .cls _, h => by simp [shW] at h
  | _ + 1, .cls _, h => by simp [shW] at h
theorem toDs_sh : ∀ (n : Nat) (ws : List W), shWs n ws = true → ∃ ds, toDs ws = some ds ∧ PyData.canLayAll0 ds = true ∧ PyData.depthAll ds ≤ n
  | n, [], _ => ⟨[], rfl, rfl, Nat.zero_le _⟩
  | n, x :: r, h => by
    have h : (shW n x && shWs n r) = true := by simpa [shWs] using h
    rw [Bool.and_eq_true] at h
    obtain ⟨d, e1, c1, l1⟩ := toD_sh n x h.1
    obtain ⟨ds, e2, c2, l2⟩ := toDs_sh n r h.2
    exact ⟨d :: ds, by simp [toDs, e1, e2], by simp [PyData.canLayAll0, c1, c2], by simp only [PyData.depthAll]; omega⟩
end
theorem str_beq (a b : List Nat) : ((⟨a.toArray⟩ : Str) == ⟨b.toArray⟩) = (a == b) := by
  by_cases h : a = b
  · subst h; simp
  · have h1 : (a == b) = false := by simpa using h
    rw [h1]
    have : ¬ (⟨a.toArray⟩ : Str) = ⟨b.toArray⟩ := fun e => h (by injection e with e; simpa using congrArg Array.toList e)
    simpa using this
mutual
theorem eqv_ok : ∀ (a b : W) (d e : PyData), toD a = some d → toD b = some e → PyData.eqv d e = eqD a b
  | .tup xs, b, d, e, ha, hb => by
    simp only [toD, Option.map_eq_some_iff] at ha
    obtain ⟨ds, h1, rfl⟩ := ha
    cases b <;> simp only [toD, Option.map_eq_some_iff] at hb <;> first
      | (obtain ⟨es, h2, rfl⟩ := hb; simp only [PyData.eqv, eqD]; first | done | exact eqvs_ok _ _ _ _ h1 h2)
      | (cases hb <;> simp only [PyData.eqv, eqD])
  | .lst xs, b, d, e, ha, hb => by
    simp only [toD, Option.map_eq_some_iff] at ha
    obtain ⟨ds, h1, rfl⟩ := ha
    cases b <;> simp only [toD, Option.map_eq_some_iff] at hb <;> first
      | (obtain ⟨es, h2, rfl⟩ := hb; simp only [PyData.eqv, eqD]; first | done | exact eqvs_ok _ _ _ _ h1 h2)
      | (cases hb <;> simp only [PyData.eqv, eqD])
  | .non, b, d, e, ha, hb => by
    cases ha
    cases b <;> simp only [toD, Option.map_eq_some_iff] at hb <;> first
      | (obtain ⟨es, h2, rfl⟩ := hb; simp only [PyData.eqv, eqD])
      | (cases hb <;> simp only [PyData.eqv, eqD])
  | .bl _, b, d, e, ha, hb => by
    cases ha
    cases b <;> simp only [toD, Option.map_eq_some_iff] at hb <;> first
      | (obtain ⟨es, h2, rfl⟩ := hb; simp only [PyData.eqv, eqD])
      | (cases hb <;> simp only [PyData.eqv, eqD])
  | .int _, b, d, e, ha, hb => by
    cases ha
    cases b <;> simp only [toD, Option.map_eq_some_iff] at hb <;> first
      | (obtain ⟨es, h2, rfl⟩ := hb; simp only [PyData.eqv, eqD])
      | (cases hb <;> simp only [PyData.eqv, eqD])
  | .str _, b, d, e, ha, hb => by
    cases ha
    cases b <;> simp only [toD, Option.map_eq_some_iff] at hb <;> first
      | (obtain ⟨es, h2, rfl⟩ := hb; simp only [PyData.eqv, eqD]; done)
      | (cases hb; simp only [PyData.eqv, eqD]; with_reducible exact str_beq _ _)
      | (cases hb; simp only [PyData.eqv, eqD]; done)
      | (cases hb; done)
      | (cases hb; simp only [PyData.eqv, eqD]; exact str_beq _ _)
  | .fz _, _, _, _, ha, _ => by cases ha
  | .dic _, _, _, _, ha, _ => by cases ha
  | .obj _ _, _, _, _, ha, _ => by cases ha
  | .ref _, _, _, _, ha, _ => by cases ha
  | .ty _, _, _, _, ha, _ => by cases ha
  | .cls _, _, _, _, ha, _ => by cases ha
theorem eqvs_ok : ∀ (a b : List W) (d e : List PyData), toDs a = some d → toDs b = some e → PyData.eqvAll d e = eqDs a b
  | [], [], d, e, ha, hb => by cases ha; cases hb; rfl
  | [], y :: q, d, e, ha, hb => by
    cases ha
    simp only [toDs] at hb
    split at hb
    · cases hb; rfl
    · cases hb
  | x :: r, [], d, e, ha, hb => by
    cases hb
    simp only [toDs] at ha
    split at ha
    · cases ha; rfl
    · cases ha
  | x :: r, y :: q, d, e, ha, hb => by
    simp only [toDs] at ha hb
    split at ha
    · rename_i h1 h2
      cases ha
      split at hb
      · rename_i h3 h4
        cases hb
        simp only [PyData.eqvAll, eqDs]
        rw [eqv_ok x y _ _ h1 h3, eqvs_ok r q _ _ h2 h4]
      · cases hb
    · cases ha
end
theorem eqS_D {a b : W} {r : Bool} (h : eqS a b = some r) : r = eqD a b := by
  cases a <;> cases b <;> simp only [eqS] at h <;> first
    | (cases h; simp [eqD]; done)
    | (cases h; exact (Bool.eq_iff_iff.mpr (by simp [eqD])))
    | (cases h; simp [eqD]; rfl)
    | (cases h; simp only [eqD]; exact (Bool.eq_iff_iff.mpr (by simp)))
    | cases h
theorem eqB_D {a b : W} (ha : shW 64 a = true) (hb : shW 64 b = true) : eqB a b = some (eqD a b) := by
  unfold eqB
  cases h : eqS a b with
  | some r => rw [eqS_D h]
  | none =>
    obtain ⟨d, e1, c1, l1⟩ := toD_sh 64 a ha
    obtain ⟨e, e2, c2, l2⟩ := toD_sh 64 b hb
    simp only [e1, e2]
    have s1 : SeqAt.shaped d = true := by unfold SeqAt.shaped; simp [c1, l1]
    have s2 : SeqAt.shaped e = true := by unfold SeqAt.shaped; simp [c2, l2]
    rw [s1, s2, eqv_ok a b d e e1 e2]
    rfl
theorem eqW_D {a b : W} {G : Gs} (ha : shW 64 a = true) (hb : shW 64 b = true) : eqW a b G = .ok (.bl (eqD a b)) G := by
  unfold eqW
  rw [eqB_D ha hb]
theorem neW_D {a b : W} {G : Gs} (ha : shW 64 a = true) (hb : shW 64 b = true) : neW a b G = .ok (.bl (!eqD a b)) G := by
  unfold neW
  rw [eqB_D ha hb]
theorem shWs_all {n : Nat} : ∀ ws : List W, shWs n ws = ws.all (shW n)
  | [] => by simp [shWs]
  | x :: r => by simp [shWs, shWs_all r]
theorem strOk_lt {s : List Nat} (h : ∀ c ∈ s, c < 1114112) : PyData.strOk ⟨s.toArray⟩ = true := by
  unfold PyData.strOk
  simpa using h
end U

/-! instances: fields, methods, making -/
namespace U
open PySem
open L2
/-- the class of an instance -/
def clsOf : W → Gs → Option Nat
  | .obj c _, _ => some c
  | .ref i, G => (match G[i]? with
    | some (.ins c _) => some c
    | _ => none)
  | _, _ => none
def fldsOf : W → Gs → Option (List W)
  | .obj _ xs, _ => some xs
  | .ref i, G => (match G[i]? with
    | some (.ins _ xs) => some xs
    | _ => none)
  | _, _ => none
@[simp] theorem clsOf_obj (c : Nat) (xs : List W) (G : Gs) : clsOf (.obj c xs) G = some c := rfl
@[simp] theorem clsOf_ref (i : Nat) (G : Gs) : clsOf (.ref i) G = (match G[i]? with
    | some (.ins c _) => some c
    | _ => none) := rfl
@[simp] theorem fldsOf_obj (c : Nat) (xs : List W) (G : Gs) : fldsOf (.obj c xs) G = some xs := rfl
@[simp] theorem fldsOf_ref (i : Nat) (G : Gs) : fldsOf (.ref i) G = (match G[i]? with
    | some (.ins _ xs) => some xs
    | _ => none) := rfl
theorem ins_ok {T : Tx} {m : Mm} {G : Gs} {H : Hp} {w : W} {v : V} {c : Nat} (hG : RG T m G H) (r : RW T m H w v) (e : clsOf w G = some c) :
    ∃ a C dx vs xs, v = .ref a ∧ T.ct c = some C ∧ H a = some (.ins C dx (List.zip (T.lay c) vs)) ∧ fldsOf w G = some xs ∧ RWs T m H xs vs ∧ vs.length ≤ (T.lay c).length := by
  cases r with
  | obj r n hc h l =>
    cases e
    exact ⟨_, _, _, _, _, rfl, hc, h, rfl, r, l⟩
  | @ref i a h =>
    simp only [clsOf_ref] at e
    split at e
    · rename_i c' xs hg
      cases e
      obtain ⟨C, dx, vs, hc, h1, l, r⟩ := hG.ob i _ a hg h
      exact ⟨a, C, dx, vs, xs, rfl, hc, h1, by simp only [fldsOf_ref, hg], r, l⟩
    · cases e
  | _ => cases e
theorem lookup_zip : ∀ {ks : List Str} {vs : List V} {i : Nat} {f : Str} {v : V}, ks[i]? = some f → (∀ j, j < i → ks[j]? ≠ some f) → vs[i]? = some v → (List.zip ks vs).lookup f = some v
  | k :: ks, x :: vs, 0, f, v, h1, _, h2 => by
    simp at h1 h2
    subst h1 h2
    simp
  | k :: ks, x :: vs, i + 1, f, v, h1, h3, h2 => by
    have hk : k ≠ f := fun e => h3 0 (Nat.succ_pos i) (by simp [e])
    have hk' : (f == k) = false := by simpa using fun e => hk e.symm
    simp only [List.zip_cons_cons, List.lookup_cons, hk']
    exact lookup_zip (by simpa using h1) (fun j hj => by simpa using h3 (j + 1) (Nat.succ_lt_succ hj)) (by simpa using h2)
  | [], _, i, f, v, h1, _, _ => by simp at h1
  | _ :: _, [], i, f, v, _, _, h2 => by simp at h2
theorem lookup_zip_none : ∀ {ks : List Str} {vs : List V} {f : Str}, f ∉ ks → (List.zip ks vs).lookup f = none
  | k :: ks, x :: vs, f, h => by
    have hk' : (f == k) = false := by simpa using fun e => h (by simp [e])
    simp only [List.zip_cons_cons, List.lookup_cons, hk']
    exact lookup_zip_none fun q => h (List.mem_cons_of_mem _ q)
  | [], _, f, _ => by simp
  | _ :: _, [], f, _ => by simp
/-- a field of a class: its place in the layout -/
structure FldOk (T : Tx) (f : Str) (c i : Nat) : Prop where
  at_ : (T.lay c)[i]? = some f
  fst : ∀ j, j < i → (T.lay c)[j]? ≠ some f
  ok : ∀ C, T.ct c = some C → Cls T.K C ∧ NoAttr T.K C f
def eFld (tbl : List (Nat × Nat)) (fo : EF) : EF := fun ls G => (fo ls G).bind fun o G1 => match clsOf o G1, fldsOf o G1 with
  | some c, some xs => (match tbl.lookup c with
    | some i => (match xs[i]? with
      | some w => .ok w G1
      | none => .stuck)
    | none => .stuck)
  | _, _ => .stuck
@[simp] theorem eFld_e (tbl : List (Nat × Nat)) (fo : EF) (ls : Ls) (G : Gs) : eFld tbl fo ls G = (fo ls G).bind fun o G1 => match clsOf o G1, fldsOf o G1 with
  | some c, some xs => (match tbl.lookup c with
    | some i => (match xs[i]? with
      | some w => .ok w G1
      | none => .stuck)
    | none => .stuck)
  | _, _ => .stuck := rfl
theorem lookup_mem {α : Type} : ∀ {l : List (Nat × α)} {c : Nat} {x : α}, l.lookup c = some x → (c, x) ∈ l
  | (k, y) :: r, c, x, h => by
    simp only [List.lookup_cons] at h
    split at h
    · rename_i e
      cases h
      rw [beq_iff_eq.mp e]
      exact List.mem_cons_self
    · exact List.mem_cons_of_mem _ (lookup_mem h)
section
variable {T : Tx} {X : Cx} {W0 : WX} {o e : Expr} {fo f : EF} {pos : Pos}
theorem fe_fld (c : Ctx T X W0) (h : FE T X W0 o fo) {a : Str} {tbl : List (Nat × Nat)} (ht : ∀ p ∈ tbl, FldOk T a p.1 p.2) (hb : attributeBase o a X.env (eval o X.env) = eval o X.env := by rfl) : FE T X W0 (.Attribute o a pos) (eFld tbl fo) := by
  obtain ⟨t, h, i⟩ := h
  refine ⟨_, pe_fld h hb, fun m ls G σ H Q hG hL ho => ?_⟩
  refine i.go hG hL ho fun w G1 m1 v H1 k1 g1 r1 l1 o1 => ?_
  split at o1
  · rename_i cc xs e1 e2
    obtain ⟨ad, C, dx, vs, xs', rfl, hc, h1, h2, r, l⟩ := ins_ok g1 r1 e1
    rw [e2] at h2
    cases h2
    split at o1
    · rename_i j ej
      have F := ht _ (lookup_mem ej)
      split at o1
      · rename_i w' ew
        obtain ⟨v', ev, rv⟩ := r.get ew
        obtain ⟨hC, hN⟩ := F.ok C hc
        exact ⟨ad, C, dx, _, v', rfl, h1, by rw [c.hK]; exact hC, by rw [c.hK]; exact hN, lookup_zip F.at_ F.fst ev, o1.now g1 rv⟩
      · exact False.elim o1
    · exact False.elim o1
  · exact False.elim o1
end
/-! ### methods -/
section
variable {X : Cx} {CX : CXT} {k : Nat} {f C : Addr} {fd : FuncData} {ps : List Str} {sp : Sp} {dvs : List V} {ds : List Value} {E : St → XK} {m : Str} {pos apos : Pos} {e o : Expr} {es : List Expr} {ta : TE} {t : TA}
def tMethSD (C : Addr) (m : Str) (sp : Sp) (dvs : List V) (E : St → XK) (ta : TE) (t : TA) : TE := fun σ H Q => ta σ H fun x H1 => ∃ a dx fs, x = .ref a ∧ H1 a = some (.ins C dx fs) ∧ fs.lookup m = none ∧
  t σ H1 fun vs H2 => sp (x :: (vs ++ dvs)) H2 Q (E σ)
theorem pe_methSD {pl : Sem Bool} (he : PE X o ta) (c : Cls X.K C) (hm : Meth X.K C m f) (F : FnOk X.prog X.w X.K X.mg X.base CX k f fd ps sp) (hr : Room k X.A) (hb : Binds X.K fd ps ds) (hd : Vals dvs ds) (hx : ∀ σ, PassesAt CX X σ (E σ)) (ha : PA X (e :: es) t)
    (hst : starEach (e :: es) X.env = (false, eval e X.env) :: starEach es X.env := by rfl) (hpl : (backTo pos (starEach es X.env)).any (·.1) = false := by rfl)
    (ht : eval (.Call (.Attribute o m apos) (e :: es) [] pos) X.env = (do
      let ov ← eval o X.env
      standAt apos.atName
      let (f, first) ← holding [ov] (getMethod ov m pl)
      callWith pos f first (backTo pos (starEach (e :: es) X.env)) (backToKw pos (keywordEach [] X.env))) := by rfl) :
    PE X (.Call (.Attribute o m apos) (e :: es) [] pos) (tMethSD C m sp dvs E ta t) := by
  refine ⟨fun pins s σ H Q I h => ?_⟩
  refine PySem.W.methodCall_KW (pl := pl) (thn (he.run pins s σ H _ I h) fun u s1 ⟨x, H1, I1, rx, a, dx, fs, ex, ea, l, q⟩ => ?_) ht
  subst ex
  obtain rfl : u = Value.ref a := rx
  refine getmeth_ok I1 ea c hm l ?_
  refine PySem.W.callWith_K (first := [.ref a]) (h₀ := X.base) I.ok.mod.kin hm.kp (thn (ha.run pos pins s1 σ H1 _ I1 q) fun us s2 ⟨vs, H2, I2, r, q2⟩ => ⟨I2.kIn, ?_⟩) hst hpl
  exact run_fnSD (us := .ref a :: us) (vs := .ref a :: vs) F hr hb hd (hx σ) I2 (.cons rfl r) q2
theorem pe_methSD0 {pl : Sem Bool} (he : PE X o ta) (c : Cls X.K C) (hm : Meth X.K C m f) (F : FnOk X.prog X.w X.K X.mg X.base CX k f fd ps sp) (hr : Room k X.A) (hb : Binds X.K fd ps ds) (hd : Vals dvs ds) (hx : ∀ σ, PassesAt CX X σ (E σ))
    (ht : eval (.Call (.Attribute o m apos) [] [] pos) X.env = (do
      let ov ← eval o X.env
      standAt apos.atName
      let (f, first) ← holding [ov] (getMethod ov m pl)
      callWith pos f first (backTo pos (starEach [] X.env)) (backToKw pos (keywordEach [] X.env))) := by rfl) :
    PE X (.Call (.Attribute o m apos) [] [] pos) (tMethSD C m sp dvs E ta tNil) := by
  refine ⟨fun pins s σ H Q I h => ?_⟩
  refine PySem.W.methodCall_KW (pl := pl) (thn (he.run pins s σ H _ I h) fun u s1 ⟨x, H1, I1, rx, a, dx, fs, ex, ea, l, q⟩ => ?_) ht
  subst ex
  obtain rfl : u = Value.ref a := rx
  refine getmeth_ok I1 ea c hm l ?_
  exact PySem.W.callWith_K0 (first := [.ref a]) I1.kIn hm.kp (run_fnSD (us := [.ref a]) (vs := [.ref a]) F hr hb hd (hx σ) I1 (.cons rfl .nil) q)
end
/-- a method of a class, as a def of the layer -/
structure MethOk (T : Tx) (P : Program) (w : World) (mg : Str → Option Value) (base : Heap) (k : Nat) (m : Str) (c n : Nat) (F : Fn) (dws : List W) : Prop where
  ok : ∃ (C f : Addr) (fd : FuncData) (ps : List Str) (dvs : List V) (ds : List Value), T.ct c = some C ∧ Cls T.K C ∧ Meth T.K C m f ∧ FnOk P w T.K mg base (L2.CX P w) k f fd ps (spF T n F) ∧ Binds T.K fd ps ds ∧ Dfl T dws dvs ds
  nof : m ∉ T.lay c
/-- o.m(args), o's class as the table says -/
def eMeth (tbl : List (Nat × (Fn × List W))) (fo fa : EF) : EF := fun ls G => (fo ls G).bind fun o G1 => match clsOf o G1 with
  | some c => (match tbl.lookup c with
    | some p => (fa ls G1).bind fun w G2 => asT w fun ws => p.1 (o :: (ws ++ p.2)) G2
    | none => .stuck)
  | none => .stuck
@[simp] theorem eMeth_e (tbl : List (Nat × (Fn × List W))) (fo fa : EF) (ls : Ls) (G : Gs) : eMeth tbl fo fa ls G = (fo ls G).bind fun o G1 => match clsOf o G1 with
  | some c => (match tbl.lookup c with
    | some p => (fa ls G1).bind fun w G2 => asT w fun ws => p.1 (o :: (ws ++ p.2)) G2
    | none => .stuck)
  | none => .stuck := rfl
theorem pe_ex {X : Cx} {e : Expr} {ι : Type} {t : ι → TE} (h : ∀ i, PE X e (t i)) : PE X e (fun σ H Q => ∃ i, t i σ H Q) := ⟨fun pins s σ H Q I ⟨i, q⟩ => (h i).run pins s σ H Q I q⟩
section
variable {T : Tx} {X : Cx} {W0 : WX} {o e : Expr} {es : List Expr} {fo fa : EF} {pos apos : Pos} {m : Str} {k n c : Nat} {F : Fn} {dws : List W}
theorem meth_imp {C : Addr} {dvs : List V} {ta : TE} {t : TA} (hC : T.ct c = some C) (hd : ∀ m H, RWs T m H dws dvs) (hnf : m ∉ T.lay c) (ia : Imp T W0 ta fo) (it : ImpA T W0 t fa) (hl : ∀ ls G ws G1, fa ls G = .ok (.tup ws) G1 → ws.length + 1 + dws.length = n) :
    Imp T W0 (tMethSD C m (spF T n F) dvs (WE W0) ta t) (eMeth [(c, (F, dws))] fo fa) := by
  intro mm ls G σ H Q hG hL ho
  refine ia.go hG hL ho fun w G1 m1 v H1 k1 g1 r1 l1 o1 => ?_
  split at o1
  · rename_i c' e1
    have hlk : [(c, (F, dws))].lookup c' = if c' == c then some (F, dws) else none := by simp only [List.lookup_cons, List.lookup_nil]; split <;> rename_i h <;> simp [h]
    rw [hlk] at o1
    by_cases hcc : (c' == c) = true
    · rw [if_pos hcc] at o1
      obtain rfl := beq_iff_eq.mp hcc
      obtain ⟨a, C', dx, vs, xs, rfl, hc, h1, h2, r, l⟩ := ins_ok g1 r1 e1
      rw [hC] at hc
      cases hc
      refine ⟨a, dx, _, rfl, h1, lookup_zip_none hnf, ?_⟩
      refine it m1 ls G1 σ H1 _ g1 l1 ?_
      simp only at o1
      cases e2 : fa ls G1 with
      | stuck => rw [e2] at o1; exact o1
      | exc w G2 => rw [e2] at o1; exact o1
      | ok w2 G2 =>
        rw [e2] at o1
        cases w2 with
        | tup ws =>
          refine ⟨ws, rfl, fun m2 us H2 k2 g2 r2 => ?_⟩
          refine ⟨m2, G2, w :: (ws ++ dws), g2, .cons (r1.keep k2) (r2.append (hd m2 H2)), ?_, Out.wx (Out.keep k2 o1) fun _ _ _ h => h⟩
          rw [List.length_cons, List.length_append]
          have := hl ls G1 ws G2 e2
          omega
        | _ => exact False.elim o1
    · rw [if_neg hcc] at o1
      exact False.elim o1
  · exact False.elim o1
theorem fe_meth1 {pl : Sem Bool} (cx : Ctx T X W0) (h : FE T X W0 o fo) (M : MethOk T X.prog X.w X.mg X.base k m c n F dws) (hr : Room k X.A) (ha : FA T X W0 (e :: es) fa) (hl : ∀ ls G ws G1, fa ls G = .ok (.tup ws) G1 → ws.length + 1 + dws.length = n)
    (hst : starEach (e :: es) X.env = (false, eval e X.env) :: starEach es X.env := by rfl) (hpl : (backTo pos (starEach es X.env)).any (·.1) = false := by rfl)
    (ht : eval (.Call (.Attribute o m apos) (e :: es) [] pos) X.env = (do
      let ov ← eval o X.env
      standAt apos.atName
      let (f, first) ← holding [ov] (getMethod ov m pl)
      callWith pos f first (backTo pos (starEach (e :: es) X.env)) (backToKw pos (keywordEach [] X.env))) := by rfl) :
    FE T X W0 (.Call (.Attribute o m apos) (e :: es) [] pos) (eMeth [(c, (F, dws))] fo fa) := by
  obtain ⟨ta, h, ia⟩ := h
  obtain ⟨t, ha, it⟩ := ha
  obtain ⟨C, f, fd, ps, dvs, ds, hC, hCls, hM, hF, hb, hd⟩ := M.ok
  have hK := cx.hK
  exact ⟨_, pe_methSD (pl := pl) (E := WE W0) h (by rw [hK]; exact hCls) (by rw [hK]; exact hM) (by rw [hK]; exact hF) hr (by rw [hK]; exact hb) hd.1 (passAt cx.tk) ha hst hpl ht, meth_imp hC hd.2 M.nof ia it hl⟩
theorem fe_meth10 {pl : Sem Bool} (cx : Ctx T X W0) (h : FE T X W0 o fo) (M : MethOk T X.prog X.w X.mg X.base k m c n F dws) (hr : Room k X.A) (hn : 1 + dws.length = n)
    (ht : eval (.Call (.Attribute o m apos) [] [] pos) X.env = (do
      let ov ← eval o X.env
      standAt apos.atName
      let (f, first) ← holding [ov] (getMethod ov m pl)
      callWith pos f first (backTo pos (starEach [] X.env)) (backToKw pos (keywordEach [] X.env))) := by rfl) :
    FE T X W0 (.Call (.Attribute o m apos) [] [] pos) (eMeth [(c, (F, dws))] fo aNil) := by
  obtain ⟨ta, h, ia⟩ := h
  obtain ⟨t, ha, it⟩ := (fa_nil : FA T X W0 [] aNil)
  obtain ⟨C, f, fd, ps, dvs, ds, hC, hCls, hM, hF, hb, hd⟩ := M.ok
  have hK := cx.hK
  exact ⟨_, pe_methSD0 (pl := pl) (E := WE W0) h (by rw [hK]; exact hCls) (by rw [hK]; exact hM) (by rw [hK]; exact hF) hr (by rw [hK]; exact hb) hd.1 (passAt cx.tk) ht, meth_imp hC hd.2 M.nof ia (fun m ls G σ H Q hG hL ho => by
    obtain ⟨ws, ew, q⟩ := ho
    cases ew
    exact q m [] H (.refl _ _) hG .nil) (fun ls G ws G1 q => by rw [al0 ls G ws G1 q]; omega)⟩
/-- one of some classes -/
theorem fe_methT {tbl : List (Nat × (Fn × List W))} {E : Expr} (h : ∀ p ∈ tbl, FE T X W0 E (eMeth [p] fo fa)) (hne : tbl ≠ []) : FE T X W0 E (eMeth tbl fo fa) := by
  refine ⟨_, pe_ex (ι := {p // p ∈ tbl}) fun p => (Classical.choose_spec (h p.1 p.2)).1, fun mm ls G σ H Q hG hL ho => ?_⟩
  have go : ∀ p (hp : p ∈ tbl), eMeth tbl fo fa ls G = eMeth [p] fo fa ls G → ∃ i : {p // p ∈ tbl}, Classical.choose (h i.1 i.2) σ H Q := fun p hp he => ⟨⟨p, hp⟩, (Classical.choose_spec (h p hp)).2 mm ls G σ H Q hG hL (by rw [← he]; exact ho)⟩
  cases e1 : fo ls G with
  | stuck => rw [eMeth_e, e1] at ho; exact False.elim ho
  | exc w G1 =>
    obtain ⟨p, hp⟩ := List.exists_mem_of_ne_nil tbl hne
    exact go p hp (by rw [eMeth_e, eMeth_e, e1]; rfl)
  | ok w G1 =>
    rw [eMeth_e, e1] at ho
    simp only [Res.bind] at ho
    split at ho
    · rename_i c e2
      split at ho
      · rename_i p e3
        refine go (c, p) (lookup_mem e3) ?_
        rw [eMeth_e, eMeth_e, e1]
        simp only [Res.bind, e2, e3]
        have : [(c, p)].lookup c = some p := by simp
        rw [this]
      · exact False.elim ho
    · exact False.elim ho
end
/-! ### a field stored -/
theorem putF_set : ∀ {ks : List Str} {vs : List V} {i : Nat} {f : Str} {y : V}, ks[i]? = some f → (∀ j, j < i → ks[j]? ≠ some f) → i < vs.length → putF f y (List.zip ks vs) = List.zip ks (vs.set i y)
  | k :: ks, x :: vs, 0, f, y, h1, _, _ => by
    simp at h1
    subst h1
    simp [putF]
  | k :: ks, x :: vs, i + 1, f, y, h1, h3, h2 => by
    have hk : k ≠ f := fun e => h3 0 (Nat.succ_pos i) (by simp [e])
    simp only [List.zip_cons_cons, List.set_cons_succ, putF, if_neg hk]
    rw [putF_set (by simpa using h1) (fun j hj => by simpa using h3 (j + 1) (Nat.succ_lt_succ hj)) (by simpa using h2)]
  | [], _, i, f, y, h1, _, _ => by simp at h1
  | _ :: _, [], i, f, y, _, _, h2 => by simp at h2
theorem putF_app : ∀ {ks : List Str} {vs : List V} {f : Str} {y : V}, ks[vs.length]? = some f → (∀ j, j < vs.length → ks[j]? ≠ some f) → putF f y (List.zip ks vs) = List.zip ks (vs ++ [y])
  | k :: ks, [], f, y, h1, _ => by
    simp at h1
    subst h1
    simp [putF]
  | k :: ks, x :: vs, f, y, h1, h3 => by
    have hk : k ≠ f := fun e => h3 0 (Nat.succ_pos _) (by simp [e])
    simp only [List.zip_cons_cons, List.cons_append, putF, if_neg hk]
    rw [putF_app (by simpa using h1) (fun j hj => by simpa using h3 (j + 1) (Nat.succ_lt_succ hj))]
  | [], vs, f, y, h1, _ => by simp at h1
/-- o.f = v, o one that changes -/
def sFldW (tbl : List (Nat × Nat)) (fo fv : EF) : SF := fun ls G => (fv ls G).sbind ls fun v G1 => (fo ls G1).sbind ls fun o G2 => match o with
  | .ref i => (match G2[i]? with
    | some (.ins c xs) => (match tbl.lookup c with
      | some j => if j < xs.length then .nx ls (G2.set i (.ins c (xs.set j v))) else if j = xs.length then .nx ls (G2.set i (.ins c (xs ++ [v]))) else .stuck
      | none => .stuck)
    | _ => .stuck)
  | _ => .stuck
@[simp] theorem sFldW_e (tbl : List (Nat × Nat)) (fo fv : EF) (ls : Ls) (G : Gs) : sFldW tbl fo fv ls G = (fv ls G).sbind ls fun v G1 => (fo ls G1).sbind ls fun o G2 => match o with
  | .ref i => (match G2[i]? with
    | some (.ins c xs) => (match tbl.lookup c with
      | some j => if j < xs.length then .nx ls (G2.set i (.ins c (xs.set j v))) else if j = xs.length then .nx ls (G2.set i (.ins c (xs ++ [v]))) else .stuck
      | none => .stuck)
    | _ => .stuck)
  | _ => .stuck := rfl
theorem RWs.len1 {T : Tx} {m : Mm} {H : Hp} {ws : List W} {vs : List V} (r : RWs T m H ws vs) : ws.length = vs.length := r.length
section
variable {T : Tx} {X : Cx} {W0 : WX} {o value : Expr} {fo fv : EF} {pos pos' : Pos} {a : Str}
theorem fs_fld (cx : Ctx T X W0) (h : FE T X W0 o fo) (hv : FE T X W0 value fv) {tbl : List (Nat × Nat)} (ht : ∀ p ∈ tbl, FldOk T a p.1 p.2 ∧ (T.lay p.1).length < 1000) (hs : swapsWith value (some (.Attribute o a pos')) pos.line X.env = pure false := by rfl) :
    FS T X W0 (.Assign [.Attribute o a pos'] value pos) (sFldW tbl fo fv) := by
  obtain ⟨t, h, i⟩ := h
  obtain ⟨tv, hv, iv⟩ := hv
  refine ⟨_, ps_fld h hv hs, fun m ls G σ H D hG hL ho => ?_⟩
  rw [sFldW_e] at ho
  refine iv.goS hG hL ho fun w G1 m1 v H1 k1 g1 r1 l1 o1 => ?_
  refine i.goS g1 l1 o1 fun ob G2 m2 x H2 k2 g2 r2 l2 o2 => ?_
  split at o2
  · rename_i ix
    cases r2 with
    | @ref _ ad hp =>
    split at o2
    · rename_i c xs hg
      obtain ⟨C, dx, vs, hc, h1, l, r⟩ := g2.ob ix _ ad hg hp
      have rw_ := r1.keep k2
      have kw : ∀ {u : HO}, Keep m2 H2 m2 (upd H2 ad u) := fun {u} => Keep.write (List.mem_of_getElem? hp)
      split at o2
      · rename_i j ej
        obtain ⟨F, hlay⟩ := ht _ (lookup_mem ej)
        have hlay : (T.lay c).length < 1000 := hlay
        obtain ⟨hC, hN⟩ := F.ok C hc
        have hlen := r.length
        refine ⟨ad, C, dx, _, rfl, h1, by rw [cx.hK]; exact hC, by rw [cx.hK]; exact hN, by rw [List.length_zip]; omega, ?_⟩
        split at o2
        · rename_i hj
          have hj' : j < vs.length := by omega
          rw [putF_set F.at_ F.fst hj']
          exact o2 m2 σ _ kw (g2.write hp ⟨C, dx, vs.set j v, hc, upd_same, by rw [List.length_set]; exact l, (r.set rw_ j).keep kw⟩) (l2.keep kw)
        · split at o2
          · rename_i hj
            have hj' : j = vs.length := by omega
            subst hj'
            have hlt : vs.length < (T.lay c).length := (List.getElem?_eq_some_iff.mp F.at_).1
            rw [putF_app F.at_ F.fst]
            exact o2 m2 σ _ kw (g2.write hp ⟨C, dx, vs ++ [v], hc, upd_same, by rw [List.length_append, List.length_singleton]; omega, (r.append (.cons rw_ .nil)).keep kw⟩) (l2.keep kw)
          · exact False.elim o2
      · exact False.elim o2
    · exact False.elim o2
  · exact False.elim o2
end
/-! ### making -/
section
variable {X : Cx} {CX : CXT} {k : Nat} {f C : Addr} {fd : FuncData} {ps : List Str} {sp : Sp} {dvs : List V} {ds : List Value} {E : St → XK} {x : Str} {p pos : Pos} {e : Expr} {es : List Expr} {t : TA}
def tMakeSD (C : Addr) (sp : Sp) (dvs : List V) (E : St → XK) (t : TA) : TE := fun σ H Q => t σ H fun vs H1 => ∀ x dx, H1 x = none → H1 dx = none → dx ≠ x →
  sp (.ref x :: (vs ++ dvs)) (upd (upd H1 dx (.own x)) x (.ins C dx [])) (fun v H2 => v = .non ∧ Q (.ref x) H2) (E σ)
theorem run_makeSD {pins : List (Addr × Obj)} {σ : St} {H : Hp} {s : Shared} {Q : VK} {us : List Value} {vs : List V} (M : Mk X.K C f) (F : FnOk X.prog X.w X.K X.mg X.base CX k f fd ps sp) (hr : Room (k + 1) X.A) (hb : Binds X.K fd ps ds) (hd : Vals dvs ds)
    (hx : PassesAt CX X σ (E σ)) (I : Inv X pins σ H s) (r : Vals vs us)
    (h : ∀ x dx, H x = none → H dx = none → dx ≠ x → sp (.ref x :: (vs ++ dvs)) (upd (upd H dx (.own x)) x (.ins C dx [])) (fun v H2 => v = .non ∧ Q (.ref x) H2) (E σ)) :
    wpAny (model X.prog X.w) X.A (call (.ref C) us) (EP X pins σ Q) X.xe s := by
  have hq := h (s.heap.objs.size + 1) s.heap.objs.size (I.hok.fresh (Nat.le_succ _)) (I.hok.fresh (Nat.le_refl _)) (Nat.ne_of_lt (Nat.lt_succ_self _))
  have I2 := Inv.made (C := C) I
  have r2 : Vals (V.ref (s.heap.objs.size + 1) :: (vs ++ dvs)) (Value.ref (s.heap.objs.size + 1) :: (us ++ ds)) := .cons rfl (r.append hd)
  have hl : (Value.ref (s.heap.objs.size + 1) :: us ++ ds).length = ps.length := by
    have e := r2.length
    rw [F.len _ _ _ _ hq] at e
    exact e.symm
  refine wpAny_call (make_map (f := f) I.kIn M.makes M.init (beq_iff_eq.mp M.fn) (codeAny_mono (F.run _ X.stack _ _ ⟨Value.ref (s.heap.objs.size + 1) :: us, []⟩ (Value.ref (s.heap.objs.size + 1) :: (us ++ ds)) _ _ (E σ) (hr.make C us [])
    (I2.env0.make C us []) (hb _ (Value.ref (s.heap.objs.size + 1) :: us) I2.kIn hl) r2 hq) fun r s' hq' => ?_))
  cases r with
  | error e => exact hx pins _ _ e s' I2 hq'
  | ok fl =>
    cases fl with
    | ret u =>
      obtain ⟨v, H', I3, rv, ev, q3⟩ := I2.after hq'
      subst ev
      exact ⟨rv, ⟨V.ref (s.heap.objs.size + 1), H', I3, rfl, q3⟩⟩
    | next => exact False.elim hq'
    | brk => exact False.elim hq'
    | cont => exact False.elim hq'
theorem pe_makeSD (M : Mk X.K C f) (F : FnOk X.prog X.w X.K X.mg X.base CX k f fd ps sp) (hr : Room (k + 1) X.A) (hg : Gl X x) (hm : X.mg x = some (.ref C)) (hb : Binds X.K fd ps ds) (hd : Vals dvs ds) (hx : ∀ σ, PassesAt CX X σ (E σ))
    (ha : PA X (e :: es) t) (hdb : (x == ("__debug__" : Str)) = false := by decide) (he : starEach (e :: es) X.env = (false, eval e X.env) :: starEach es X.env := by rfl) (hpl : (backTo pos (starEach es X.env)).any (·.1) = false := by rfl) :
    PE X (.Call (.Name x p) (e :: es) [] pos) (tMakeSD C sp dvs E t) := by
  refine ⟨fun pins s σ H Q I h => ?_⟩
  refine wpAny_Call_Name_kw (ld_glob I hg hm ?_ hdb)
  refine PySem.W.callWith_K (h₀ := X.base) I.ok.mod.kin M.kp (thn (ha.run pos pins s σ H _ I h) fun us s1 ⟨vs, H1, I1, r, q⟩ => ⟨I1.kIn, ?_⟩) he hpl
  exact run_makeSD M F hr hb hd (hx σ) I1 r q
theorem pe_makeSD0 (M : Mk X.K C f) (F : FnOk X.prog X.w X.K X.mg X.base CX k f fd ps sp) (hr : Room (k + 1) X.A) (hg : Gl X x) (hm : X.mg x = some (.ref C)) (hb : Binds X.K fd ps ds) (hd : Vals dvs ds) (hx : ∀ σ, PassesAt CX X σ (E σ))
    (hdb : (x == ("__debug__" : Str)) = false := by decide) : PE X (.Call (.Name x p) [] [] pos) (tMakeSD C sp dvs E tNil) := by
  refine ⟨fun pins s σ H Q I h => ?_⟩
  refine wpAny_Call_Name_kw (ld_glob I hg hm ?_ hdb)
  exact PySem.W.callWith_K0 I.kIn M.kp (run_makeSD (us := []) M F hr hb hd (hx σ) I .nil h)
end
/-- a new instance, by its __init__ -/
def mkI (c : Nat) (F : Fn) : Fn := fun ws G => (F (.ref G.length :: ws) (G ++ [.ins c []])).bind fun r G2 => match r with
  | .non => .ok (.ref G.length) G2
  | _ => .stuck
section
variable {T : Tx} {m : Mm} {H : Hp} {Q : VK} {W0 : WX} {σ : St}
/-- what is made: implied by the layer's words, changing or frozen -/
theorem make_sp {c n : Nat} {C : Addr} {F : Fn} {ws : List W} {vs : List V} {G : Gs} (hC : T.ct c = some C) (hG : RG T m G H) (r : RWs T m H ws vs) (hn : ws.length + 1 = n) (ho : Out T W0 m H σ Q (mkI c F ws G)) (x dx : Addr) (hx : H x = none) (hdx : H dx = none) (hne : dx ≠ x) :
    spF T n F (.ref x :: vs) (upd (upd H dx (.own x)) x (.ins C dx [])) (fun v H2 => v = .non ∧ Q (.ref x) H2) (WE W0 σ) := by
  have k1 : Keep m H m (upd H dx (.own x)) := Keep.new hG hdx
  have g1 := hG.new (o := .own x) hdx
  have hx1 : upd H dx (.own x) x = none := by rw [upd_ne (Ne.symm hne)]; exact hx
  have k2 : Keep m (upd H dx (.own x)) (m.push x) (upd (upd H dx (.own x)) x (.ins C dx [])) := Keep.push g1 hx1
  have g2 : RG T (m.push x) (G ++ [.ins c []]) (upd (upd H dx (.own x)) x (.ins C dx [])) := g1.push hx1 ⟨C, dx, [], hC, by rw [upd_same]; simp, Nat.zero_le _, .nil⟩
  have kk := k1.trans k2
  have hix : (m.push x).r[G.length]? = some x := by
    show (m.r ++ [x])[G.length]? = some x
    rw [← hG.len, List.getElem?_append_right (Nat.le_refl _), Nat.sub_self]
    rfl
  refine ⟨m.push x, G ++ [.ins c []], .ref G.length :: ws, g2, .cons (.ref hix) (r.keep kk), by rw [List.length_cons]; exact hn, ?_⟩
  have o2 := Out.keep kk ho
  unfold mkI at o2
  cases e : F (.ref G.length :: ws) (G ++ [.ins c []]) with
  | stuck => rw [e] at o2; exact o2
  | exc w G2 => rw [e] at o2; exact o2
  | ok w G2 =>
    rw [e] at o2
    cases w with
    | non =>
      intro m3 v H3 k3 g3 r3
      cases r3
      refine ⟨rfl, o2 m3 _ H3 k3 g3 (.ref ?_)⟩
      obtain ⟨e, he⟩ := k3.ext
      rw [he, List.getElem?_append_left (List.getElem?_eq_some_iff.mp hix).1]
      exact hix
    | _ => exact False.elim o2
end
structure MakeOk (T : Tx) (P : Program) (w : World) (mg : Str → Option Value) (base : Heap) (k : Nat) (x : Str) (c n : Nat) (F : Fn) (dws : List W) : Prop where
  ok : ∃ (C f : Addr) (fd : FuncData) (ps : List Str) (dvs : List V) (ds : List Value), T.ct c = some C ∧ mg x = some (.ref C) ∧ Mk T.K C f ∧ FnOk P w T.K mg base (L2.CX P w) k f fd ps (spF T n F) ∧ Binds T.K fd ps ds ∧ Dfl T dws dvs ds
section
variable {T : Tx} {X : Cx} {W0 : WX} {e : Expr} {es : List Expr} {fa : EF} {p pos : Pos} {x : Str} {k n c : Nat} {F : Fn} {dws : List W}
theorem make_imp {C : Addr} {dvs : List V} {t : TA} (hC : T.ct c = some C) (hd : ∀ m H, RWs T m H dws dvs) (it : ImpA T W0 t fa) (hl : ∀ ls G ws G1, fa ls G = .ok (.tup ws) G1 → ws.length + dws.length + 1 = n) :
    Imp T W0 (tMakeSD C (spF T n F) dvs (WE W0) t) (eFn (mkI c F) dws fa) := by
  intro mm ls G σ H Q hG hL ho
  refine it mm ls G σ H _ hG hL ?_
  simp only [eFn] at ho
  cases e1 : fa ls G with
  | stuck => rw [e1] at ho; exact ho
  | exc w G1 => rw [e1] at ho; exact ho
  | ok w G1 =>
    rw [e1] at ho
    cases w with
    | tup ws =>
      refine ⟨ws, rfl, fun m1 vs H1 k1 g1 r1 xx dx hx hdx hne => ?_⟩
      exact make_sp hC g1 (r1.append (hd m1 H1)) (by rw [List.length_append]; exact hl ls G ws G1 e1) (Out.keep k1 ho) xx dx hx hdx hne
    | _ => exact False.elim ho
/-- what is made is frozen at once -/
theorem makeZ_imp {C : Addr} {dvs : List V} {t : TA} (hC : T.ct c = some C) (hd : ∀ m H, RWs T m H dws dvs) (it : ImpA T W0 t fa) (hl : ∀ ls G ws G1, fa ls G = .ok (.tup ws) G1 → ws.length + dws.length + 1 = n) :
    Imp T W0 (tMakeSD C (spF T n F) dvs (WE W0) t) (eFn (purF (mkI c F)) dws fa) := by
  intro mm ls G σ H Q hG hL ho
  refine it mm ls G σ H _ hG hL ?_
  simp only [eFn] at ho
  cases e1 : fa ls G with
  | stuck => rw [e1] at ho; exact ho
  | exc w G1 => rw [e1] at ho; exact ho
  | ok w G1 =>
    rw [e1] at ho
    cases w with
    | tup ws =>
      refine ⟨ws, rfl, fun m1 vs H1 k1 g1 r1 xx dx hx hdx hne => ?_⟩
      have o1 : Out T W0 m1 H1 σ Q (purF (mkI c F) (ws ++ dws) G1) := Out.keep k1 ho
      have o2 : Out T (fun c d _ H => W0 c d σ H) m1 H1 [] Q (purF (mkI c F) (ws ++ dws) G1) := Out.wx o1 fun _ _ _ h => h
      have o3 := out_pur g1 o2
      have o4 : Out T W0 m1 H1 σ Q (mkI c F (ws ++ dws) G1) := Out.wx o3 fun _ _ _ h => h
      exact make_sp hC g1 (r1.append (hd m1 H1)) (by rw [List.length_append]; exact hl ls G ws G1 e1) o4 xx dx hx hdx hne
    | _ => exact False.elim ho
theorem fe_make (cx : Ctx T X W0) (M : MakeOk T X.prog X.w X.mg X.base k x c n F dws) (hr : Room (k + 1) X.A) (ha : FA T X W0 (e :: es) fa) (hl : ∀ ls G ws G1, fa ls G = .ok (.tup ws) G1 → ws.length + dws.length + 1 = n) (hg : Gl X x := by rfl) (hdb : (x == ("__debug__" : Str)) = false := by decide +kernel)
    (he : starEach (e :: es) X.env = (false, eval e X.env) :: starEach es X.env := by rfl) (hpl : (backTo pos (starEach es X.env)).any (·.1) = false := by rfl) : FE T X W0 (.Call (.Name x p) (e :: es) [] pos) (eFn (purF (mkI c F)) dws fa) := by
  obtain ⟨t, ha, it⟩ := ha
  obtain ⟨C, f, fd, ps, dvs, ds, hC, hm, hM, hF, hb, hd⟩ := M.ok
  have hK := cx.hK
  exact ⟨_, pe_makeSD (E := WE W0) (by rw [hK]; exact hM) (by rw [hK]; exact hF) hr hg hm (by rw [hK]; exact hb) hd.1 (passAt cx.tk) ha hdb he hpl, makeZ_imp hC hd.2 it hl⟩
theorem fe_make0 (cx : Ctx T X W0) (M : MakeOk T X.prog X.w X.mg X.base k x c n F dws) (hr : Room (k + 1) X.A) (hn : dws.length + 1 = n) (hg : Gl X x := by rfl) (hdb : (x == ("__debug__" : Str)) = false := by decide +kernel) : FE T X W0 (.Call (.Name x p) [] [] pos) (eFn (purF (mkI c F)) dws aNil) := by
  obtain ⟨C, f, fd, ps, dvs, ds, hC, hm, hM, hF, hb, hd⟩ := M.ok
  have hK := cx.hK
  exact ⟨_, pe_makeSD0 (E := WE W0) (by rw [hK]; exact hM) (by rw [hK]; exact hF) hr hg hm (by rw [hK]; exact hb) hd.1 (passAt cx.tk) hdb, makeZ_imp hC hd.2 (fun m ls G σ H Q hG hL ho => by
    obtain ⟨ws, ew, q⟩ := ho
    cases ew
    exact q m [] H (.refl _ _) hG .nil) (fun ls G ws G1 q => by rw [al0 ls G ws G1 q]; omega)⟩
end
end U

/-! keywords and defaults: making, methods, functions -/
namespace U
open PySem
open L2
def permF (pm : List Nat) (F : Fn) : Fn := fun ws G => F (perm pm ws) G
@[simp] theorem permF_e (pm : List Nat) (F : Fn) (ws : List W) (G : Gs) : permF pm F ws G = F (perm pm ws) G := rfl
theorem spF_perm {T : Tx} {n n2 : Nat} {F : Fn} {pm : List Nat} {vs : List V} {H : Hp} {Q : VK} {E : XK} (hp : ∀ ws : List W, ws.length = n → (perm pm ws).length = n2) (h : spF T n (permF pm F) vs H Q E) : spF T n2 F (perm pm vs) H Q E := by
  obtain ⟨m, G, ws, g, r, l, o⟩ := h
  exact ⟨m, G, perm pm ws, g, perm_rws r, hp ws l, o⟩
section
variable {X : Cx} {CX : CXT} {k n : Nat} {f C : Addr} {fd : FuncData} {ps ks : List Str} {sp : Sp} {E : St → XK} {x : Str} {p pos : Pos} {e : Expr} {es : List Expr} {kws : List Keyword} {t tk : TA} {pm : List Nat} {dvs : List V} {ds : List Value}
theorem run_makeKSD {pins : List (Addr × Obj)} {σ : St} {H : Hp} {s : Shared} {Q : VK} {us ws : List Value} {vs zs : List V} (M : Mk X.K C f) (F : FnOk X.prog X.w X.K X.mg X.base CX k f fd ps sp) (hr : Room (k + 1) X.A) (hb : KB X.K fd ps (n + 1) ks ds pm) (hd : Vals dvs ds) (hx : PassesAt CX X σ (E σ))
    (I : Inv X pins σ H s) (r : Vals vs us) (rz : Vals zs ws) (l1 : vs.length = n) (l2 : zs.length = ks.length)
    (h : ∀ x dx, H x = none → H dx = none → dx ≠ x → sp (perm pm ((.ref x :: vs) ++ zs ++ dvs)) (upd (upd H dx (.own x)) x (.ins C dx [])) (fun v H2 => v = .non ∧ Q (.ref x) H2) (E σ)) :
    wpAny (model X.prog X.w) X.A (call (.ref C) us (ks.zip ws)) (EP X pins σ Q) X.xe s := by
  have hq := h (s.heap.objs.size + 1) s.heap.objs.size (I.hok.fresh (Nat.le_succ _)) (I.hok.fresh (Nat.le_refl _)) (Nat.ne_of_lt (Nat.lt_succ_self _))
  have I2 := Inv.made (C := C) I
  have r1 : Vals (V.ref (s.heap.objs.size + 1) :: vs) (Value.ref (s.heap.objs.size + 1) :: us) := .cons rfl r
  have r2 := perm_vals (p := pm) ((r1.append rz).append hd)
  have n1 : (Value.ref (s.heap.objs.size + 1) :: us).length = n + 1 := by
    rw [List.length_cons, ← r.length, l1]
  refine wpAny_call (make_map (f := f) I.kIn M.makes M.init (beq_iff_eq.mp M.fn) (codeAny_mono (F.run _ X.stack _ _ ⟨Value.ref (s.heap.objs.size + 1) :: us, ks.zip ws⟩ _ _ _ (E σ) (hr.make C us (ks.zip ws))
    (I2.env0.make C us (ks.zip ws)) (hb _ (Value.ref (s.heap.objs.size + 1) :: us) ws I2.kIn n1 (rz.length.symm.trans l2)) r2 hq) fun r s' hq' => ?_))
  cases r with
  | error e => exact hx pins _ _ e s' I2 hq'
  | ok fl =>
    cases fl with
    | ret u =>
      obtain ⟨v, H', I3, rv, ev, q3⟩ := I2.after hq'
      subst ev
      exact ⟨rv, ⟨V.ref (s.heap.objs.size + 1), H', I3, rfl, q3⟩⟩
    | next => exact False.elim hq'
    | brk => exact False.elim hq'
    | cont => exact False.elim hq'
def tMakeKSD (C : Addr) (n m : Nat) (sp : Sp) (pm : List Nat) (dvs : List V) (E : St → XK) (t tk : TA) : TE := fun σ H Q => t σ H fun vs H1 => tk σ H1 fun zs H2 => vs.length = n ∧ zs.length = m ∧ ∀ x dx, H2 x = none → H2 dx = none → dx ≠ x →
  sp (perm pm ((.ref x :: vs) ++ zs ++ dvs)) (upd (upd H2 dx (.own x)) x (.ins C dx [])) (fun v H3 => v = .non ∧ Q (.ref x) H3) (E σ)
theorem pe_makeKSD0 (M : Mk X.K C f) (F : FnOk X.prog X.w X.K X.mg X.base CX k f fd ps sp) (hr : Room (k + 1) X.A) (hg : Gl X x) (hm : X.mg x = some (.ref C)) (hb : KB X.K fd ps 1 ks ds pm) (hd : Vals dvs ds) (hx : ∀ σ, PassesAt CX X σ (E σ)) (hkw : PK X kws tk)
    (hall : (backToKw pos (keywordEach kws X.env)).all (·.1.isSome) = true := by rfl) (hks : (backToKw pos (keywordEach kws X.env)).filterMap (·.1) = ks := by rfl) (hdb : (x == ("__debug__" : Str)) = false := by decide)
    (hpl : ((backTo pos (starEach [] X.env)).any (·.1) || (backToKw pos (keywordEach kws X.env)).any (·.1.isNone)) = false := by rfl) :
    PE X (.Call (.Name x p) [] kws pos) (tMakeKSD C 0 ks.length sp pm dvs E tNil tk) := by
  refine ⟨fun pins s σ H Q I h => ?_⟩
  refine wpAny_Call_Name_kw (ld_glob I hg hm ?_ hdb)
  refine PySem.W.callWith_KW0 (h₀ := X.base) I.ok.mod.kin M.kp hall ?_ hpl
  refine thn (hkw.run pos pins s σ H _ I h) fun ws s2 ⟨zs, H2, I2, rz, l1, l2, q2⟩ => ⟨I2.kIn, ?_⟩
  rw [hks]
  exact run_makeKSD (us := []) (vs := []) M F hr hb hd (hx σ) I2 .nil rz rfl l2 q2
theorem pe_makeKSD (M : Mk X.K C f) (F : FnOk X.prog X.w X.K X.mg X.base CX k f fd ps sp) (hr : Room (k + 1) X.A) (hg : Gl X x) (hm : X.mg x = some (.ref C)) (hb : KB X.K fd ps (n + 1) ks ds pm) (hd : Vals dvs ds) (hx : ∀ σ, PassesAt CX X σ (E σ)) (ha : PA X (e :: es) t) (hkw : PK X kws tk)
    (hall : (backToKw pos (keywordEach kws X.env)).all (·.1.isSome) = true := by rfl) (hks : (backToKw pos (keywordEach kws X.env)).filterMap (·.1) = ks := by rfl) (hdb : (x == ("__debug__" : Str)) = false := by decide)
    (he : starEach (e :: es) X.env = (false, eval e X.env) :: starEach es X.env := by rfl) (hpl : ((backTo pos (starEach (e :: es) X.env)).any (·.1) || (backToKw pos (keywordEach kws X.env)).any (·.1.isNone)) = false := by rfl) :
    PE X (.Call (.Name x p) (e :: es) kws pos) (tMakeKSD C n ks.length sp pm dvs E t tk) := by
  refine ⟨fun pins s σ H Q I h => ?_⟩
  refine wpAny_Call_Name_kw (ld_glob I hg hm ?_ hdb)
  refine PySem.W.callWith_KW (h₀ := X.base) I.ok.mod.kin M.kp hall (thn (ha.run pos pins s σ H _ I h) fun us s1 ⟨vs, H1, I1, r, q⟩ => ?_) hpl he
  refine thn (hkw.run pos pins s1 σ H1 _ I1 q) fun ws s2 ⟨zs, H2, I2, rz, l1, l2, q2⟩ => ⟨I2.kIn, ?_⟩
  rw [hks]
  exact run_makeKSD M F hr hb hd (hx σ) I2 r rz l1 l2 q2
end
section
variable {T : Tx} {X : Cx} {W0 : WX} {e : Expr} {es : List Expr} {kws : List Keyword} {fa fk : EF} {p pos : Pos} {x : Str} {k n n2 c : Nat} {F : Fn} {dws : List W} {ps ks : List Str} {pm : List Nat}
/-- making with keywords: how the class is bound for so many positional values and these keywords -/
structure MakeKOk (T : Tx) (P : Program) (w : World) (mg : Str → Option Value) (base : Heap) (k : Nat) (x : Str) (c n2 : Nat) (F : Fn) (dws : List W) (np : Nat) (ks : List Str) (pm : List Nat) : Prop where
  ok : ∃ (C f : Addr) (fd : FuncData) (ps : List Str) (dvs : List V) (ds : List Value), T.ct c = some C ∧ mg x = some (.ref C) ∧ Mk T.K C f ∧ FnOk P w T.K mg base (L2.CX P w) k f fd ps (spF T n2 F) ∧ KB T.K fd ps (np + 1) ks ds pm ∧ Dfl T dws dvs ds
/-- positional values, keywords' values, defaults in one row -/
def eAll (F : Fn) (dws : List W) (fa fk : EF) : EF := fun ls G => (fa ls G).bind fun w G1 => asT w fun ws => (fk ls G1).bind fun z G2 => asT z fun zs => F (ws ++ zs ++ dws) G2
@[simp] theorem eAll_e (F : Fn) (dws : List W) (fa fk : EF) (ls : Ls) (G : Gs) : eAll F dws fa fk ls G = (fa ls G).bind fun w G1 => asT w fun ws => (fk ls G1).bind fun z G2 => asT z fun zs => F (ws ++ zs ++ dws) G2 := rfl
theorem makeK_imp {C : Addr} {dvs : List V} {t tk : TA} {np : Nat} (hC : T.ct c = some C) (hd : ∀ m H, RWs T m H dws dvs) (it : ImpA T W0 t fa) (ik : ImpA T W0 tk fk) (hl : ∀ ls G ws G1, fa ls G = .ok (.tup ws) G1 → ws.length = np) (hk : ∀ ls G ws G1, fk ls G = .ok (.tup ws) G1 → ws.length = ks.length)
    (hp : ∀ ws : List W, ws.length = np + ks.length + dws.length + 1 → (perm pm ws).length = n2) :
    Imp T W0 (tMakeKSD C np ks.length (spF T n2 F) pm dvs (WE W0) t tk) (eAll (purF (mkI c (permF pm F))) dws fa fk) := by
  intro mm ls G σ H Q hG hL ho
  refine it mm ls G σ H _ hG hL ?_
  rw [eAll_e] at ho
  cases e1 : fa ls G with
  | stuck => rw [e1] at ho; exact ho
  | exc w G1 => rw [e1] at ho; exact ho
  | ok w G1 =>
    rw [e1] at ho
    cases w with
    | tup ws =>
      refine ⟨ws, rfl, fun m1 vs H1 k1 g1 r1 => ?_⟩
      refine ik m1 ls G1 σ H1 _ g1 (hL.keep k1) ?_
      have o1 := Out.keep k1 ho
      simp only [Res.bind, asT_e1] at o1
      cases e2 : fk ls G1 with
      | stuck => rw [e2] at o1; exact o1
      | exc w G2 => rw [e2] at o1; exact o1
      | ok z G2 =>
        rw [e2] at o1
        cases z with
        | tup zs =>
          refine ⟨zs, rfl, fun m2 us H2 k2 g2 r2 => ?_⟩
          have l1 := hl ls G ws G1 e1
          have l2 := hk ls G1 zs G2 e2
          refine ⟨by rw [← r1.length, l1], by rw [← r2.length, l2], fun xx dx hx hdx hne => ?_⟩
          have o2 : Out T W0 m2 H2 σ Q (purF (mkI c (permF pm F)) (ws ++ zs ++ dws) G2) := Out.keep k2 o1
          have o3 : Out T (fun c d _ H => W0 c d σ H) m2 H2 [] Q (purF (mkI c (permF pm F)) (ws ++ zs ++ dws) G2) := Out.wx o2 fun _ _ _ h => h
          have o4 := out_pur g2 o3
          have o5 : Out T W0 m2 H2 σ Q (mkI c (permF pm F) (ws ++ zs ++ dws) G2) := Out.wx o4 fun _ _ _ h => h
          have := make_sp (n := np + ks.length + dws.length + 1) hC g2 (((r1.keep k2).append r2).append (hd m2 H2)) (by simp only [List.length_append]; omega) o5 xx dx hx hdx hne
          have := spF_perm hp this
          exact this
        | _ => exact False.elim o1
    | _ => exact False.elim ho
theorem fe_makeK {np : Nat} (cx : Ctx T X W0) (M : MakeKOk T X.prog X.w X.mg X.base k x c n2 F dws np ks pm) (hr : Room (k + 1) X.A) (ha : FA T X W0 (e :: es) fa) (hkw : FK T X W0 kws fk) (hl : ∀ ls G ws G1, fa ls G = .ok (.tup ws) G1 → ws.length = np) (hkl : ∀ ls G ws G1, fk ls G = .ok (.tup ws) G1 → ws.length = ks.length)
    (hp : ∀ ws : List W, ws.length = np + ks.length + dws.length + 1 → (perm pm ws).length = n2) (hg : Gl X x := by rfl) (hall : (backToKw pos (keywordEach kws X.env)).all (·.1.isSome) = true := by rfl) (hks : (backToKw pos (keywordEach kws X.env)).filterMap (·.1) = ks := by rfl) (hdb : (x == ("__debug__" : Str)) = false := by decide +kernel)
    (he : starEach (e :: es) X.env = (false, eval e X.env) :: starEach es X.env := by rfl) (hpl : ((backTo pos (starEach (e :: es) X.env)).any (·.1) || (backToKw pos (keywordEach kws X.env)).any (·.1.isNone)) = false := by rfl) : FE T X W0 (.Call (.Name x p) (e :: es) kws pos) (eAll (purF (mkI c (permF pm F))) dws fa fk) := by
  obtain ⟨t, ha, it⟩ := ha
  obtain ⟨tk, hkw, ik⟩ := hkw
  obtain ⟨C, f, fd, ps, dvs, ds, hC, hm, hM, hF, hb, hd⟩ := M.ok
  have hK := cx.hK
  exact ⟨_, pe_makeKSD (E := WE W0) (by rw [hK]; exact hM) (by rw [hK]; exact hF) hr hg hm (by rw [hK]; exact hb) hd.1 (passAt cx.tk) ha hkw hall hks hdb he hpl, makeK_imp hC hd.2 it ik hl hkl hp⟩
theorem fe_makeK0 (cx : Ctx T X W0) (M : MakeKOk T X.prog X.w X.mg X.base k x c n2 F dws 0 ks pm) (hr : Room (k + 1) X.A) (hkw : FK T X W0 kws fk) (hkl : ∀ ls G ws G1, fk ls G = .ok (.tup ws) G1 → ws.length = ks.length)
    (hp : ∀ ws : List W, ws.length = 0 + ks.length + dws.length + 1 → (perm pm ws).length = n2) (hg : Gl X x := by rfl) (hall : (backToKw pos (keywordEach kws X.env)).all (·.1.isSome) = true := by rfl) (hks : (backToKw pos (keywordEach kws X.env)).filterMap (·.1) = ks := by rfl) (hdb : (x == ("__debug__" : Str)) = false := by decide +kernel)
    (hpl : ((backTo pos (starEach [] X.env)).any (·.1) || (backToKw pos (keywordEach kws X.env)).any (·.1.isNone)) = false := by rfl) : FE T X W0 (.Call (.Name x p) [] kws pos) (eAll (purF (mkI c (permF pm F))) dws aNil fk) := by
  obtain ⟨t, ha, it⟩ := (fa_nil : FA T X W0 [] aNil)
  obtain ⟨tk, hkw, ik⟩ := hkw
  obtain ⟨C, f, fd, ps, dvs, ds, hC, hm, hM, hF, hb, hd⟩ := M.ok
  have hK := cx.hK
  refine ⟨_, pe_makeKSD0 (E := WE W0) (by rw [hK]; exact hM) (by rw [hK]; exact hF) hr hg hm (by rw [hK]; exact hb) hd.1 (passAt cx.tk) hkw hall hks hdb hpl, makeK_imp hC hd.2 (fun m ls G σ H Q hG hL ho => ?_) ik al0 hkl hp⟩
  obtain ⟨ws, ew, q⟩ := ho
  cases ew
  exact q m [] H (.refl _ _) hG .nil
end
/-! ### methods with keywords -/
section
variable {X : Cx} {CX : CXT} {k n : Nat} {f C : Addr} {fd : FuncData} {ps ks : List Str} {sp : Sp} {E : St → XK} {m : Str} {apos pos : Pos} {o e : Expr} {es : List Expr} {kws : List Keyword} {ta : TE} {t tk : TA} {pm : List Nat} {dvs : List V} {ds : List Value}
theorem run_fnKSD {pins : List (Addr × Obj)} {σ : St} {H : Hp} {s : Shared} {Q : VK} {us ws : List Value} {vs zs : List V} (FO : FnOk X.prog X.w X.K X.mg X.base CX k f fd ps sp) (hr : Room k X.A) (hb : KB X.K fd ps n ks ds pm) (hd : Vals dvs ds) (hx : PassesAt CX X σ (E σ))
    (I : Inv X pins σ H s) (r : Vals vs us) (rz : Vals zs ws) (l1 : us.length = n) (l2 : ws.length = ks.length) (h : sp (perm pm (vs ++ zs ++ dvs)) H Q (E σ)) : wpAny (model X.prog X.w) X.A (call (.ref f) us (ks.zip ws)) (EP X pins σ Q) X.xe s := by
  refine wpAny_call (codeAny_mono (FO.run X.A X.stack s H ⟨us, ks.zip ws⟩ _ _ Q (E σ) hr I.env0 (hb s us ws I.kIn l1 l2) (perm_vals ((r.append rz).append hd)) h) fun r s' hq => ?_)
  cases r with
  | error e => exact hx pins H s e s' I hq
  | ok fl =>
    cases fl with
    | ret u => exact I.after hq
    | next => exact False.elim hq
    | brk => exact False.elim hq
    | cont => exact False.elim hq
def tMethKSD (C : Addr) (m : Str) (n l : Nat) (sp : Sp) (pm : List Nat) (dvs : List V) (E : St → XK) (ta : TE) (t tk : TA) : TE := fun σ H Q => ta σ H fun x H1 => ∃ a dx fs, x = .ref a ∧ H1 a = some (.ins C dx fs) ∧ fs.lookup m = none ∧
  t σ H1 fun vs H2 => tk σ H2 fun zs H3 => vs.length = n ∧ zs.length = l ∧ sp (perm pm ((x :: vs) ++ zs ++ dvs)) H3 Q (E σ)
theorem pe_methKSD {pl : Sem Bool} (he : PE X o ta) (c : Cls X.K C) (hm : Meth X.K C m f) (F : FnOk X.prog X.w X.K X.mg X.base CX k f fd ps sp) (hr : Room k X.A) (hb : KB X.K fd ps (n + 1) ks ds pm) (hd : Vals dvs ds) (hx : ∀ σ, PassesAt CX X σ (E σ)) (ha : PA X (e :: es) t) (hkw : PK X kws tk)
    (hall : (backToKw pos (keywordEach kws X.env)).all (·.1.isSome) = true := by rfl) (hks : (backToKw pos (keywordEach kws X.env)).filterMap (·.1) = ks := by rfl)
    (hst : starEach (e :: es) X.env = (false, eval e X.env) :: starEach es X.env := by rfl) (hpl : ((backTo pos (starEach (e :: es) X.env)).any (·.1) || (backToKw pos (keywordEach kws X.env)).any (·.1.isNone)) = false := by rfl)
    (ht : eval (.Call (.Attribute o m apos) (e :: es) kws pos) X.env = (do
      let ov ← eval o X.env
      standAt apos.atName
      let (f, first) ← holding [ov] (getMethod ov m pl)
      callWith pos f first (backTo pos (starEach (e :: es) X.env)) (backToKw pos (keywordEach kws X.env))) := by rfl) :
    PE X (.Call (.Attribute o m apos) (e :: es) kws pos) (tMethKSD C m n ks.length sp pm dvs E ta t tk) := by
  refine ⟨fun pins s σ H Q I h => ?_⟩
  refine PySem.W.methodCall_KW (pl := pl) (thn (he.run pins s σ H _ I h) fun u s1 ⟨x, H1, I1, rx, a, dx, fs, ex, ea, l, q⟩ => ?_) ht
  subst ex
  obtain rfl : u = Value.ref a := rx
  refine getmeth_ok I1 ea c hm l ?_
  refine PySem.W.callWith_KW (first := [.ref a]) (h₀ := X.base) I.ok.mod.kin hm.kp hall (thn (ha.run pos pins s1 σ H1 _ I1 q) fun us s2 ⟨vs, H2, I2, r, q2⟩ => ?_) hpl hst
  refine thn (hkw.run pos pins s2 σ H2 _ I2 q2) fun ws s3 ⟨zs, H3, I3, rz, l1, l2, q3⟩ => ⟨I3.kIn, ?_⟩
  rw [hks]
  exact run_fnKSD (us := .ref a :: us) (vs := .ref a :: vs) F hr hb hd (hx σ) I3 (.cons rfl r) rz (by rw [List.length_cons, ← r.length, l1]) (rz.length.symm.trans l2) q3
theorem pe_methKSD0 {pl : Sem Bool} (he : PE X o ta) (c : Cls X.K C) (hm : Meth X.K C m f) (F : FnOk X.prog X.w X.K X.mg X.base CX k f fd ps sp) (hr : Room k X.A) (hb : KB X.K fd ps 1 ks ds pm) (hd : Vals dvs ds) (hx : ∀ σ, PassesAt CX X σ (E σ)) (hkw : PK X kws tk)
    (hall : (backToKw pos (keywordEach kws X.env)).all (·.1.isSome) = true := by rfl) (hks : (backToKw pos (keywordEach kws X.env)).filterMap (·.1) = ks := by rfl)
    (hpl : ((backTo pos (starEach [] X.env)).any (·.1) || (backToKw pos (keywordEach kws X.env)).any (·.1.isNone)) = false := by rfl)
    (ht : eval (.Call (.Attribute o m apos) [] kws pos) X.env = (do
      let ov ← eval o X.env
      standAt apos.atName
      let (f, first) ← holding [ov] (getMethod ov m pl)
      callWith pos f first (backTo pos (starEach [] X.env)) (backToKw pos (keywordEach kws X.env))) := by rfl) :
    PE X (.Call (.Attribute o m apos) [] kws pos) (tMethKSD C m 0 ks.length sp pm dvs E ta tNil tk) := by
  refine ⟨fun pins s σ H Q I h => ?_⟩
  refine PySem.W.methodCall_KW (pl := pl) (thn (he.run pins s σ H _ I h) fun u s1 ⟨x, H1, I1, rx, a, dx, fs, ex, ea, l, q⟩ => ?_) ht
  subst ex
  obtain rfl : u = Value.ref a := rx
  refine getmeth_ok I1 ea c hm l ?_
  refine PySem.W.callWith_KW0 (first := [.ref a]) (h₀ := X.base) I.ok.mod.kin hm.kp hall ?_ hpl
  refine thn (hkw.run pos pins s1 σ H1 _ I1 q) fun ws s3 ⟨zs, H3, I3, rz, l1, l2, q3⟩ => ⟨I3.kIn, ?_⟩
  rw [hks]
  exact run_fnKSD (us := [.ref a]) (vs := [.ref a]) F hr hb hd (hx σ) I3 (.cons rfl .nil) rz rfl (rz.length.symm.trans l2) q3
end
structure MethKOk (T : Tx) (P : Program) (w : World) (mg : Str → Option Value) (base : Heap) (k : Nat) (m : Str) (c n2 : Nat) (F : Fn) (dws : List W) (np : Nat) (ks : List Str) (pm : List Nat) : Prop where
  ok : ∃ (C f : Addr) (fd : FuncData) (ps : List Str) (dvs : List V) (ds : List Value), T.ct c = some C ∧ Cls T.K C ∧ Meth T.K C m f ∧ FnOk P w T.K mg base (L2.CX P w) k f fd ps (spF T n2 F) ∧ KB T.K fd ps (np + 1) ks ds pm ∧ Dfl T dws dvs ds
  nof : m ∉ T.lay c
/-- o.m(e, .., k = v, ..): F takes the receiver, positional values, keywords' values, defaults in one row -/
def eMethK (tbl : List (Nat × (Fn × List W))) (fo fa fk : EF) : EF := fun ls G => (fo ls G).bind fun o G1 => match clsOf o G1 with
  | some c => (match tbl.lookup c with
    | some p => (fa ls G1).bind fun w G2 => asT w fun ws => (fk ls G2).bind fun z G3 => asT z fun zs => p.1 ((o :: ws) ++ zs ++ p.2) G3
    | none => .stuck)
  | none => .stuck
@[simp] theorem eMethK_e (tbl : List (Nat × (Fn × List W))) (fo fa fk : EF) (ls : Ls) (G : Gs) : eMethK tbl fo fa fk ls G = (fo ls G).bind fun o G1 => match clsOf o G1 with
  | some c => (match tbl.lookup c with
    | some p => (fa ls G1).bind fun w G2 => asT w fun ws => (fk ls G2).bind fun z G3 => asT z fun zs => p.1 ((o :: ws) ++ zs ++ p.2) G3
    | none => .stuck)
  | none => .stuck := rfl
section
variable {T : Tx} {X : Cx} {W0 : WX} {o e : Expr} {es : List Expr} {kws : List Keyword} {fo fa fk : EF} {pos apos : Pos} {m : Str} {k n2 c np : Nat} {F : Fn} {dws : List W} {ks : List Str} {pm : List Nat}
theorem methK_imp {C : Addr} {dvs : List V} {ta : TE} {t tk : TA} (hC : T.ct c = some C) (hd : ∀ m H, RWs T m H dws dvs) (hnf : m ∉ T.lay c) (ia : Imp T W0 ta fo) (it : ImpA T W0 t fa) (ik : ImpA T W0 tk fk) (hl : ∀ ls G ws G1, fa ls G = .ok (.tup ws) G1 → ws.length = np) (hk : ∀ ls G ws G1, fk ls G = .ok (.tup ws) G1 → ws.length = ks.length)
    (hp : ∀ ws : List W, ws.length = np + ks.length + dws.length + 1 → (perm pm ws).length = n2) :
    Imp T W0 (tMethKSD C m np ks.length (spF T n2 F) pm dvs (WE W0) ta t tk) (eMethK [(c, (permF pm F, dws))] fo fa fk) := by
  intro mm ls G σ H Q hG hL ho
  refine ia.go hG hL ho fun w G1 m1 v H1 k1 g1 r1 l1 o1 => ?_
  split at o1
  · rename_i c' e1
    have hlk : [(c, (permF pm F, dws))].lookup c' = if c' == c then some (permF pm F, dws) else none := by simp only [List.lookup_cons, List.lookup_nil]; split <;> rename_i h <;> simp [h]
    rw [hlk] at o1
    by_cases hcc : (c' == c) = true
    · rw [if_pos hcc] at o1
      obtain rfl := beq_iff_eq.mp hcc
      obtain ⟨a, C', dx, vs, xs, rfl, hc, h1, h2, r, l⟩ := ins_ok g1 r1 e1
      rw [hC] at hc
      cases hc
      refine ⟨a, dx, _, rfl, h1, lookup_zip_none hnf, ?_⟩
      refine it m1 ls G1 σ H1 _ g1 l1 ?_
      simp only at o1
      cases e2 : fa ls G1 with
      | stuck => rw [e2] at o1; exact o1
      | exc w G2 => rw [e2] at o1; exact o1
      | ok w2 G2 =>
        rw [e2] at o1
        cases w2 with
        | tup ws =>
          refine ⟨ws, rfl, fun m2 us H2 k2 g2 r2 => ?_⟩
          refine ik m2 ls G2 σ H2 _ g2 (l1.keep k2) ?_
          have o2 := Out.keep k2 o1
          simp only [Res.bind, asT_e1] at o2
          cases e3 : fk ls G2 with
          | stuck => rw [e3] at o2; exact o2
          | exc w G3 => rw [e3] at o2; exact o2
          | ok z G3 =>
            rw [e3] at o2
            cases z with
            | tup zs =>
              refine ⟨zs, rfl, fun m3 ys H3 k3 g3 r3 => ?_⟩
              have q1 := hl ls G1 ws G2 e2
              have q2 := hk ls G2 zs G3 e3
              refine ⟨by rw [← r2.length, q1], by rw [← r3.length, q2], ?_⟩
              exact ⟨m3, G3, perm pm ((w :: ws) ++ zs ++ dws), g3, perm_rws ((RWs.cons (r1.keep (k2.trans k3)) (r2.keep k3) |>.append r3).append (hd m3 H3)), hp _ (by simp only [List.length_append, List.length_cons]; omega), Out.wx (Out.keep k3 o2) fun _ _ _ h => h⟩
            | _ => exact False.elim o2
        | _ => exact False.elim o1
    · rw [if_neg hcc] at o1
      exact False.elim o1
  · exact False.elim o1
theorem fe_methK1 {pl : Sem Bool} (cx : Ctx T X W0) (h : FE T X W0 o fo) (M : MethKOk T X.prog X.w X.mg X.base k m c n2 F dws np ks pm) (hr : Room k X.A) (ha : FA T X W0 (e :: es) fa) (hkw : FK T X W0 kws fk) (hl : ∀ ls G ws G1, fa ls G = .ok (.tup ws) G1 → ws.length = np) (hkl : ∀ ls G ws G1, fk ls G = .ok (.tup ws) G1 → ws.length = ks.length)
    (hp : ∀ ws : List W, ws.length = np + ks.length + dws.length + 1 → (perm pm ws).length = n2) (hall : (backToKw pos (keywordEach kws X.env)).all (·.1.isSome) = true := by rfl) (hks : (backToKw pos (keywordEach kws X.env)).filterMap (·.1) = ks := by rfl)
    (hst : starEach (e :: es) X.env = (false, eval e X.env) :: starEach es X.env := by rfl) (hpl : ((backTo pos (starEach (e :: es) X.env)).any (·.1) || (backToKw pos (keywordEach kws X.env)).any (·.1.isNone)) = false := by rfl)
    (ht : eval (.Call (.Attribute o m apos) (e :: es) kws pos) X.env = (do
      let ov ← eval o X.env
      standAt apos.atName
      let (f, first) ← holding [ov] (getMethod ov m pl)
      callWith pos f first (backTo pos (starEach (e :: es) X.env)) (backToKw pos (keywordEach kws X.env))) := by rfl) :
    FE T X W0 (.Call (.Attribute o m apos) (e :: es) kws pos) (eMethK [(c, (permF pm F, dws))] fo fa fk) := by
  obtain ⟨ta, h, ia⟩ := h
  obtain ⟨t, ha, it⟩ := ha
  obtain ⟨tk, hkw, ik⟩ := hkw
  obtain ⟨C, f, fd, ps, dvs, ds, hC, hCls, hM, hF, hb, hd⟩ := M.ok
  have hK := cx.hK
  exact ⟨_, pe_methKSD (pl := pl) (E := WE W0) h (by rw [hK]; exact hCls) (by rw [hK]; exact hM) (by rw [hK]; exact hF) hr (by rw [hK]; exact hb) hd.1 (passAt cx.tk) ha hkw hall hks hst hpl ht, methK_imp hC hd.2 M.nof ia it ik hl hkl hp⟩
theorem fe_methK10 {pl : Sem Bool} (cx : Ctx T X W0) (h : FE T X W0 o fo) (M : MethKOk T X.prog X.w X.mg X.base k m c n2 F dws 0 ks pm) (hr : Room k X.A) (hkw : FK T X W0 kws fk) (hkl : ∀ ls G ws G1, fk ls G = .ok (.tup ws) G1 → ws.length = ks.length)
    (hp : ∀ ws : List W, ws.length = 0 + ks.length + dws.length + 1 → (perm pm ws).length = n2) (hall : (backToKw pos (keywordEach kws X.env)).all (·.1.isSome) = true := by rfl) (hks : (backToKw pos (keywordEach kws X.env)).filterMap (·.1) = ks := by rfl)
    (hpl : ((backTo pos (starEach [] X.env)).any (·.1) || (backToKw pos (keywordEach kws X.env)).any (·.1.isNone)) = false := by rfl)
    (ht : eval (.Call (.Attribute o m apos) [] kws pos) X.env = (do
      let ov ← eval o X.env
      standAt apos.atName
      let (f, first) ← holding [ov] (getMethod ov m pl)
      callWith pos f first (backTo pos (starEach [] X.env)) (backToKw pos (keywordEach kws X.env))) := by rfl) :
    FE T X W0 (.Call (.Attribute o m apos) [] kws pos) (eMethK [(c, (permF pm F, dws))] fo aNil fk) := by
  obtain ⟨ta, h, ia⟩ := h
  obtain ⟨t, ha, it⟩ := (fa_nil : FA T X W0 [] aNil)
  obtain ⟨tk, hkw, ik⟩ := hkw
  obtain ⟨C, f, fd, ps, dvs, ds, hC, hCls, hM, hF, hb, hd⟩ := M.ok
  have hK := cx.hK
  refine ⟨_, pe_methKSD0 (pl := pl) (E := WE W0) h (by rw [hK]; exact hCls) (by rw [hK]; exact hM) (by rw [hK]; exact hF) hr (by rw [hK]; exact hb) hd.1 (passAt cx.tk) hkw hall hks hpl ht, methK_imp hC hd.2 M.nof ia (fun m ls G σ H Q hG hL ho => ?_) ik al0 hkl hp⟩
  obtain ⟨ws, ew, q⟩ := ho
  cases ew
  exact q m [] H (.refl _ _) hG .nil
theorem fe_methKT {tbl : List (Nat × (Fn × List W))} {E : Expr} (h : ∀ p ∈ tbl, FE T X W0 E (eMethK [p] fo fa fk)) (hne : tbl ≠ []) : FE T X W0 E (eMethK tbl fo fa fk) := by
  refine ⟨_, pe_ex (ι := {p // p ∈ tbl}) fun p => (Classical.choose_spec (h p.1 p.2)).1, fun mm ls G σ H Q hG hL ho => ?_⟩
  have go : ∀ p (hp : p ∈ tbl), eMethK tbl fo fa fk ls G = eMethK [p] fo fa fk ls G → ∃ i : {p // p ∈ tbl}, Classical.choose (h i.1 i.2) σ H Q := fun p hp he => ⟨⟨p, hp⟩, (Classical.choose_spec (h p hp)).2 mm ls G σ H Q hG hL (by rw [← he]; exact ho)⟩
  cases e1 : fo ls G with
  | stuck => rw [eMethK_e, e1] at ho; exact False.elim ho
  | exc w G1 =>
    obtain ⟨p, hp⟩ := List.exists_mem_of_ne_nil tbl hne
    exact go p hp (by rw [eMethK_e, eMethK_e, e1]; rfl)
  | ok w G1 =>
    rw [eMethK_e, e1] at ho
    simp only [Res.bind] at ho
    split at ho
    · rename_i c e2
      split at ho
      · rename_i p e3
        refine go (c, p) (lookup_mem e3) ?_
        rw [eMethK_e, eMethK_e, e1]
        simp only [Res.bind, e2, e3]
        have : [(c, p)].lookup c = some p := by simp
        rw [this]
      · exact False.elim ho
    · exact False.elim ho
end
end U

/-! instances called; class constants; tables row by row -/
namespace U
open PySem
open PySem.Spec
open PyProof.Rows
open L2
section
variable {X : Cx} {CX : CXT} {k n : Nat} {g C : Addr} {fd : FuncData} {ps ks : List Str} {sp : Sp} {E : L2.St → XK} {pos : Pos} {fe e : Expr} {es : List Expr} {kws : List Keyword} {tf : TE} {t tk : TA} {pm : List Nat} {dvs : List V} {ds : List Value}
/-- the callee's code runs -/
theorem code_fnKSD {pins : List (Addr × Obj)} {σ : L2.St} {H : Hp} {s : Shared} {Q : VK} {us ws : List Value} {vs zs : List V} (FO : FnOk X.prog X.w X.K X.mg X.base CX k g fd ps sp) (hr : Room k X.A) (hb : KB X.K fd ps n ks ds pm) (hd : Vals dvs ds) (hx : PassesAt CX X σ (E σ))
    (I : Inv X pins σ H s) (r : Vals vs us) (rz : Vals zs ws) (l1 : us.length = n) (l2 : ws.length = ks.length) (h : sp (perm pm (vs ++ zs ++ dvs)) H Q (E σ)) :
    codeAny (model X.prog X.w) X.A (.call (.ref g) ⟨us, ks.zip ws⟩) (fun r s' => match r with | .ok (.ret v) => EP X pins σ Q v s' | .ok _ => False | .error e => X.xe e s') s := by
  refine codeAny_mono (FO.run X.A X.stack s H ⟨us, ks.zip ws⟩ _ _ Q (E σ) hr I.env0 (hb s us ws I.kIn l1 l2) (perm_vals ((r.append rz).append hd)) h) fun r s' hq => ?_
  cases r with
  | error e => exact hx pins H s e s' I hq
  | ok fl =>
    cases fl with
    | ret u => exact I.after hq
    | next => exact False.elim hq
    | brk => exact False.elim hq
    | cont => exact False.elim hq
def tCallOSD (X : Cx) (C : Addr) (n : Nat) (sp : Sp) (pm : List Nat) (dvs : List V) (E : L2.St → XK) (tf : TE) (t : TA) : TE := fun σ H Q => tf σ H fun y H1 => ∃ a, y = V.ref a ∧ t σ H1 fun vs H2 => StX.InsC X H2 a C ∧ vs.length = n ∧ sp (perm pm ((V.ref a :: vs) ++ [] ++ dvs)) H2 Q (E σ)
theorem pe_callOSD (hf : PE X fe tf) (c : StX.CallO X.K C g) (F : FnOk X.prog X.w X.K X.mg X.base CX k g fd ps sp) (hr : Room k X.A) (hb : KB X.K fd ps (n + 1) [] ds pm) (hd : Vals dvs ds) (hx : ∀ σ, PassesAt CX X σ (E σ)) (ha : PA X (e :: es) t)
    (ht : eval (.Call fe (e :: es) [] pos) X.env = (do callWith pos (← eval fe X.env) [] (backTo pos (starEach (e :: es) X.env)) (backToKw pos (keywordEach [] X.env))) := by rfl)
    (he : starEach (e :: es) X.env = (false, eval e X.env) :: starEach es X.env := by rfl) (hpl : (backTo pos (starEach es X.env)).any (·.1) = false := by rfl) : PE X (.Call fe (e :: es) [] pos) (tCallOSD X C n sp pm dvs E tf t) := by
  refine ⟨fun pins s σ H Q I h => ?_⟩
  refine Call_ (thn (hf.run pins s σ H _ I h) fun u s1 ⟨y, H1, I1, ry, a, ey, q⟩ => ?_) ht
  subst ey
  obtain rfl : u = Value.ref a := ry
  refine StX.callO_with (thn (ha.run pos pins s1 σ H1 _ I1 q) fun us s2 ⟨vs, H2, I2, r, hi, ln, q2⟩ => ?_) he hpl
  obtain ⟨ox, od, J, hdd⟩ := StX.insC_at I2 hi
  refine ⟨⟨C, ox, od, J, hdd⟩, wpAny_call (PySem.W.kco_code I2.kIn J hdd c.at_ c.fn c.fi ?_)⟩
  exact code_fnKSD (us := .ref a :: us) (ws := []) (vs := .ref a :: vs) (zs := []) F hr hb hd (hx σ) I2 (.cons rfl r) .nil (by rw [List.length_cons, ← r.length, ln]) rfl q2
end
structure CallOk (T : Tx) (P : Program) (w : World) (mg : Str → Option Value) (base : Heap) (k c n2 : Nat) (F : Fn) (dws : List W) (np : Nat) (pm : List Nat) : Prop where
  ok : ∃ (C f : Addr) (fd : FuncData) (ps : List Str) (dvs : List V) (ds : List Value), T.ct c = some C ∧ StX.CallO T.K C f ∧ FnOk P w T.K mg base (L2.CX P w) k f fd ps (spF T n2 F) ∧ KB T.K fd ps (np + 1) [] ds pm ∧ Dfl T dws dvs ds
/-- f(args), f an instance -/
def eCallO (tbl : List (Nat × (Fn × List W))) (ff fa : EF) : EF := fun ls G => (ff ls G).bind fun o G1 => match clsOf o G1 with
  | some c => (match tbl.lookup c with
    | some p => (fa ls G1).bind fun w G2 => asT w fun ws => if clsOf o G2 = some c then p.1 ((o :: ws) ++ [] ++ p.2) G2 else .stuck
    | none => .stuck)
  | none => .stuck
@[simp] theorem eCallO_e (tbl : List (Nat × (Fn × List W))) (ff fa : EF) (ls : Ls) (G : Gs) : eCallO tbl ff fa ls G = (ff ls G).bind fun o G1 => match clsOf o G1 with
  | some c => (match tbl.lookup c with
    | some p => (fa ls G1).bind fun w G2 => asT w fun ws => if clsOf o G2 = some c then p.1 ((o :: ws) ++ [] ++ p.2) G2 else .stuck
    | none => .stuck)
  | none => .stuck := rfl
section
variable {T : Tx} {X : Cx} {W0 : WX} {fe e : Expr} {es : List Expr} {ff fa : EF} {pos : Pos} {k n2 c np : Nat} {F : Fn} {dws : List W} {pm : List Nat}
theorem fe_callO1 (cx : Ctx T X W0) (h : FE T X W0 fe ff) (M : CallOk T X.prog X.w X.mg X.base k c n2 F dws np pm) (hr : Room k X.A) (ha : FA T X W0 (e :: es) fa) (hl : ∀ ls G ws G1, fa ls G = .ok (.tup ws) G1 → ws.length = np) (hp : ∀ ws : List W, ws.length = np + dws.length + 1 → (perm pm ws).length = n2)
    (ht : eval (.Call fe (e :: es) [] pos) X.env = (do callWith pos (← eval fe X.env) [] (backTo pos (starEach (e :: es) X.env)) (backToKw pos (keywordEach [] X.env))) := by rfl)
    (he : starEach (e :: es) X.env = (false, eval e X.env) :: starEach es X.env := by rfl) (hpl : (backTo pos (starEach es X.env)).any (·.1) = false := by rfl) : FE T X W0 (.Call fe (e :: es) [] pos) (eCallO [(c, (permF pm F, dws))] ff fa) := by
  obtain ⟨tf, h, ia⟩ := h
  obtain ⟨t, ha, it⟩ := ha
  obtain ⟨C, f, fd, ps, dvs, ds, hC, hCall, hF, hb, hd⟩ := M.ok
  have hK := cx.hK
  refine ⟨_, pe_callOSD (n := np) (E := WE W0) h (by rw [hK]; exact hCall) (by rw [hK]; exact hF) hr (by rw [hK]; exact hb) hd.1 (passAt cx.tk) ha ht he hpl, fun mm ls G σ H Q hG hL ho => ?_⟩
  rw [eCallO_e] at ho
  refine ia.go hG hL ho fun w G1 m1 v H1 k1 g1 r1 l1 o1 => ?_
  split at o1
  · rename_i c' e1
    have hlk : [(c, (permF pm F, dws))].lookup c' = if c' == c then some (permF pm F, dws) else none := by simp only [List.lookup_cons, List.lookup_nil]; split <;> rename_i h <;> simp [h]
    rw [hlk] at o1
    by_cases hcc : (c' == c) = true
    · rw [if_pos hcc] at o1
      obtain rfl := beq_iff_eq.mp hcc
      obtain ⟨a, C', dx, vs, xs, rfl, hc, h1, h2, r, l⟩ := ins_ok g1 r1 e1
      refine ⟨a, rfl, ?_⟩
      refine it m1 ls G1 σ H1 _ g1 l1 ?_
      simp only at o1
      cases e2 : fa ls G1 with
      | stuck => rw [e2] at o1; exact o1
      | exc w G2 => rw [e2] at o1; exact o1
      | ok w2 G2 =>
        rw [e2] at o1
        cases w2 with
        | tup ws =>
          refine ⟨ws, rfl, fun m2 us H2 k2 g2 r2 => ?_⟩
          simp only [Res.bind, asT_e1] at o1
          split at o1
          · rename_i e3
            obtain ⟨a2, C2, dx2, vs2, xs2, ea, hc2, h12, _, _, _⟩ := ins_ok g2 (r1.keep k2) e3
            cases ea
            rw [hC] at hc2
            cases hc2
            refine ⟨.inr ⟨dx2, _, h12⟩, by rw [← r2.length, hl ls G1 ws G2 e2], ?_⟩
            exact ⟨m2, G2, perm pm ((w :: ws) ++ [] ++ dws), g2, perm_rws ((RWs.cons (r1.keep k2) r2 |>.append .nil).append (hd.2 m2 H2)), hp _ (by have := hl ls G1 ws G2 e2; simp only [List.length_append, List.length_cons, List.length_nil]; omega), Out.wx (Out.keep k2 o1) fun _ _ _ h => h⟩
          · exact False.elim o1
        | _ => exact False.elim o1
    · rw [if_neg hcc] at o1
      exact False.elim o1
  · exact False.elim o1
theorem fe_callOT {tbl : List (Nat × (Fn × List W))} {E : Expr} (h : ∀ p ∈ tbl, FE T X W0 E (eCallO [p] ff fa)) (hne : tbl ≠ []) : FE T X W0 E (eCallO tbl ff fa) := by
  refine ⟨_, pe_ex (ι := {p // p ∈ tbl}) fun p => (Classical.choose_spec (h p.1 p.2)).1, fun mm ls G σ H Q hG hL ho => ?_⟩
  have go : ∀ p (hp : p ∈ tbl), eCallO tbl ff fa ls G = eCallO [p] ff fa ls G → ∃ i : {p // p ∈ tbl}, Classical.choose (h i.1 i.2) σ H Q := fun p hp he => ⟨⟨p, hp⟩, (Classical.choose_spec (h p hp)).2 mm ls G σ H Q hG hL (by rw [← he]; exact ho)⟩
  cases e1 : ff ls G with
  | stuck => rw [eCallO_e, e1] at ho; exact False.elim ho
  | exc w G1 =>
    obtain ⟨p, hp⟩ := List.exists_mem_of_ne_nil tbl hne
    exact go p hp (by rw [eCallO_e, eCallO_e, e1]; rfl)
  | ok w G1 =>
    rw [eCallO_e, e1] at ho
    simp only [Res.bind] at ho
    split at ho
    · rename_i c e2
      split at ho
      · rename_i p e3
        refine go (c, p) (lookup_mem e3) ?_
        rw [eCallO_e, eCallO_e, e1]
        simp only [Res.bind, e2, e3]
        have : [(c, p)].lookup c = some p := by simp
        rw [this]
      · exact False.elim ho
    · exact False.elim ho
end
/-! ### a constant of the class -/
structure ConOk (T : Tx) (a : Str) (c : Nat) (w : W) : Prop where
  ok : ∀ C, T.ct c = some C → Cls T.K C ∧ ∃ v u, Con T.K C a v u ∧ ∀ m H, RW T m H w v
  nof : a ∉ T.lay c
def eCon (tbl : List (Nat × W)) (fo : EF) : EF := fun ls G => (fo ls G).bind fun o G1 => match clsOf o G1 with
  | some c => (match tbl.lookup c with
    | some w => .ok w G1
    | none => .stuck)
  | none => .stuck
@[simp] theorem eCon_e (tbl : List (Nat × W)) (fo : EF) (ls : Ls) (G : Gs) : eCon tbl fo ls G = (fo ls G).bind fun o G1 => match clsOf o G1 with
  | some c => (match tbl.lookup c with
    | some w => .ok w G1
    | none => .stuck)
  | none => .stuck := rfl
section
variable {T : Tx} {X : Cx} {W0 : WX} {o : Expr} {fo : EF} {pos : Pos}
theorem fe_con (c : Ctx T X W0) (h : FE T X W0 o fo) {a : Str} {tbl : List (Nat × W)} (ht : ∀ p ∈ tbl, ConOk T a p.1 p.2) (hb : attributeBase o a X.env (eval o X.env) = eval o X.env := by rfl) : FE T X W0 (.Attribute o a pos) (eCon tbl fo) := by
  obtain ⟨t, h, i⟩ := h
  refine ⟨_, pe_con h hb, fun m ls G σ H Q hG hL ho => ?_⟩
  refine i.go hG hL ho fun w G1 m1 v H1 k1 g1 r1 l1 o1 => ?_
  split at o1
  · rename_i cc e1
    obtain ⟨ad, C, dx, vs, xs', rfl, hc, h1, h2, r, l⟩ := ins_ok g1 r1 e1
    split at o1
    · rename_i w' ej
      have F := ht _ (lookup_mem ej)
      obtain ⟨hC, v, u, hcon, hrw⟩ := F.ok C hc
      exact ⟨ad, C, dx, _, v, u, rfl, h1, by rw [c.hK]; exact hC, by rw [c.hK]; exact hcon, lookup_zip_none F.nof, o1.now g1 (hrw m1 H1)⟩
    · exact False.elim o1
  · exact False.elim o1
end
theorem hl_m {fa : EF} {n d m : Nat} (h : ∀ ls G ws G1, fa ls G = .ok (.tup ws) G1 → ws.length = n) (e : n + 1 + d = m) : ∀ ls G ws G1, fa ls G = .ok (.tup ws) G1 → ws.length + 1 + d = m := fun ls G ws G1 q => by rw [h ls G ws G1 q]; exact e
/-! ### row by row -/
theorem row_nil {α : Type} {p : α → Prop} : ∀ x ∈ ([] : List α), p x := fun _ h => absurd h List.not_mem_nil
theorem row_cons {α : Type} {p : α → Prop} {a : α} {l : List α} (h : p a) (t : ∀ x ∈ l, p x) : ∀ x ∈ a :: l, p x := fun x hx => by
  rcases List.mem_cons.mp hx with rfl | hx
  · exact h
  · exact t x hx
end U

/-! defaults: how the values come to the parameters -/
namespace U
open PySem
open L2
section
variable {K : PySem.W.Frag} {x qual : Str} {params : Arguments} {body : List Stmt} {scope : Scope} {dvs : List V} {kws ms : List (Str × V)} {f : Addr} {fd : FuncData} {ps ks : List Str} {n : Nat} {p : List Nat}
/-- defaults and keyword-only defaults -/
theorem kb_both (F : FunD K x qual params body scope dvs kws f fd) (hd : dvs ≠ []) (hk : kws ≠ []) (hms : ∀ q ∈ ms, q ∈ kws)
    (h : ∀ (T D : Addr) (doc pm : Value) (an : Option Addr) (cdv ct : Value) (us its mv ws : List Value), us.length = n → its.length = dvs.length → mv.length = ms.length → ws.length = ks.length →
      ∃ k, bindArgs (PySem.W.fnOf x qual params body scope (.ref T) (.ref D) doc pm an cdv ct) ⟨us, ks.zip ws⟩ = seqItems? (.ref T) >>= k ∧ KwChain D ((ms.map (·.1)).zip mv) (k (some its.toArray)) (ps.zip (perm p (us ++ ws ++ (its ++ mv))))) :
    ∃ ds : List Value, Vals (dvs ++ ms.map (·.2)) ds ∧ KB K fd ps n ks ds p := by
  obtain ⟨oc, od, dV, kV, doc, pm, an, cdv, ct, osl, rfl, lk, hcd, hD, hK⟩ := F.ex
  rcases hD with ⟨e, _⟩ | ⟨_, T, o, its, m, rfl, lT, oT, rT⟩
  · exact absurd e hd
  · rcases hK with e | ⟨D, rfl, hq⟩
    · exact absurd e hk
    · obtain ⟨mv, hl, rk, hks⟩ := kwd_vals (ms := ms) fun q hm => hq q (hms q hm)
      refine ⟨its ++ mv, rT.append rk, fun s us ws X l1 l2 => ?_⟩
      obtain ⟨k, e1, e2⟩ := h T D doc pm an cdv ct us its mv ws l1 rT.length.symm hl l2
      refine BindsTo.of_looks fun M => ?_
      rw [e1]
      exact looks_items X lT oT (KwChain.looks X hks e2)
/-- defaults alone -/
theorem kb_dfl (F : FunD K x qual params body scope dvs kws f fd) (hd : dvs ≠ [])
    (h : ∀ (T : Addr) (kV doc pm : Value) (an : Option Addr) (cdv ct : Value) (us its ws : List Value), us.length = n → its.length = dvs.length → ws.length = ks.length →
      ∃ k, bindArgs (PySem.W.fnOf x qual params body scope (.ref T) kV doc pm an cdv ct) ⟨us, ks.zip ws⟩ = seqItems? (.ref T) >>= k ∧ k (some its.toArray) = pure (ps.zip (perm p (us ++ ws ++ its)))) :
    ∃ ds : List Value, Vals dvs ds ∧ KB K fd ps n ks ds p := by
  obtain ⟨oc, od, dV, kV, doc, pm, an, cdv, ct, osl, rfl, lk, hcd, hD, hK⟩ := F.ex
  rcases hD with ⟨e, _⟩ | ⟨_, T, o, its, m, rfl, lT, oT, rT⟩
  · exact absurd e hd
  · refine ⟨its, rT, fun s us ws X l1 l2 => ?_⟩
    obtain ⟨k, e1, e2⟩ := h T kV doc pm an cdv ct us its ws l1 rT.length.symm l2
    refine BindsTo.of_looks fun M => ?_
    rw [e1]
    exact looks_items X lT oT (.of_pure e2)
/-- keyword-only defaults alone -/
theorem kb_kwd (F : FunD K x qual params body scope [] kws f fd) (hk : kws ≠ []) (hms : ∀ q ∈ ms, q ∈ kws)
    (h : ∀ (D : Addr) (doc pm : Value) (an : Option Addr) (cdv ct : Value) (us mv ws : List Value), us.length = n → mv.length = ms.length → ws.length = ks.length →
      KwChain D ((ms.map (·.1)).zip mv) (bindArgs (PySem.W.fnOf x qual params body scope .none (.ref D) doc pm an cdv ct) ⟨us, ks.zip ws⟩) (ps.zip (perm p (us ++ ws ++ mv)))) :
    ∃ ds : List Value, Vals (ms.map (·.2)) ds ∧ KB K fd ps n ks ds p := by
  obtain ⟨oc, od, dV, kV, doc, pm, an, cdv, ct, osl, rfl, lk, hcd, hD, hK⟩ := F.ex
  rcases hD with ⟨_, rfl⟩ | ⟨e, _⟩
  · rcases hK with e | ⟨D, rfl, hq⟩
    · exact absurd e hk
    · obtain ⟨mv, hl, rk, hks⟩ := kwd_vals (ms := ms) fun q hm => hq q (hms q hm)
      exact ⟨mv, rk, fun s us ws X l1 l2 => BindsTo.of_looks fun M => KwChain.looks X hks (h D doc pm an cdv ct us mv ws l1 hl l2)⟩
  · exact absurd rfl e
end
/-! ### a def with defaults, by its body -/
section
variable {P : Program} {w : World} {mg : Str → Option Value} {base : Heap} {T : Tx}
theorem fn_defD {x qual : Str} {st : Stmt} {dvs : List V} {kws : List (Str × V)} {f : Addr} {fd : FuncData} {N ps : List Str} {k n : Nat} {g : SF} (F : FunD T.K x qual (defArgs st) (defBody st) (defScope st) dvs kws f fd) (S : FnScope N ps (defScope st)) (hn : ps.length = n)
    (hbody : ∀ (cdv : Value) (A : Around) (outer : List Env) (s : Shared) (H : Hp) (E : XK), Room k (A.deeper (PyProof.Rows.envOfC qual (defScope st) s.heap.objs.size f cdv)) → Ctx T (cxOf (L2.CX P w) P w T.K mg base N qual (defScope st) f cdv A outer s H E) (fun c d _ H => E c d H) →
      FSs T (cxOf (L2.CX P w) P w T.K mg base N qual (defScope st) f cdv A outer s H E) (fun c d _ H => E c d H) (defBody st) g) : FnOk P w T.K mg base (L2.CX P w) (k + 1) f fd ps (spF T n (mkFn n N.length g)) := by
  refine F.ok S (fun vs H Q E h => ?_) (fun cdv A outer s H vs Q E hr h => ?_)
  · obtain ⟨m, G, ws, _, r, hl, _⟩ := h
    rw [← r.length, hl, hn]
  · obtain ⟨m, G, ws, hG, r, hl, ho⟩ := h
    obtain ⟨t, ht, it⟩ := hbody cdv A outer s H E hr ⟨takes_of rfl rfl rfl rfl, passes_of rfl, rfl, S.nd, hr.units, rfl⟩
    refine ⟨t, ht, it m (ws.map some ++ List.replicate (N.length - n) none) G (L2.start N vs) H _ hG (by rw [← hl]; exact rl_start r) ?_⟩
    simp only [mkFn, if_pos hl] at ho
    cases e : g (ws.map some ++ List.replicate (N.length - n) none) G with
    | nx ls G' => rw [e] at ho; exact fun m' σ' H' k' g' l' => ho m' _ H' k' g' .non
    | rt w G' => rw [e] at ho; exact ho
    | exc w ls G' => rw [e] at ho; exact fun m' σ' c d H' k' g' l' r' => ho m' c d H' k' g' r'
    | bk _ _ => rw [e] at ho; exact False.elim ho
    | ct _ _ => rw [e] at ho; exact False.elim ho
    | stuck => rw [e] at ho; exact False.elim ho
end
end U

/-! super().m(..) in a plain class: a def with the cell __class__, its body told at the place where it runs -/
namespace U
open PySem PySem.Spec PyProof.Rows
open L2

/-- the judgements at the place: the code that runs is the body bd -/
structure PEA (X : Cx) (bd : List Stmt) (e : Expr) (t : TE) : Prop where
  run : ∀ (pins : List (Addr × Obj)) (s : Shared) (σ : L2.St) (H : Hp) (Q : VK), Inv X pins σ H s → t σ H Q → PySem.wpAt (model X.prog X.w) X.A (.func bd X.env) (eval e X.env) (EP X pins σ Q) X.xe s
structure PSsA (X : Cx) (bd : List Stmt) (st : List Stmt) (t : TS) : Prop where
  run : ∀ (pins : List (Addr × Obj)) (s : Shared) (σ : L2.St) (H : Hp) (D : Ends), Inv X pins σ H s → t D σ H → PySem.wpAt (model X.prog X.w) X.A (.func bd X.env) (execs st X.env) (SP X pins D) X.xe s
theorem PE.at_ {X : Cx} {bd : List Stmt} {e : Expr} {t : TE} (h : PE X e t) : PEA X bd e t := ⟨fun pins s σ H Q I q => PySem.wpAt_of_wpAny (h.run pins s σ H Q I q)⟩
theorem PSs.at_ {X : Cx} {bd st : List Stmt} {t : TS} (h : PSs X st t) : PSsA X bd st t := ⟨fun pins s σ H D I q => PySem.wpAt_of_wpAny (h.run pins s σ H D I q)⟩
section
variable {X : Cx} {bd : List Stmt} {e e₂ : Expr} {rest : List Expr} {st : List Stmt} {pos pos' : Pos} {t ta tb : TE} {u : TS}
/-- return e -/
theorem pa_ret (h : PEA X bd e t) : PSsA X bd [.Return (some e) pos] (fun D σ H => t σ H D.rt) := by
  refine ⟨fun pins s σ H D I q => ?_⟩
  refine ks_wpAt_execs_cons (ks_wpAt_Return_some ?_)
  exact ks_wpAt_mono (h.run pins s σ H D.rt I q) (fun v s' ⟨x, H', I', r, q'⟩ => ⟨x, σ, H', I', r, q'⟩) fun _ _ z => z
/-- x = e, then the rest -/
theorem pa_set {i : Nat} {x : Str} (hnd : X.N.Nodup) (hi : X.N[i]? = some x) (hx : Loc X.env.scope x) (h : PEA X bd e t) (hr : PSs X st u) (hs : swapsWith e (some (.Name x pos')) pos.line X.env = pure false)
    (hf : X.fn x = true ∨ X.env.scope.names.lookup x = some .local) : PSsA X bd (.Assign [.Name x pos'] e pos :: st) (fun D σ H => t σ H fun v H1 => u D (σ.set i (some v)) H1) := by
  refine ⟨fun pins s σ H D I q => ?_⟩
  refine ks_wpAt_execs_cons (ks_wpAt_Assign_Name ?_ hs)
  refine ks_wpAt_mono (h.run pins s σ H _ I q) (fun v s1 ⟨y, H1, I1, r1, q1⟩ => ?_) fun _ _ z => z
  exact store_ok I1 hnd hi hx r1 (fun s2 I2 => PySem.wpAt_of_wpAny (hr.run pins s2 _ H1 D I2 q1)) hf
/-- e and .. -/
theorem pa_and (ha : PEA X bd e ta) (hb : PE X (.BoolOp .And (e₂ :: rest) pos) tb) : PEA X bd (.BoolOp .And (e :: e₂ :: rest) pos) (tAndV ta tb) := by
  refine ⟨fun pins s σ H Q I h => ?_⟩
  show PySem.wpAt (model X.prog X.w) X.A (.func bd X.env) (do
    let v ← eval e X.env
    standAt pos
    let c ← holding [v] (truthy v)
    match BoolOp.And, c with
    | .And, false | .Or, true => pure v
    | _, _ => boolOp pos .And (eval e₂ X.env :: evalEach rest X.env)) _ _ s
  refine PySem.wpAt_bind (PySem.wpAt_mono (ha.run pins s σ H _ I h) (fun v s1 ⟨x, H1, I1, r1, c, ex, q1⟩ => ?_) fun _ _ z => z)
  subst ex
  cases r1
  refine PySem.wpAt_of_wpAny (wpAny_bind (wpAny_standAt (wpAny_bind (wpAny_holding (wpAny_truthy_bool ?_)))))
  cases c with
  | true => exact hb.run pins s1 σ H1 Q I1 q1
  | false => exact wpAny_pure ⟨.bl false, H1, I1, rfl, q1⟩
end

/-! ### super().m(e, ..) -/
/-- what the def's own text and record must show: its class's cell at cc, the class at D -/
structure SupAt (X : Cx) (D cc f : Addr) (slf : Str) : Prop where
  ks : X.env.kindOf "super" = some .globalImplicit
  kc : X.env.kindOf "__class__" = some .free
  fu : X.env.func = some f
  cell : X.env.cells.lookup ("__class__" : Str) = some cc
  fd : ∃ oc od fd osl ar, X.K.lookup f = some ⟨oc, od, .func fd, osl⟩ ∧ (fd.params.posonlyargs ++ fd.params.args).head? = some ar ∧ ar.arg = slf
  code : ∃ cda ccl cdd vs ccs file tf, X.env.code = .ref cda ∧ X.K.lookup cda = some ⟨ccl, cdd, .fields vs, ccs⟩ ∧ vs[2]? = some (.str file tf) ∧ ((X.prog.main.file : Str) == file) = true
  ccl : ∃ cl cld csl, X.K.lookup cc = some ⟨cl, cld, .cell (some (.ref D)), csl⟩
  cls : ∃ cdD, W.clsIn X.K D = some cdD
  top : (X.prog.main.scope.names.lookup ("super" : Str)).isSome = false
  mg : X.mg "super" = none
  self : X.N[0]? = some slf
  loc : X.env.scope.names.lookup slf = some .local
/-- the class C of self, the method found behind D -/
structure SupM (K : PySem.W.Frag) (C D : Addr) (m : Str) (g : Addr) : Prop where
  sub : W.mroIn K C (.ref D) = some true
  at_ : W.ks_superIn K C D m = some (some (.ref g))
  ty : W.typeIn K (.ref g) = some (.type "function")
  fi : W.fnIn K g = true
  op : W.nsIn K cStatics "thirdparty.any" = some none
  nm : (m == ("__class__" : Str)) = false
def tSup (C : Addr) (sp : Sp) (dvs : List V) (E : L2.St → XK) (t : TA) : TE := fun σ H Q => ∃ a dx fs, σ[0]? = some (some (.ref a)) ∧ H a = some (.ins C dx fs) ∧ t σ H fun vs H1 => sp (.ref a :: (vs ++ dvs)) H1 Q (E σ)
section
variable {X : Cx} {CX : CXT} {bd : List Stmt} {k : Nat} {C D cc f g : Addr} {slf m : Str} {fd : FuncData} {ps : List Str} {sp : Sp} {dvs : List V} {ds : List Value} {E : L2.St → XK} {e : Expr} {es : List Expr} {t : TA} {p0 p1 apos pos : Pos}
theorem code_fnSD {pins : List (Addr × Obj)} {σ : L2.St} {H : Hp} {s : Shared} {Q : VK} {us : List Value} {vs : List V} (FO : FnOk X.prog X.w X.K X.mg X.base CX k g fd ps sp) (hr : Room k X.A) (hb : Binds X.K fd ps ds) (hd : Vals dvs ds) (hx : PassesAt CX X σ (E σ))
    (I : Inv X pins σ H s) (r : Vals vs us) (h : sp (vs ++ dvs) H Q (E σ)) :
    codeAny (model X.prog X.w) X.A (.call (.ref g) ⟨us, []⟩) (fun r s' => match r with | .ok (.ret v) => EP X pins σ Q v s' | .ok _ => False | .error e => X.xe e s') s := by
  have r2 := r.append hd
  have hl : (us ++ ds).length = ps.length := by
    have e := r2.length
    rw [FO.len _ _ _ _ h] at e
    exact e.symm
  refine codeAny_mono (FO.run X.A X.stack s H ⟨us, []⟩ (us ++ ds) _ Q (E σ) hr I.env0 (hb s us I.kIn hl) r2 h) fun r s' hq => ?_
  cases r with
  | error e => exact hx pins H s e s' I hq
  | ok fl =>
    cases fl with
    | ret u => exact I.after hq
    | next => exact False.elim hq
    | brk => exact False.elim hq
    | cont => exact False.elim hq
theorem pe_sup {pl : Sem Bool} (S : SupAt X D cc f slf) (M : SupM X.K C D m g) (F : FnOk X.prog X.w X.K X.mg X.base CX k g fd ps sp) (hr : Room k X.A) (hb : Binds X.K fd ps ds) (hd : Vals dvs ds) (hx : ∀ σ, PassesAt CX X σ (E σ)) (ha : PA X (e :: es) t)
    (hst : starEach (e :: es) X.env = (false, eval e X.env) :: starEach es X.env := by rfl) (hpl : (backTo pos (starEach es X.env)).any (·.1) = false := by rfl)
    (he : eval (.Call (.Attribute (.Call (.Name "super" p0) [] [] p1) m apos) (e :: es) [] pos) X.env = (do
      let ov ← attributeBase (.Call (.Name "super" p0) [] [] p1) m X.env (eval (.Call (.Name "super" p0) [] [] p1) X.env)
      standAt apos.atName
      let (f, first) ← holding [ov] (getMethod ov m pl)
      callWith pos f first (backTo pos (starEach (e :: es) X.env)) []) := by rfl) :
    PEA X bd (.Call (.Attribute (.Call (.Name "super" p0) [] [] p1) m apos) (e :: es) [] pos) (tSup C sp dvs E t) := by
  refine ⟨fun pins s σ H Q I h => ?_⟩
  obtain ⟨a, dx, fs, hσ, hH, h⟩ := h
  have KX := I.kIn
  obtain ⟨oc, od, fdd, osl, ar, lf, hp, ear⟩ := S.fd
  obtain ⟨cda, ccl, cdd, vs, ccs, file, tf, ecode, lcode, hvs, hfile⟩ := S.code
  obtain ⟨cl, cld, csl, lcell⟩ := S.ccl
  obtain ⟨cdD, hD⟩ := S.cls
  obtain ⟨mb, hb1, hb2⟩ := I.mod.blt
  refine ks_wpAt_MethodCall (pl := pl) ?_ he
  refine ks_wpAt_super_base S.ks S.kc M.nm S.fu (KX _ _ lf) rfl hp ecode (KX _ _ lcode) rfl hvs hfile S.top ?_
  refine W.ks_loadName_global I.ok.kind S.ks (Calls.loadGlobal_builtin (by rw [I.ok.glob]; exact I.mod.glob.keeps I.bk) S.mg (by rw [I.ok.blt]; exact hb1.keeps I.bk) ((hb2 _ (by decide +kernel)).trans (by decide +kernel : bootBuiltins "super" = some (.type "super"))) ⟨rfl, ?_⟩)
  refine wpAny_loadName_free I.ok.kind S.kc S.cell ⟨_, KX _ _ lcell, rfl⟩ ?_
  obtain ⟨mm, hns, hl⟩ := I.loc
  obtain ⟨u, ru, lk⟩ := hl 0 slf _ S.self hσ (.inl S.loc)
  obtain rfl : u = Value.ref a := ru
  have hm : mm slf = some (.ref a) := by
    rcases lk with ⟨_, q⟩ | ⟨q, _⟩
    · exact q
    · have q : X.env.scope.names.lookup slf = some .cell ∨ X.env.scope.names.lookup slf = some .free := q
      rw [S.loc] at q
      rcases q with q | q <;> cases q
  subst ear
  refine wpAny_loadName_local I.ok.kind S.loc hns hm ?_
  obtain ⟨oD, hD1, hD2⟩ : ∃ oD, s.heap.get? D = some oD ∧ oD.data = .cls cdD := by
    unfold W.clsIn at hD
    split at hD
    · rename_i c d cd' sl ho
      cases hD
      exact ⟨_, KX _ _ ho, rfl⟩
    · cases hD
  obtain ⟨ox, odx, J, hpl'⟩ := StX.insC_at I (.inr ⟨dx, fs, hH⟩ : StX.InsC X H a C)
  obtain ⟨hh, gg, dd, tt, os⟩ := s
  refine ks_wpAny_isType_cls hD1 hD2 ⟨rfl, ?_⟩
  refine ks_wpAny_call_super hD1 hD2 J.at_ J.cls (fun c e => ?_) (W.looks_mroIn KX M.sub) (fun h' e1 k1 => ?_)
  · rw [hpl'] at e
    cases e
  have I1 : Inv X ((hh.objs.size, W.ks_superObj D a C) :: pins) σ H ⟨h', gg, dd, tt, os⟩ := ClX.pin_new (t' := tt) I (fun b o z => k1 b o z) (Nat.le_refl _) e1 (fun v z => nomatch z)
  have KX1 := I1.kIn
  obtain ⟨of, hof, hofc⟩ : ∃ of, h'.get? g = some of ∧ of.cls = .type "function" := by
    have ht' : (X.K.lookup g).map (·.cls) = some (.type "function") := M.ty
    cases z : X.K.lookup g with
    | none => rw [z] at ht'; cases ht'
    | some of => rw [z] at ht'; exact ⟨of, KX1 _ _ z, Option.some.inj ht'⟩
  obtain ⟨ox1, odx1, J1, _⟩ := StX.insC_at I1 (.inr ⟨dx, fs, hH⟩ : StX.InsC X H a C)
  cases hcC : W.clsIn X.K C with
  | none =>
    have := M.at_
    unfold W.ks_superIn at this
    rw [hcC] at this
    cases this
  | some cd =>
    have hal := M.at_
    unfold W.ks_superIn at hal
    rw [hcC] at hal
    refine ks_wpAny_getMethod_super e1 (W.looks_opaque KX1 M.op) (l₀ := cd.mro) ?_ rfl KX1 hal hof hofc (W.ks_ne KX1 J1 hcC) M.nm ?_
    · exact fun A Q E s k q => wpAny_bind ((W.looks_clsIn KX1 hcC) A _ E s k (wpAny_pure q))
    have I2 := ClX.met_new (g := g) (C := a) I1
    refine ClX.callwith_cm (C := a) I2 (ClX.base_none I1 (Nat.le_refl _)) M.fi (thn (ha.run pos _ _ σ H _ I2 h) fun us s3 ⟨ws, H2, I3, rv, q2⟩ => ⟨⟨ClX.pin_at I3, I3.kIn⟩, ?_⟩) hst hpl
    have z := wpAny_call (W.method_call (ClX.pin_at I3) (code_fnSD (us := .ref a :: us) (vs := .ref a :: ws) F hr hb hd (hx σ) I3 (.cons rfl rv) q2))
    exact thn z fun _ _ y => ClX.unpinE (ClX.unpinE y)
end

/-! ### a def with the cell __class__, by its body -/
structure SupScope (N P : List Str) (sc : Scope) : Prop where
  kind : sc.kind = .function
  co : sc.isCoroutine = false
  gen : sc.isGenerator = false
  nd : N.Nodup
  pre : N.take P.length = P
  par : ∀ x ∈ P, sc.names.lookup x = some .local
  fr : ∀ y ∈ sc.names, y.2 = .free → y.1 = ("__class__" : Str)
  nc : ∀ y ∈ sc.names, y.2 ≠ .cell
abbrev envS (qual : Str) (scope : Scope) (L f : Addr) (cd : Value) (cc : Addr) : Env := W.ksEnv qual scope L f cd cc
def cxS (CX : CXT) (P : Program) (w : World) (K : PySem.W.Frag) (mg : Str → Option Value) (base : Heap) (N : List Str) (qual : Str) (scope : Scope) (f : Addr) (cd : Value) (cc : Addr) (A : Around) (outer : List Env) (s : Shared) (H : Hp) (E : XK) : Cx where
  prog := P
  w := w
  K := K
  mg := mg
  base := base
  A := A.deeper (envS qual scope s.heap.objs.size f cd cc)
  N := N
  s_0 := s
  H_0 := H
  env := envS qual scope s.heap.objs.size f cd cc
  outer := outer
  stack := envS qual scope s.heap.objs.size f cd cc :: outer
  ex := []
  calm := true
  fn := fun _ => false
  pn := []
  xe := fun e s' => wpAny (model P w) (A.deeper (envS qual scope s.heap.objs.size f cd cc)) (leaving (envS qual scope s.heap.objs.size f cd cc) e) (fun _ s'' => CX outer H s E e s'') (fun e' s'' => CX outer H s E e' s'') s'
theorem lookup_out {α : Type} {x : Str} : ∀ {l : List (Str × α)}, (∀ v, (x, v) ∉ l) → l.lookup x = none
  | [], _ => rfl
  | (n, v) :: r, h => by
    have hn : (x == n) = false := by
      rw [beq_eq_false_iff_ne]
      rintro rfl
      exact h v List.mem_cons_self
    rw [List.lookup_cons, hn]
    exact lookup_out fun w q => h w (List.mem_cons_of_mem _ q)
theorem lookup_app {α : Type} {x : Str} : ∀ {l r : List (Str × α)}, (l ++ r).lookup x = (l.lookup x).or (r.lookup x)
  | [], _ => rfl
  | (n, v) :: l, r => by
    rw [List.cons_append, List.lookup_cons, List.lookup_cons]
    cases x == n with
    | true => rfl
    | false => exact lookup_app
theorem revz_get {x : Str} {v : Value} : ∀ {P : List Str} {vs : List Value} {i : Nat}, P.Nodup → P[i]? = some x → vs[i]? = some v → (P.zip vs).reverse.lookup x = some v
  | [], _, _, _, h, _ => by simp at h
  | _ :: _, [], _, _, _, h => by simp at h
  | p :: P, u :: vs, 0, nd, h1, h2 => by
    simp at h1 h2
    subst h1; subst h2
    rw [List.zip_cons_cons, List.reverse_cons, lookup_app, lookup_out fun v q => (List.nodup_cons.mp nd).1 (List.of_mem_zip (List.mem_reverse.mp q)).1]
    simp
  | p :: P, u :: vs, i + 1, nd, h1, h2 => by
    rw [List.zip_cons_cons, List.reverse_cons, lookup_app, revz_get (i := i) (List.nodup_cons.mp nd).2 (by simpa using h1) (by simpa using h2)]
    rfl
theorem inv_startS {CX : CXT} {P : Program} {w : World} {K : PySem.W.Frag} {mg : Str → Option Value} {base : Heap} {N ps : List Str} {qual : Str} {scope : Scope} {f cc : Addr} {cd : Value} {A : Around} {outer : List Env} {s : Shared} {H : Hp} {E : XK} {us : List Value} {vs : List V} {h₀ : Heap} {tk : Nat} {cl cv : Value} {cld : Option Addr} {csl : Array (Option Value)}
    (S : SupScope N ps scope) (hd : A.handled = none) (e0 : Env0 P w K mg base A outer s H) (hl : vs.length = ps.length) (r : Vals vs us) (lc : K.lookup cc = some ⟨cl, cld, .cell (some cv), csl⟩)
    (hn : h₀.Ns s.heap.objs.size fun x => (ps.zip us).reverse.lookup x) (hk : ∀ b o, s.heap.get? b = some o → h₀.get? b = some o) :
    Inv (cxS CX P w K mg base N qual scope f cd cc A outer s H E) [] (start N vs) H { s with heap := h₀, toks := tk } := by
  have hpl : ps.length ≤ N.length := by have := congrArg List.length S.pre; rw [List.length_take] at this; omega
  have noA : ∀ b : Addr, b ∉ (cxS CX P w K mg base N qual scope f cd cc A outer s H E).ex := fun b z => absurd (show b ∈ ([] : List Addr) from z) (by simp)
  have lk : ∀ {y : Str} {c : Addr}, (cxS CX P w K mg base N qual scope f cd cc A outer s H E).env.cells.lookup y = some c → y = "__class__" ∧ c = cc := fun {y c} h => by
    have h : ([(("__class__" : Str), cc)]).lookup y = some c := h
    rw [List.lookup_cons] at h
    split at h
    · rename_i e
      cases h
      exact ⟨beq_iff_eq.mp e, rfl⟩
    · cases h
  have bcc : base.get? cc = some ⟨cl, cld, .cell (some cv), csl⟩ := e0.mod.kin _ _ lc
  refine ⟨⟨e0.mod, S.kind, rfl, rfl, Nat.le_refl _, fun y z c h1 h2 => ?_, fun y hy => ?_, fun y c h _ => ?_, fun _ => hd, Around.frames_deeper e0.frames, .inr ⟨rfl, rfl⟩, fun b z => absurd z (noA b), e0.bs, e0.bsz, fun b _ _ => noA b, fun b z => absurd z (noA b), e0.funs, e0.frf⟩,
    rfl, e0.bare, Un.kept hk, ⟨_, hn, fun i y v h1 h2 h3 => ?_⟩, fun y c h => ?_, e0.hok.fresh (Nat.le_refl _), fun y c h => ?_, fun p hp => absurd (show p ∈ ([] : List (Addr × Obj)) from hp) (by simp), e0.hok.kept hk, ?_⟩
  · rw [(lk h1).1, (lk h2).1]
  · have hy : scope.names.lookup y = some .cell ∨ scope.names.lookup y = some .free := hy
    rcases hy with hy | hy
    · exact absurd rfl (S.nc _ (PySem.mem_of_lookup hy))
    · have e := S.fr _ (PySem.mem_of_lookup hy) rfl
      have e : y = "__class__" := e
      subst e
      exact ⟨cc, by show ([(("__class__" : Str), cc)]).lookup ("__class__" : Str) = some cc; rw [List.lookup_cons]; rfl⟩
  · exact absurd h (by show ¬ (false = true); simp)
  · have hi : i < vs.length := by
      unfold L2.start at h2
      by_cases hi : i < vs.length
      · exact hi
      · rw [List.getElem?_append_right (by simpa using hi)] at h2
        rw [List.getElem?_replicate] at h2
        split at h2 <;> cases h2
    have ha : vs[i]? = some v := by
      unfold L2.start at h2
      rw [List.getElem?_append_left (by simpa using hi), List.getElem?_map] at h2
      cases e : vs[i]? with
      | none => rw [e] at h2; cases h2
      | some a => rw [e] at h2; cases h2; rfl
    obtain ⟨u, hu, rv⟩ := r.get ha
    have hp : ps[i]? = some y := by
      rw [← S.pre, List.getElem?_take_of_lt (by omega)]; exact h1
    have ndP : ps.Nodup := by rw [← S.pre]; exact S.nd.sublist (List.take_sublist _ _)
    exact ⟨u, rv, .inl ⟨S.par y (List.mem_of_getElem? hp), revz_get ndP hp hu⟩⟩
  · obtain ⟨rfl, rfl⟩ := lk h
    exact ⟨_, _, hk _ _ (e0.bs _ _ bcc).1, rfl⟩
  · obtain ⟨rfl, rfl⟩ := lk h
    exact (e0.bs _ _ bcc).2
  · unfold L2.start
    show _ = N.length
    rw [List.length_append, List.length_map, List.length_replicate]
    omega
theorem fn_ofS {CX : CXT} {P : Program} {w : World} {K : PySem.W.Frag} {mg : Str → Option Value} {base : Heap} {k : Nat} {f cc : Addr} {name qual : Str} {params : Arguments} {body : List Stmt} {scope : Scope} {dV kV doc pm cdv ct oc cl cv : Value} {an od cld : Option Addr}
    {osl csl : Array (Option Value)} {N ps : List Str} {sp : Sp} (lk : K.lookup f = some ⟨oc, od, .func (W.ksFn name qual params body scope dV kV doc pm an cdv ct cc), osl⟩) (lc : K.lookup cc = some ⟨cl, cld, .cell (some cv), csl⟩) (hcd : PySem.W.codeIn K cdv qual = true) (S : SupScope N ps scope)
    (len : ∀ vs H Q E, sp vs H Q E → vs.length = ps.length)
    (hbody : ∀ (A : Around) (outer : List Env) (s : Shared) (H : Hp) (vs : List V) (Q : VK) (E : XK), Room k (A.deeper (envS qual scope s.heap.objs.size f cdv cc)) → sp vs H Q E →
      ∃ t, PSsA (cxS CX P w K mg base N qual scope f cdv cc A outer s H E) body body t ∧ t { nx := fun _ H' => Q .non H', rt := Q } (start N vs) H) :
    FnOk P w K mg base CX (k + 1) f (W.ksFn name qual params body scope dV kV doc pm an cdv ct cc) ps sp := by
  refine ⟨len, fun A outer s H args us vs Q E hr e0 hb r hsp => ?_⟩
  have hl := len _ _ _ _ hsp
  have KX : K.In s.heap := e0.mod.kin.keeps fun b o e => (e0.bs b o e).1
  have lim : s.heap.NoLimit := e0.mod.nolimit.keeps fun b o e => (e0.bs b o e).1
  refine ks_codeAny_call_defAt hr.depth (KX _ _ lk) rfl lim (PySem.W.codeRec_of KX hcd) rfl hb (fun x hx => S.nc x hx) (fun y hy => S.par y.1 (List.of_mem_zip hy).1) (fun h₀ hns hk => ?_) S.co S.gen S.kind
  obtain ⟨t, ht, hq⟩ := hbody A outer s H vs Q E (hr.deeper _) hsp
  have I : Inv (cxS CX P w K mg base N qual scope f cdv cc A outer s H E) [] (start N vs) H { s with heap := h₀, toks := s.toks + (ps.zip us).length } := inv_startS S hr.hd e0 hl r lc hns hk
  refine ks_wpAt_mono (ht.run [] _ (start N vs) H _ I hq) (fun fl s' hs => ?_) fun e s' hs => hs
  have fin : ∀ {σ' : L2.St} {H' : Hp} {v : V} {u : Value}, Inv (cxS CX P w K mg base N qual scope f cdv cc A outer s H E) [] σ' H' s' → RelV v u → Q v H' → CE outer P w H s Q u s' :=
    fun {σ' H' v u} J rv q => ⟨v, H', J.os, J.bare, J.base, J.hok, rv, q⟩
  cases fl with
  | ret u =>
    obtain ⟨v, σ', H', J, rv, q⟩ := hs
    exact fin J rv q
  | next =>
    obtain ⟨σ', H', J, q⟩ := hs
    exact fin (v := V.non) (u := Value.none) J rfl q
  | brk =>
    obtain ⟨_, _, _, q⟩ := hs
    exact False.elim q
  | cont =>
    obtain ⟨_, _, _, q⟩ := hs
    exact False.elim q

/-! ### the layer -/
def FEA (T : Tx) (X : Cx) (W0 : WX) (bd : List Stmt) (e : Expr) (f : EF) : Prop := ∃ t, PEA X bd e t ∧ Imp T W0 t f
def FSsA (T : Tx) (X : Cx) (W0 : WX) (bd st : List Stmt) (g : SF) : Prop := ∃ t, PSsA X bd st t ∧ ImpS T W0 t g
section
variable {T : Tx} {X : Cx} {W0 : WX} {bd : List Stmt} {e e₂ : Expr} {rest : List Expr} {st : List Stmt} {f fb : EF} {g : SF} {pos pos' : Pos}
theorem ffa_ret (h : FEA T X W0 bd e f) : FSsA T X W0 bd [.Return (some e) pos] (sRet f) := by
  obtain ⟨t, h, i⟩ := h
  refine ⟨_, pa_ret h, fun m ls G σ H D hG hL ho => ?_⟩
  exact i.goS hG hL ho fun w G1 m1 v H1 k1 g1 r1 l1 o1 => o1 m1 v H1 (.refl _ _) g1 r1
theorem ffa_set (i : Nat) {x : Str} (c : Ctx T X W0) (h : FEA T X W0 bd e f) (hr : FSs T X W0 st g) (hs : swapsWith e (some (.Name x pos')) pos.line X.env = pure false := by rfl) (hi : X.N[i]? = some x := by rfl) (hx : Loc X.env.scope x := by first | exact Or.inl rfl | exact Or.inr rfl) (hf : X.fn x = true ∨ X.env.scope.names.lookup x = some .local := by first | exact .inl rfl | exact .inr rfl) :
    FSsA T X W0 bd (.Assign [.Name x pos'] e pos :: st) (sSeq (sAsg f (gN i)) g) := by
  obtain ⟨t, h, it⟩ := h
  obtain ⟨u, hr, iu⟩ := hr
  refine ⟨_, pa_set c.nd hi hx h hr hs hf, fun m ls G σ H D hG hL ho => ?_⟩
  simp only [sSeq, sAsg] at ho
  have q : (Res.sbind (f ls G) ls fun w G1 => gN i w ls G1).seq g = Res.sbind (f ls G) ls fun w G1 => g (ls.set i (some w)) G1 := by
    cases f ls G <;> rfl
  rw [q] at ho
  exact it.goS hG hL ho fun w G1 m1 v H1 k1 g1 r1 l1 o1 => iu m1 _ G1 _ H1 D g1 (l1.set i r1) o1
theorem ffa_and (ha : FEA T X W0 bd e f) (hb : FE T X W0 (.BoolOp .And (e₂ :: rest) pos) fb) : FEA T X W0 bd (.BoolOp .And (e :: e₂ :: rest) pos) (eAnd f fb) := by
  obtain ⟨t, h, ia⟩ := ha
  obtain ⟨u, hb, ib⟩ := hb
  refine ⟨_, pa_and h hb, fun m ls G σ H Q hG hL ho => ?_⟩
  refine ia.go hG hL ho fun w G1 m1 v H1 k1 g1 r1 l1 o1 => ?_
  cases r1 with
  | bl b =>
    refine ⟨b, rfl, ?_⟩
    cases b with
    | true => exact ib m1 ls G1 σ H1 Q g1 l1 o1
    | false => exact o1 m1 _ H1 (.refl _ _) g1 (.bl false)
  | _ => exact False.elim o1
end
/-- the method found behind the class at D, as a def of the layer -/
structure SupOk (T : Tx) (P : Program) (w : World) (mg : Str → Option Value) (base : Heap) (k : Nat) (m : Str) (c n : Nat) (D : Addr) (F : Fn) : Prop where
  ok : ∃ (C g : Addr) (fd : FuncData) (ps : List Str), T.ct c = some C ∧ SupM T.K C D m g ∧ FnOk P w T.K mg base (L2.CX P w) k g fd ps (spF T n F) ∧ Binds T.K fd ps []
def eSup (c : Nat) (F : Fn) (fa : EF) : EF := fun ls G => match lget ls 0 with
  | some o => if clsOf o G = some c then (fa ls G).bind fun w G2 => asT w fun ws => F (o :: ws) G2 else .stuck
  | none => .stuck
@[simp] theorem eSup_e (c : Nat) (F : Fn) (fa : EF) (ls : Ls) (G : Gs) : eSup c F fa ls G = match lget ls 0 with
  | some o => if clsOf o G = some c then (fa ls G).bind fun w G2 => asT w fun ws => F (o :: ws) G2 else .stuck
  | none => .stuck := rfl
section
variable {T : Tx} {X : Cx} {W0 : WX} {bd : List Stmt} {e : Expr} {es : List Expr} {fa : EF} {k n c : Nat} {D cc f : Addr} {F : Fn} {m slf : Str} {p0 p1 apos pos : Pos}
theorem ffa_sup {pl : Sem Bool} (cx : Ctx T X W0) (S : SupAt X D cc f slf) (M : SupOk T X.prog X.w X.mg X.base k m c n D F) (hr : Room k X.A) (ha : FA T X W0 (e :: es) fa) (hl : ∀ ls G ws G1, fa ls G = .ok (.tup ws) G1 → ws.length + 1 = n)
    (hst : starEach (e :: es) X.env = (false, eval e X.env) :: starEach es X.env := by rfl) (hpl : (backTo pos (starEach es X.env)).any (·.1) = false := by rfl)
    (he : eval (.Call (.Attribute (.Call (.Name "super" p0) [] [] p1) m apos) (e :: es) [] pos) X.env = (do
      let ov ← attributeBase (.Call (.Name "super" p0) [] [] p1) m X.env (eval (.Call (.Name "super" p0) [] [] p1) X.env)
      standAt apos.atName
      let (f, first) ← holding [ov] (getMethod ov m pl)
      callWith pos f first (backTo pos (starEach (e :: es) X.env)) []) := by rfl) :
    FEA T X W0 bd (.Call (.Attribute (.Call (.Name "super" p0) [] [] p1) m apos) (e :: es) [] pos) (eSup c F fa) := by
  obtain ⟨t, ha, it⟩ := ha
  obtain ⟨C, g, fd, ps, hC, hM, hF, hb⟩ := M.ok
  have hK := cx.hK
  refine ⟨_, pe_sup (pl := pl) (E := WE W0) S (by rw [hK]; exact hM) (by rw [hK]; exact hF) hr (by rw [hK]; exact hb) .nil (passAt cx.tk) ha hst hpl he, fun mm ls G σ H Q hG hL ho => ?_⟩
  rw [eSup_e] at ho
  split at ho
  · rename_i o eo
    split at ho
    · rename_i ec
      obtain ⟨v, hv, rv⟩ := hL.at_ 0 o (lget_some eo)
      obtain ⟨a, C', dx, vs, xs, rfl, hc, h1, h2, r, l⟩ := ins_ok hG rv ec
      rw [hC] at hc
      cases hc
      refine ⟨a, dx, _, hv, h1, ?_⟩
      refine it mm ls G σ H _ hG hL ?_
      cases e2 : fa ls G with
      | stuck => rw [e2] at ho; exact ho
      | exc w G2 => rw [e2] at ho; exact ho
      | ok w2 G2 =>
        rw [e2] at ho
        cases w2 with
        | tup ws =>
          refine ⟨ws, rfl, fun m2 us H2 k2 g2 r2 => ?_⟩
          refine ⟨m2, G2, o :: ws, g2, .cons (rv.keep k2) (by rw [List.append_nil]; exact r2), ?_, Out.wx (Out.keep k2 ho) fun _ _ _ h => h⟩
          rw [List.length_cons]
          exact hl ls G ws G2 e2
        | _ => exact False.elim ho
    · exact False.elim ho
  · exact False.elim ho
end
/-- the record of a def with the cell __class__ -/
structure FunS (K : PySem.W.Frag) (P : Program) (x qual : Str) (st : Stmt) (f cc D : Addr) (fd : FuncData) : Prop where
  ex : ∃ (oc : Value) (od : Option Addr) (dV kV doc pm : Value) (an : Option Addr) (cdv ct : Value) (osl : Array (Option Value)),
    fd = W.ksFn x qual (defArgs st) (defBody st) (defScope st) dV kV doc pm an cdv ct cc ∧ K.lookup f = some ⟨oc, od, .func fd, osl⟩ ∧ PySem.W.codeIn K cdv qual = true ∧
    ∃ cda ccl cdd vs ccs file tf, cdv = .ref cda ∧ K.lookup cda = some ⟨ccl, cdd, .fields vs, ccs⟩ ∧ vs[2]? = some (.str file tf) ∧ ((P.main.file : Str) == file) = true
  cell : ∃ cl cld csl, K.lookup cc = some ⟨cl, cld, .cell (some (.ref D)), csl⟩
section
variable {P : Program} {w : World} {mg : Str → Option Value} {base : Heap} {T : Tx}
theorem fn_defS {x qual : Str} {st : Stmt} {f cc D : Addr} {fd : FuncData} {N ps : List Str} {k n : Nat} {g : SF} {slf : Str} {ar : Arg} (F : FunS T.K P x qual st f cc D fd) (S : SupScope N ps (defScope st)) (hn : ps.length = n)
    (hcls : ∃ cdD, W.clsIn T.K D = some cdD) (htop : (P.main.scope.names.lookup ("super" : Str)).isSome = false) (hmg : mg "super" = none)
    (hks : (defScope st).names.lookup ("super" : Str) = some .globalImplicit) (hkc : (defScope st).names.lookup ("__class__" : Str) = some .free) (hp : ((defArgs st).posonlyargs ++ (defArgs st).args).head? = some ar) (har : ar.arg = slf) (hN : N[0]? = some slf) (hself : (defScope st).names.lookup slf = some .local)
    (hbody : ∀ (cdv : Value) (A : Around) (outer : List Env) (s : Shared) (H : Hp) (E : XK), Room k (A.deeper (envS qual (defScope st) s.heap.objs.size f cdv cc)) → Ctx T (cxS (L2.CX P w) P w T.K mg base N qual (defScope st) f cdv cc A outer s H E) (fun c d _ H => E c d H) → SupAt (cxS (L2.CX P w) P w T.K mg base N qual (defScope st) f cdv cc A outer s H E) D cc f slf →
      FSsA T (cxS (L2.CX P w) P w T.K mg base N qual (defScope st) f cdv cc A outer s H E) (fun c d _ H => E c d H) (defBody st) (defBody st) g) : FnOk P w T.K mg base (L2.CX P w) (k + 1) f fd ps (spF T n (mkFn n N.length g)) := by
  obtain ⟨oc, od, dV, kV, doc, pm, an, cdv, ct, osl, rfl, lk, hcd, hcode⟩ := F.ex
  obtain ⟨cl, cld, csl, lc⟩ := F.cell
  refine fn_ofS lk lc hcd S (fun vs H Q E h => ?_) (fun A outer s H vs Q E hr h => ?_)
  · obtain ⟨m, G, ws, _, r, hl, _⟩ := h
    rw [← r.length, hl, hn]
  · obtain ⟨m, G, ws, hG, r, hl, ho⟩ := h
    obtain ⟨t, ht, it⟩ := hbody cdv A outer s H E hr ⟨takes_of rfl rfl rfl rfl, passes_of rfl, rfl, S.nd, hr.units, rfl⟩
      ⟨hks, hkc, rfl, by show ([(("__class__" : Str), cc)]).lookup ("__class__" : Str) = some cc; rw [List.lookup_cons]; rfl, ⟨oc, od, _, osl, ar, lk, hp, har⟩, hcode, ⟨cl, cld, csl, lc⟩, hcls, htop, hmg, hN, hself⟩
    refine ⟨t, ht, it m (ws.map some ++ List.replicate (N.length - n) none) G (L2.start N vs) H _ hG (by rw [← hl]; exact rl_start r) ?_⟩
    simp only [mkFn, if_pos hl] at ho
    cases e : g (ws.map some ++ List.replicate (N.length - n) none) G with
    | nx ls G' => rw [e] at ho; exact fun m' σ' H' k' g' l' => ho m' _ H' k' g' .non
    | rt w G' => rw [e] at ho; exact ho
    | exc w ls G' => rw [e] at ho; exact fun m' σ' c d H' k' g' l' r' => ho m' c d H' k' g' r'
    | bk _ _ => rw [e] at ho; exact False.elim ho
    | ct _ _ => rw [e] at ho; exact False.elim ho
    | stuck => rw [e] at ho; exact False.elim ho
end
end U

/-! dicts: keys numbers and texts, or tuples of them that begin with a number -/
namespace U
open PySem PySem.Spec PyProof.Rows
open L2

/-! ### keys, tables -/
def fEq : W → W → Bool
  | .int i, .int j => i == j
  | .str s, .str t => s == t
  | _, _ => false
def fEqs : List W → List W → Bool
  | [], [] => true
  | a :: r, b :: q => fEq a b && fEqs r q
  | _, _ => false
def kEq : W → W → Bool
  | .tup a, .tup b => fEqs a b
  | a, b => fEq a b
@[simp] theorem fEq_i (i j : Int) : fEq (.int i) (.int j) = (i == j) := rfl
@[simp] theorem fEq_s (i j : List Nat) : fEq (.str i) (.str j) = (i == j) := rfl
@[simp] theorem fEqs_n : fEqs [] [] = true := rfl
@[simp] theorem fEqs_c (a b : W) (r q : List W) : fEqs (a :: r) (b :: q) = (fEq a b && fEqs r q) := rfl
@[simp] theorem fEqs_nc (b : W) (q : List W) : fEqs [] (b :: q) = false := rfl
@[simp] theorem fEqs_cn (b : W) (q : List W) : fEqs (b :: q) [] = false := rfl
@[simp] theorem kEq_i (i j : Int) : kEq (.int i) (.int j) = (i == j) := rfl
@[simp] theorem kEq_s (i j : List Nat) : kEq (.str i) (.str j) = (i == j) := rfl
@[simp] theorem kEq_t (a b : List W) : kEq (.tup a) (.tup b) = fEqs a b := rfl
def fKey : W → Option Key
  | .int i => some (.inl i)
  | .str s => some (.inr ⟨s.toArray⟩)
  | _ => none
def fKeys : List W → Option (List Key)
  | [] => some []
  | w :: r => match fKey w, fKeys r with
    | some k, some ks => some (k :: ks)
    | _, _ => none
def tKey : W → Option (List Key)
  | .tup (.int i :: r) => (fKeys r).map fun ks => .inl i :: ks
  | _ => none
def isFK : W → Bool
  | .int _ => true
  | .str _ => true
  | _ => false
def isTK : W → Bool
  | .tup (.int _ :: r) => r.all isFK
  | _ => false
@[simp] theorem isFK_i (i : Int) : isFK (.int i) = true := rfl
@[simp] theorem isFK_s (i : List Nat) : isFK (.str i) = true := rfl
@[simp] theorem isFK_t (i : List W) : isFK (.tup i) = false := rfl
@[simp] theorem isTK_i (i : Int) : isTK (.int i) = false := rfl
@[simp] theorem isTK_s (i : List Nat) : isTK (.str i) = false := rfl
@[simp] theorem isTK_t (i : Int) (r : List W) : isTK (.tup (.int i :: r)) = r.all isFK := rfl
@[simp] theorem dFlat_n : dFlat [] = true := rfl
@[simp] theorem dFlat_i (i : Int) (v : W) (r : List W) : dFlat (.tup [.int i, v] :: r) = true := rfl
@[simp] theorem dFlat_s (i : List Nat) (v : W) (r : List W) : dFlat (.tup [.str i, v] :: r) = true := rfl
@[simp] theorem dFlat_t (i : List W) (v : W) (r : List W) : dFlat (.tup [.tup i, v] :: r) = false := rfl
theorem fKey_of {w : W} (h : isFK w = true) : ∃ k, fKey w = some k := by
  cases w <;> first | exact ⟨_, rfl⟩ | cases h
theorem fKeys_of : ∀ {r : List W}, r.all isFK = true → ∃ ks, fKeys r = some ks
  | [], _ => ⟨[], rfl⟩
  | w :: r, h => by
    rw [List.all_cons, Bool.and_eq_true] at h
    obtain ⟨k, e1⟩ := fKey_of h.1
    obtain ⟨ks, e2⟩ := fKeys_of h.2
    exact ⟨k :: ks, by simp only [fKeys, e1, e2]⟩
theorem tKey_of {w : W} (h : isTK w = true) : ∃ i r ks, w = .tup (.int i :: r) ∧ fKeys r = some ks ∧ tKey w = some (.inl i :: ks) := by
  unfold isTK at h
  split at h
  · rename_i i r
    obtain ⟨ks, e⟩ := fKeys_of h
    exact ⟨i, r, ks, rfl, e, by simp only [tKey, e]; rfl⟩
  · cases h
/-- what the table holds at the key -/
def dGet : List W → W → Option W
  | .tup [k, v] :: r, x => if kEq k x then some v else dGet r x
  | _ :: r, x => dGet r x
  | [], _ => none
@[simp] theorem dGet_n (x : W) : dGet [] x = none := rfl
@[simp] theorem dGet_c (k v : W) (r : List W) (x : W) : dGet (.tup [k, v] :: r) x = if kEq k x then some v else dGet r x := rfl
def rplD (k v : W) : W → W
  | .tup [j, u] => if kEq j k then .tup [j, v] else .tup [j, u]
  | e => e
@[simp] theorem rplD_c (k v j u : W) : rplD k v (.tup [j, u]) = if kEq j k then .tup [j, v] else .tup [j, u] := rfl
def dHas (es : List W) (k : W) : Bool := (dGet es k).isSome
def dPut (es : List W) (k v : W) : List W := if dHas es k then es.map (rplD k v) else es ++ [.tup [k, v]]
/-- the key may be asked of the table -/
def dkOk (k : W) (es : List W) : Bool := (isFK k && dFlat es) || (isTK k && (es.isEmpty || !dFlat es))
def dKeys : List W → List W
  | .tup [k, _] :: r => k :: dKeys r
  | _ :: r => dKeys r
  | [] => []
@[simp] theorem dKeys_n : dKeys [] = [] := rfl
@[simp] theorem dKeys_c (k v : W) (r : List W) : dKeys (.tup [k, v] :: r) = k :: dKeys r := rfl

section
variable {T : Tx} {m : Mm} {H : Hp}
theorem fEq_k {a : W} {k : Key} (h : fKey a = some k) (j : Key) : fEq (kW j) a = decide (j = k) := by
  cases a with
  | int i =>
    cases h
    cases j with
    | inl j =>
      show (j == i) = decide (Sum.inl j = Sum.inl i)
      rw [Bool.eq_iff_iff]; simp
    | inr s =>
      show false = decide (Sum.inr s = Sum.inl i)
      simp
  | str i =>
    cases h
    cases j with
    | inl j =>
      show false = decide (Sum.inl j = Sum.inr _)
      simp
    | inr s =>
      show (s.cps.toList == i) = decide (Sum.inr s = Sum.inr _)
      rw [Bool.eq_iff_iff]
      simp only [beq_iff_eq, decide_eq_true_eq, Sum.inr.injEq]
      constructor
      · intro e; subst e; simp
      · intro e; subst e; simp
  | _ => cases h
theorem fEqs_k : ∀ {r : List W} {ks : List Key}, fKeys r = some ks → ∀ js : List Key, fEqs (js.map kW) r = decide (js = ks)
  | [], _, h, [] => by cases h; rfl
  | [], _, h, _ :: _ => by cases h; rfl
  | w :: r, ks, h, js => by
    simp only [fKeys] at h
    split at h
    · rename_i k ks' e1 e2
      cases h
      cases js with
      | nil => rfl
      | cons j js =>
        rw [List.map_cons, fEqs_c, fEq_k e1, fEqs_k e2]
        rw [Bool.eq_iff_iff]; simp
    · cases h
theorem kEq_f {a : W} {k : Key} (h : fKey a = some k) (j : Key) : kEq (kW j) a = decide (j = k) := by
  rw [← fEq_k h]
  cases j <;> cases a <;> first | rfl | cases h
theorem kEq_tk {a : W} {ks : List Key} (h : tKey a = some ks) (js : List Key) : kEq (.tup (js.map kW)) a = decide (js = ks) := by
  unfold tKey at h
  split at h
  · rename_i i r
    cases e : fKeys r with
    | none => rw [e] at h; cases h
    | some ks' =>
      rw [e] at h
      cases h
      rw [kEq_t]
      refine fEqs_k (r := .int i :: r) ?_ js
      simp only [fKeys, fKey, e]
  · cases h
theorem RWe.cI {k : Key} {w : W} {v : V} {ws : List W} {vs : List (Key × V)} (r : RW T m H w v) (t : RWe T m H ws vs) : RWe T m H (.tup [kW k, w] :: ws) ((k, v) :: vs) := by
  cases k with
  | inl i => exact .consI r t
  | inr s => exact .consS (k := s.cps.toList) r t
/-- how a table of flat keys begins -/
theorem RWe.inv {e : W} {ws : List W} {kvs : List (Key × V)} (r : RWe T m H (e :: ws) kvs) : ∃ k w v vs, e = .tup [kW k, w] ∧ kvs = (k, v) :: vs ∧ RW T m H w v ∧ RWe T m H ws vs := by
  cases r with
  | consI r t => exact ⟨_, _, _, _, rfl, rfl, r, t⟩
  | @consS s _ _ _ _ r t => exact ⟨.inr ⟨s.toArray⟩, _, _, _, by show _ = W.tup [.str s.toArray.toList, _]; simp, rfl, r, t⟩
theorem RWt.inv {e : W} {ws : List W} {kvs : List (List Key × V)} (r : RWt T m H (e :: ws) kvs) : ∃ k w v vs, e = .tup [.tup (k.map kW), w] ∧ kvs = (k, v) :: vs ∧ RW T m H w v ∧ RWt T m H ws vs := by
  cases r with
  | cons r t => exact ⟨_, _, _, _, rfl, rfl, r, t⟩
theorem RWe.get {a : W} {k : Key} (hk : fKey a = some k) : ∀ {es : List W} {kvs : List (Key × V)}, RWe T m H es kvs → match dGet es a with
    | some x => ∃ y, valV kvs k = some y ∧ RW T m H x y
    | none => valV kvs k = none
  | [], _, r => by cases r; rfl
  | e :: ws, kvs, r => by
    obtain ⟨j, w, v, vs, rfl, rfl, r1, r2⟩ := r.inv
    rw [dGet_c, kEq_f hk]
    by_cases q : j = k
    · rw [if_pos (by simpa using q)]
      exact ⟨v, valV_pos q, r1⟩
    · rw [if_neg (by simpa using q), valV_neg q]
      exact RWe.get hk r2
theorem RWt.get {a : W} {k : List Key} (hk : tKey a = some k) : ∀ {es : List W} {kvs : List (List Key × V)}, RWt T m H es kvs → match dGet es a with
    | some x => ∃ y, valV kvs k = some y ∧ RW T m H x y
    | none => valV kvs k = none
  | [], _, r => by cases r; rfl
  | e :: ws, kvs, r => by
    obtain ⟨j, w, v, vs, rfl, rfl, r1, r2⟩ := r.inv
    rw [dGet_c, kEq_tk hk]
    by_cases q : j = k
    · rw [if_pos (by simpa using q)]
      exact ⟨v, valV_pos q, r1⟩
    · rw [if_neg (by simpa using q), valV_neg q]
      exact RWt.get hk r2
theorem RWe.has {a : W} {k : Key} (hk : fKey a = some k) {es : List W} {kvs : List (Key × V)} (r : RWe T m H es kvs) : (valV kvs k).isSome = dHas es a := by
  have q := r.get hk
  unfold dHas
  cases e : dGet es a with
  | none => rw [e] at q; rw [show valV kvs k = none from q]; rfl
  | some x => rw [e] at q; obtain ⟨y, q, _⟩ := q; rw [q]; rfl
theorem RWt.has {a : W} {k : List Key} (hk : tKey a = some k) {es : List W} {kvs : List (List Key × V)} (r : RWt T m H es kvs) : (valV kvs k).isSome = dHas es a := by
  have q := r.get hk
  unfold dHas
  cases e : dGet es a with
  | none => rw [e] at q; rw [show valV kvs k = none from q]; rfl
  | some x => rw [e] at q; obtain ⟨y, q, _⟩ := q; rw [q]; rfl
theorem RWe.map {a x : W} {k : Key} {y : V} (hk : fKey a = some k) (rx : RW T m H x y) : ∀ {es : List W} {kvs : List (Key × V)}, RWe T m H es kvs → RWe T m H (es.map (rplD a x)) (kvs.map fun kv => if kv.1 = k then (kv.1, y) else kv)
  | [], _, r => by cases r; exact .nil
  | e :: ws, kvs, r => by
    obtain ⟨j, w, v, vs, rfl, rfl, r1, r2⟩ := r.inv
    rw [List.map_cons, List.map_cons, rplD_c, kEq_f hk]
    by_cases q : j = k
    · rw [if_pos (by simpa using q), if_pos q]
      exact .cI rx (RWe.map hk rx r2)
    · rw [if_neg (by simpa using q), if_neg q]
      exact .cI r1 (RWe.map hk rx r2)
theorem RWt.map {a x : W} {k : List Key} {y : V} (hk : tKey a = some k) (rx : RW T m H x y) : ∀ {es : List W} {kvs : List (List Key × V)}, RWt T m H es kvs → RWt T m H (es.map (rplD a x)) (kvs.map fun kv => if kv.1 = k then (kv.1, y) else kv)
  | [], _, r => by cases r; exact .nil
  | e :: ws, kvs, r => by
    obtain ⟨j, w, v, vs, rfl, rfl, r1, r2⟩ := r.inv
    rw [List.map_cons, List.map_cons, rplD_c, kEq_tk hk]
    by_cases q : j = k
    · rw [if_pos (by simpa using q), if_pos q]
      exact .cons rx (RWt.map hk rx r2)
    · rw [if_neg (by simpa using q), if_neg q]
      exact .cons r1 (RWt.map hk rx r2)
theorem RWe.app : ∀ {es us : List W} {kvs ts : List (Key × V)}, RWe T m H es kvs → RWe T m H us ts → RWe T m H (es ++ us) (kvs ++ ts)
  | [], _, _, _, r, s => by cases r; exact s
  | e :: ws, us, kvs, ts, r, s => by
    obtain ⟨j, w, v, vs, rfl, rfl, r1, r2⟩ := r.inv
    exact .cI r1 (RWe.app r2 s)
theorem RWt.app : ∀ {es us : List W} {kvs ts : List (List Key × V)}, RWt T m H es kvs → RWt T m H us ts → RWt T m H (es ++ us) (kvs ++ ts)
  | [], _, _, _, r, s => by cases r; exact s
  | e :: ws, us, kvs, ts, r, s => by
    obtain ⟨j, w, v, vs, rfl, rfl, r1, r2⟩ := r.inv
    exact .cons r1 (RWt.app r2 s)
theorem fKey_kW {a : W} {k : Key} (h : fKey a = some k) : a = kW k := by
  cases a with
  | int i => cases h; rfl
  | str s => cases h; show W.str s = W.str s.toArray.toList; simp
  | _ => cases h
theorem fKeys_kW : ∀ {r : List W} {ks : List Key}, fKeys r = some ks → r = ks.map kW
  | [], _, h => by cases h; rfl
  | w :: r, ks, h => by
    simp only [fKeys] at h
    split at h
    · rename_i k ks' e1 e2
      cases h
      rw [List.map_cons, ← fKey_kW e1, ← fKeys_kW e2]
    · cases h
theorem tKey_kW {a : W} {ks : List Key} (h : tKey a = some ks) : a = .tup (ks.map kW) := by
  unfold tKey at h
  split at h
  · rename_i i r
    cases e : fKeys r with
    | none => rw [e] at h; cases h
    | some ks' =>
      rw [e] at h
      cases h
      rw [fKeys_kW e]
      rfl
  · cases h
theorem RWe.put {a x : W} {k : Key} {y : V} (hk : fKey a = some k) (rx : RW T m H x y) {es : List W} {kvs : List (Key × V)} (r : RWe T m H es kvs) : RWe T m H (dPut es a x) (putK kvs k y) := by
  unfold dPut putK
  rw [valV_any, r.has hk]
  split
  · exact r.map hk rx
  · refine r.app ?_
    rw [fKey_kW hk]
    exact .cI rx .nil
theorem RWt.put {a x : W} {k : List Key} {y : V} (hk : tKey a = some k) (rx : RW T m H x y) {es : List W} {kvs : List (List Key × V)} (r : RWt T m H es kvs) : RWt T m H (dPut es a x) (putK kvs k y) := by
  unfold dPut putK
  rw [valV_any, r.has hk]
  split
  · exact r.map hk rx
  · refine r.app ?_
    rw [tKey_kW hk]
    exact .cons rx .nil
theorem RWe.length : ∀ {es : List W} {kvs : List (Key × V)}, RWe T m H es kvs → es.length = kvs.length
  | [], _, r => by cases r; rfl
  | e :: ws, kvs, r => by
    obtain ⟨j, w, v, vs, rfl, rfl, r1, r2⟩ := r.inv
    rw [List.length_cons, List.length_cons, RWe.length r2]
theorem RWt.length : ∀ {es : List W} {kvs : List (List Key × V)}, RWt T m H es kvs → es.length = kvs.length
  | [], _, r => by cases r; rfl
  | e :: ws, kvs, r => by
    obtain ⟨j, w, v, vs, rfl, rfl, r1, r2⟩ := r.inv
    rw [List.length_cons, List.length_cons, RWt.length r2]
theorem RWe.flat : ∀ {es : List W} {kvs : List (Key × V)}, RWe T m H es kvs → dFlat es = true
  | [], _, _ => rfl
  | e :: ws, kvs, r => by
    obtain ⟨j, w, v, vs, rfl, rfl, r1, r2⟩ := r.inv
    cases j <;> rfl
theorem fKey_ok {a : W} {x : V} {k : Key} (r : RW T m H a x) (h : fKey a = some k) : x = kV k := by
  cases r with
  | int i => cases h; rfl
  | str s => cases h; rfl
  | _ => cases h
theorem fKeys_ok : ∀ {ws : List W} {vs : List V} {ks : List Key}, RWs T m H ws vs → fKeys ws = some ks → vs = ks.map kV
  | _, _, _, .nil, h => by cases h; rfl
  | w :: ws, _, ks, .cons r t, h => by
    simp only [fKeys] at h
    split at h
    · rename_i k ks' e1 e2
      cases h
      rw [List.map_cons, fKey_ok r e1, fKeys_ok t e2]
    · cases h
/-- a tuple that is a key stands tracked -/
theorem tKey_ok {a : W} {x : V} {k : List Key} (r : RW T m H a x) (h : tKey a = some k) : ∃ b, x = .ref b ∧ H b = some (.tup (k.map kV)) ∧ m.fr b := by
  cases r with
  | @tup ws vs b r f =>
    unfold tKey at h
    split at h
    · rename_i i rr ew
      cases ew
      cases e : fKeys rr with
      | none => rw [e] at h; cases h
      | some ks' =>
        rw [e] at h
        cases h
        have ev := fKeys_ok r (ks := .inl i :: ks') (by simp only [fKeys, fKey, e])
        subst ev
        rcases f with ⟨n, f⟩ | ⟨_, f⟩
        · exact ⟨b, rfl, f, n⟩
        · cases f
    · cases h
  | _ => cases h
end

/-! ### the table a value is -/
def dOf : W → Gs → Option (List W)
  | .dic es, _ => some es
  | .ref i, G => (match G[i]? with
    | some (.dic es) => some es
    | _ => none)
  | _, _ => none
@[simp] theorem dOf_e1 : dOf (.dic es) G = some es := rfl
@[simp] theorem dOf_e2 : dOf (.ref i) G = (match G[i]? with
    | some (.dic es) => some es
    | _ => none) := rfl
@[simp] theorem dOf_e3 : dOf .non G = none := rfl
@[simp] theorem dOf_e4 : dOf (.bl b) G = none := rfl
@[simp] theorem dOf_e5 : dOf (.int b) G = none := rfl
@[simp] theorem dOf_e6 : dOf (.str b) G = none := rfl
@[simp] theorem dOf_e7 : dOf (.tup b) G = none := rfl
@[simp] theorem dOf_e8 : dOf (.lst b) G = none := rfl
@[simp] theorem dOf_e9 : dOf (.fz b) G = none := rfl
@[simp] theorem dOf_e10 : dOf (.obj b c) G = none := rfl
/-- the dict behind a value -/
theorem dOf_ok {T : Tx} {m : Mm} {G : Gs} {H : Hp} {w : W} {v : V} {es : List W} (hG : RG T m G H) (r : RW T m H w v) (e : dOf w G = some es) :
    ∃ a, v = .ref a ∧ ((∃ kvs, Rd H a (.dK kvs) ∧ RWe T m H es kvs) ∨ ∃ kvs, Rd H a (.dT kvs) ∧ es ≠ [] ∧ RWt T m H es kvs) := by
  cases r with
  | dic r n f => cases e; exact ⟨_, rfl, .inl ⟨_, f, r⟩⟩
  | dit r z n f => cases e; exact ⟨_, rfl, .inr ⟨_, f, z, r⟩⟩
  | @ref i a h =>
    simp only [dOf_e2] at e
    split at e
    · rename_i es' hg
      cases e
      rcases hG.ob i _ a hg h with ⟨kvs, e1, r⟩ | ⟨kvs, e1, z, r⟩
      · exact ⟨a, rfl, .inl ⟨kvs, .inl e1, r⟩⟩
      · exact ⟨a, rfl, .inr ⟨kvs, .inl e1, z, r⟩⟩
    · cases e
  | _ => cases e

/-- what the dict holds at a key; a tuple may be asked of an empty one -/
def DGetU (H : Hp) (a : Addr) (y : V) (r : Option V) : Prop := DGet H a y r ∨ (Rd H a (.dK []) ∧ r = none ∧ ∃ (b : Addr) (ks : List Key), y = .ref b ∧ H b = some (.tup (ks.map kV)))
section
variable {X : Cx} {pins : List (Addr × Obj)} {σ : L2.St} {H : Hp} {s : Shared} {a : Addr} {y : V} {u : Value} {o : Option V} {A : Around} {E : Value → Shared → Prop}
theorem dk_asT {P : Program} {w : World} {h : Heap} (ok : HOk P w H h) (e : Rd H a (.dK [])) : (a == sysModules) = false ∧ h.DictOfH (tupleKind (mixKind P w)) a [] := by
  obtain ⟨z, hd, vs, rel, dd⟩ := dk_rd ok e
  cases rel
  obtain ⟨ob, es, ep, h1, h2, h3, h4, h5, h6⟩ := dd
  refine ⟨hd, ob, es, ep, h1, h2, h3, ?_, fun x hx => (nomatch hx), List.nodup_nil⟩
  cases hh : es.toList with
  | nil => rfl
  | cons e r => rw [hh] at h5; first | exact False.elim h5 | cases h5
theorem d_inE {b : Addr} {ks : List Key} {Q : Value → Shared → Prop} (hu : A.units + 1 < cLine) (I : Inv X pins σ H s) (e : Rd H a (.dK [])) (eb : H b = some (.tup (ks.map kV))) (h : ∀ s', Inv X pins σ H s' → Q (.bool false) s') :
    wpAny (model X.prog X.w) A (compareOp .In (.ref b) (.ref a)) Q E s := by
  obtain ⟨hd, dd⟩ := dk_asT I.hok e
  exact wpAny_in_heap (tupleKind_room_in1 hu) (key_of I.hok eb) hd dd (h _ (I.tok _))
theorem d_ninE {b : Addr} {ks : List Key} {Q : Value → Shared → Prop} (hu : A.units + 1 < cLine) (I : Inv X pins σ H s) (e : Rd H a (.dK [])) (eb : H b = some (.tup (ks.map kV))) (h : ∀ s', Inv X pins σ H s' → Q (.bool true) s') :
    wpAny (model X.prog X.w) A (compareOp .NotIn (.ref b) (.ref a)) Q E s := by
  obtain ⟨hd, dd⟩ := dk_asT I.hok e
  exact wpAny_notIn_heap (tupleKind_room_in1 hu) (key_of I.hok eb) hd dd (h _ (I.tok _))
end
def rInD (neg : Bool) : R2 := fun x y H Q => ∃ a o, y = .ref a ∧ DGetU H a x o ∧ Q (.bl (if neg then !o.isSome else o.isSome)) H
theorem op_inD {X : Cx} (hu : X.A.units + 1 < cLine) : OpR X (compareOp .In) (rInD false) := by
  intro pins s σ H x y v u Q I rx ry h
  obtain ⟨a, o, rfl, g, q⟩ := h
  obtain rfl : u = Value.ref a := ry
  rcases g with g | ⟨e, rfl, b, ks, rfl, eb⟩
  · exact d_in hu I g rx fun s' I' => ⟨.bl o.isSome, H, I', rfl, q⟩
  · obtain rfl : v = Value.ref b := rx
    exact d_inE hu I e eb fun s' I' => ⟨.bl false, H, I', rfl, q⟩
theorem op_ninD {X : Cx} (hu : X.A.units + 1 < cLine) : OpR X (compareOp .NotIn) (rInD true) := by
  intro pins s σ H x y v u Q I rx ry h
  obtain ⟨a, o, rfl, g, q⟩ := h
  obtain rfl : u = Value.ref a := ry
  rcases g with g | ⟨e, rfl, b, ks, rfl, eb⟩
  · exact d_notIn hu I g rx fun s' I' => ⟨.bl (!o.isSome), H, I', rfl, q⟩
  · obtain rfl : v = Value.ref b := rx
    exact d_ninE hu I e eb fun s' I' => ⟨.bl true, H, I', rfl, q⟩
/-- a key asked -/
theorem dget_ok {T : Tx} {m : Mm} {G : Gs} {H : Hp} {wk wd : W} {x y : V} {es : List W} (hG : RG T m G H) (rk : RW T m H wk x) (rd : RW T m H wd y) (e : dOf wd G = some es) (ok : dkOk wk es = true) :
    ∃ a o, y = .ref a ∧ DGetU H a x o ∧ (match dGet es wk with
      | some w => ∃ z, o = some z ∧ RW T m H w z ∧ DGet H a x (some z)
      | none => o = none) := by
  obtain ⟨a, rfl, q⟩ := dOf_ok hG rd e
  unfold dkOk at ok
  rw [Bool.or_eq_true, Bool.and_eq_true, Bool.and_eq_true] at ok
  rcases q with ⟨kvs, hd, r⟩ | ⟨kvs, hd, z, r⟩
  · rcases ok with ⟨fk, _⟩ | ⟨tk, he⟩
    · obtain ⟨k, ek⟩ := fKey_of fk
      have ex := fKey_ok rk ek
      subst ex
      refine ⟨a, valV kvs k, rfl, .inl (.inl ⟨kvs, k, hd, rfl, rfl⟩), ?_⟩
      have q := r.get ek
      cases eg : dGet es wk with
      | none => rw [eg] at q; exact q
      | some w => rw [eg] at q; obtain ⟨z, q1, q2⟩ := q; exact ⟨z, q1, q2, .inl ⟨kvs, k, hd, rfl, q1.symm⟩⟩
    · rw [r.flat] at he
      have he : es = [] := by simpa using he
      subst he
      cases r
      obtain ⟨i, rr, ks, ew, ekr, ek⟩ := tKey_of tk
      obtain ⟨b, rfl, hb, _⟩ := tKey_ok rk ek
      exact ⟨a, none, rfl, .inr ⟨hd, rfl, b, _, rfl, hb⟩, rfl⟩
  · rcases ok with ⟨_, fl⟩ | ⟨tk, _⟩
    · rw [r.nflat z] at fl; cases fl
    · obtain ⟨i, rr, ks, ew, ekr, ek⟩ := tKey_of tk
      obtain ⟨b, rfl, hb, _⟩ := tKey_ok rk ek
      refine ⟨a, valV kvs (.inl i :: ks), rfl, .inl (.inr ⟨kvs, _, b, hd, rfl, hb, rfl⟩), ?_⟩
      have q := r.get ek
      cases eg : dGet es wk with
      | none => rw [eg] at q; exact q
      | some w => rw [eg] at q; obtain ⟨z, q1, q2⟩ := q; exact ⟨z, q1, q2, .inr ⟨kvs, _, b, hd, rfl, hb, q1.symm⟩⟩

/-! ### in -/
/-- a list that changes, as it stands -/
def lOf : W → Gs → W
  | .ref i, G => (match G[i]? with
    | some (.lst xs) => .lst xs
    | _ => .ref i)
  | w, _ => w
def inD : OF := fun a b G => match dOf b G with
  | some es => if dkOk a es then .ok (.bl (dHas es a)) G else .stuck
  | none => inW a b G
def ninD : OF := fun a b G => match dOf b G with
  | some es => if dkOk a es then .ok (.bl (!dHas es a)) G else .stuck
  | none => ninW a b G
@[simp] theorem inD_e (a b : W) (G : Gs) : inD a b G = match dOf b G with
  | some es => if dkOk a es then .ok (.bl (dHas es a)) G else .stuck
  | none => inW a b G := rfl
@[simp] theorem ninD_e (a b : W) (G : Gs) : ninD a b G = match dOf b G with
  | some es => if dkOk a es then .ok (.bl (!dHas es a)) G else .stuck
  | none => ninW a b G := rfl
def rInX (K : PySem.W.Frag) (neg : Bool) : R2 := fun x y H Q => rInU K neg x y H Q ∨ rInD neg x y H Q
theorem or_inD {X : Cx} (hu : X.A.units + 64 < cLine) : OpR X (compareOp .In) (rInX X.K false) := or_inU.or (op_inD (by omega))
theorem or_ninD {X : Cx} (hu : X.A.units + 64 < cLine) : OpR X (compareOp .NotIn) (rInX X.K true) := or_ninU.or (op_ninD (by omega))
theorem io_inD {T : Tx} {W0 : WX} : ImpO T W0 (rInX T.K false) inD := by
  intro m G σ H Q a b x y hG ra rb ho
  unfold inD at ho
  split at ho
  · rename_i es e
    split at ho
    · rename_i ok
      obtain ⟨ad, o, rfl, g, q⟩ := dget_ok hG ra rb e ok
      refine .inr ⟨ad, o, rfl, g, ?_⟩
      have : o.isSome = dHas es a := by
        unfold dHas
        cases eg : dGet es a with
        | none => rw [eg] at q; rw [show o = none from q]; rfl
        | some w => rw [eg] at q; obtain ⟨z, q, _⟩ := q; rw [q]; rfl
      rw [this]
      exact ho.now hG (.bl _)
    · exact False.elim ho
  · exact .inl (io_in (W0 := W0) m G σ H Q a b x y hG ra rb ho)
theorem io_ninD {T : Tx} {W0 : WX} : ImpO T W0 (rInX T.K true) ninD := by
  intro m G σ H Q a b x y hG ra rb ho
  unfold ninD at ho
  split at ho
  · rename_i es e
    split at ho
    · rename_i ok
      obtain ⟨ad, o, rfl, g, q⟩ := dget_ok hG ra rb e ok
      refine .inr ⟨ad, o, rfl, g, ?_⟩
      have : o.isSome = dHas es a := by
        unfold dHas
        cases eg : dGet es a with
        | none => rw [eg] at q; rw [show o = none from q]; rfl
        | some w => rw [eg] at q; obtain ⟨z, q, _⟩ := q; rw [q]; rfl
      rw [this]
      exact ho.now hG (.bl _)
    · exact False.elim ho
  · exact .inl (io_nin (W0 := W0) m G σ H Q a b x y hG ra rb ho)

/-! ### d[k] -/
def ixD : OF := fun a k G => match dOf a G with
  | some es => if dkOk k es then (match dGet es k with
    | some w => .ok w G
    | none => .stuck) else .stuck
  | none => ixW a k G
@[simp] theorem ixD_e (a k : W) (G : Gs) : ixD a k G = match dOf a G with
  | some es => if dkOk k es then (match dGet es k with
    | some w => .ok w G
    | none => .stuck) else .stuck
  | none => ixW a k G := rfl
def rIxDD : R2 := fun x y H Q => ∃ a v, x = .ref a ∧ DGet H a y (some v) ∧ Q v H
theorem ix_dd {X : Cx} (hu : X.A.units + 1 < cLine) : IxR X rIxDD := by
  intro value slice pins s σ H x y v u Q I rx ry h hs
  obtain ⟨a, z, rfl, g, q⟩ := h
  obtain rfl : v = Value.ref a := rx
  exact tail_any (dict_typeIs I g) PySem.F.slot_dict_getitem.lookup (d_getItem hu I g ry fun w' s' I' r' => ⟨z, H, I', r', q⟩) hs
theorem io_ixD {T : Tx} {W0 : WX} : ImpO T W0 (fun x y H Q => rIx T.K x y H Q ∨ rIxDD x y H Q) ixD := by
  intro m G σ H Q a b x y hG ra rb ho
  unfold ixD at ho
  split at ho
  · rename_i es e
    split at ho
    · rename_i ok
      obtain ⟨ad, o, rfl, g, q⟩ := dget_ok hG rb ra e ok
      split at ho
      · rename_i w eg
        rw [eg] at q
        obtain ⟨z, rfl, rz, g'⟩ := q
        exact .inr ⟨ad, z, rfl, g', ho.now hG rz⟩
      · exact False.elim ho
    · exact False.elim ho
  · exact .inl (io_ix (W0 := W0) m G σ H Q a b x y hG ra rb ho)
section
variable {T : Tx} {X : Cx} {W0 : WX} {a b : Expr} {fa fb : EF} {pos : Pos}
theorem fe_ixD (c : Ctx T X W0) (ha : FE T X W0 a fa) (hb : FE T X W0 b fb) (hs : PlainIx b := by exact fun _ _ => rfl) : FE T X W0 (.Subscript a b pos) (eOp ixD fa fb) := by
  obtain ⟨ta, ha, ia⟩ := ha
  obtain ⟨tb, hb, ib⟩ := hb
  have := c.hu
  refine ⟨_, pe_ix (ix_seq.or (ix_dd (by omega))) ha hb hs, ?_⟩
  rw [c.hK]
  exact imp_op io_ixD ia ib
end

/-! ### {} -/
@[simp] def eDic0 : EF := fun _ G => .ok (.dic []) G
@[simp] def eDicM : EF := fun _ G => .ok (.ref G.length) (G ++ [.dic []])
section
variable {T : Tx} {X : Cx} {W0 : WX} {pos : Pos}
theorem fe_dic0 : FE T X W0 (.Dict [] [] pos) eDic0 := ⟨_, pe_dnewK, fun m ls G σ H Q hG hL ho p hp =>
  ho m _ _ (.new hG hp) (hG.new hp) (.dic .nil (hG.free hp) (.inl upd_same))⟩
theorem fe_dicM : FE T X W0 (.Dict [] [] pos) eDicM := ⟨_, pe_dnewK, fun m ls G σ H Q hG hL ho p hp => by
  have k : Keep m H (m.push p) (upd H p (.dK [])) := Keep.push hG hp
  refine ho (m.push p) _ _ k (hG.push hp (.inl ⟨[], upd_same, .nil⟩)) (.ref ?_)
  show (m.r ++ [p])[G.length]? = some p
  rw [← hG.len, List.getElem?_append_right (Nat.le_refl _), Nat.sub_self]
  rfl⟩
end

/-! ### dict(d): a copy (flat keys) -/
def dictW : List W → Gs → Res
  | [w], G => (match dOf w G with
    | some es => if dFlat es then .ok (.dic es) G else .stuck
    | none => .stuck)
  | _, _ => .stuck
@[simp] theorem dictW_e (w : W) (G : Gs) : dictW [w] G = (match dOf w G with
    | some es => if dFlat es then .ok (.dic es) G else .stuck
    | none => .stuck) := rfl
theorem ib_dict {T : Tx} {W0 : WX} : ImpB T W0 (fun xs H Q => ∃ (a : Addr) (kvs : List (Key × V)), xs = [.ref a] ∧ Rd H a (.dK kvs) ∧ ∀ p, H p = none → Q (.ref p) (upd H p (.dK kvs))) dictW := by
  intro m G σ H Q ws vs hG r0 ho
  unfold dictW at ho
  split at ho
  · rename_i w
    obtain ⟨v, rfl, r⟩ := r0.inv1
    split at ho
    · rename_i es e
      split at ho
      · rename_i fl
        obtain ⟨a, rfl, q⟩ := dOf_ok hG r e
        rcases q with ⟨kvs, hd, re⟩ | ⟨kvs, hd, z, re⟩
        · exact ⟨a, kvs, rfl, hd, fun p hp => ho m _ _ (.new hG hp) (hG.new hp) (.dic (re.keep (.new hG hp)) (hG.free hp) (.inl upd_same))⟩
        · rw [re.nflat z] at fl; cases fl
      · exact False.elim ho
    · exact False.elim ho
  · exact False.elim ho

/-! ### len -/
def lenD : List W → Gs → Res := fun ws G => match ws with
  | [w] => (match dOf w G with
    | some es => if dFlat es then .ok (.int es.length) G else .stuck
    | none => lenW [w] G)
  | ws => lenW ws G
@[simp] theorem lenD_e (w : W) (G : Gs) : lenD [w] G = (match dOf w G with
    | some es => if dFlat es then .ok (.int es.length) G else .stuck
    | none => lenW [w] G) := rfl
end U
namespace U
open PySem PySem.Spec PyProof.Rows
open L2
/-! ### d[k] = v -/
/-- the heap behind a[y] = v; an empty dict may take either kind -/
def DPutU (H : Hp) (a : Addr) (y v : V) (H' : Hp) : Prop := DPut H a y v H' ∨ (H a = some (.dK []) ∧ ∃ (b : Addr) (ks : List Key), y = .ref b ∧ H b = some (.tup (ks.map kV)) ∧ H' = upd H a (.dT [(ks, v)]))
theorem set_dictU {X : Cx} (hu : X.A.units + 1 < cLine) : PSet X (fun o i v H Q => ∃ a H', o = .ref a ∧ DPutU H a i v H' ∧ Q H') := by
  intro pins s σ H o i v ov iv u Q I ro ri rv h
  obtain ⟨a, H', rfl, g, q⟩ := h
  obtain rfl : ov = Value.ref a := ro
  rcases g with g | ⟨e, b, ks, rfl, eb, rfl⟩
  · exact d_setItem hu I g ri rv fun s' I' => ⟨H', I', q⟩
  · obtain rfl : iv = Value.ref b := ri
    obtain ⟨hd, dd⟩ := dk_asT I.hok (.inl e)
    refine wpAny_setItem_heap (hsz := Nat.zero_le _) (tupleKind_room_in1 hu) (key_of I.hok eb) dd fun h' dd' hs => ⟨_, ?_, q⟩
    obtain ⟨ob, es, ep, hq, h2, h3, h4, _, h5⟩ := dd'
    refine d_write I (by rw [e]; exact True.intro) hs ⟨ob, hq⟩ ⟨(by rw [sizeLine_eq]; show 1 ≤ _; omega), hd, _, .cons ⟨rfl, ?_, rv⟩ .nil, ob, es, ep, hq, h2, h3, h4, h5⟩
    rw [upd_ne (ne_of eb e (fun z => nomatch z))]
    exact eb
def gSetD (fo fi : EF) : TF := fun v ls G => match fo ls G with
  | .ok (.ref i) G1 => (match fi ls G1 with
    | .ok k G2 => (match G2[i]? with
      | some (.lst xs) => (match k with
        | .int z => (match ixN xs.length z with
          | some j => .nx ls (G2.set i (.lst (xs.set j v)))
          | none => .stuck)
        | _ => .stuck)
      | some (.dic es) => if dkOk k es && decide (es.length < SZ) then .nx ls (G2.set i (.dic (dPut es k v))) else .stuck
      | _ => .stuck)
    | _ => .stuck)
  | _ => .stuck
@[simp] theorem gSetD_e (fo fi : EF) (v : W) (ls : Ls) (G : Gs) : gSetD fo fi v ls G = match fo ls G with
  | .ok (.ref i) G1 => (match fi ls G1 with
    | .ok k G2 => (match G2[i]? with
      | some (.lst xs) => (match k with
        | .int z => (match ixN xs.length z with
          | some j => .nx ls (G2.set i (.lst (xs.set j v)))
          | none => .stuck)
        | _ => .stuck)
      | some (.dic es) => if dkOk k es && decide (es.length < SZ) then .nx ls (G2.set i (.dic (dPut es k v))) else .stuck
      | _ => .stuck)
    | _ => .stuck)
  | _ => .stuck := rfl
theorem sto_setD {fo fi : EF} : Sto (gSetD fo fi) := fun w ls G => by
  unfold gSetD
  split
  · split
    · split
      · split
        · split
          · exact .inl ⟨_, _, rfl⟩
          · exact .inr rfl
        · exact .inr rfl
      · split
        · exact .inl ⟨_, _, rfl⟩
        · exact .inr rfl
      · exact .inr rfl
    · exact .inr rfl
  · exact .inr rfl
theorem PSet.or {X : Cx} {t t' : TSet} (h : PSet X t) (h' : PSet X t') : PSet X (fun o i v H Q => t o i v H Q ∨ t' o i v H Q) := by
  intro pins s σ H o i v ov iv u Q I ro ri rv q
  rcases q with q | q
  · exact h pins s σ H o i v ov iv u Q I ro ri rv q
  · exact h' pins s σ H o i v ov iv u Q I ro ri rv q
section
variable {T : Tx} {X : Cx} {W0 : WX} {o : Expr} {fo : EF} {pos : Pos}
theorem fg_setD {i : Expr} {fi : EF} (c : Ctx T X W0) (ho : FE T X W0 o fo) (hi : FE T X W0 i fi)
    (ha : ∀ v, assign (.Subscript o i pos) X.env v = (do
      let ov ← holding [v] (eval o X.env)
      let iv ← holding [v, ov] (eval i X.env)
      standAt pos
      holding [v, ov, iv] (setItem ov iv v)
      release [v, ov, iv] []) := by intro _; rfl) : FG T X [] (.Subscript o i pos) (gSetD fo fi) := by
  obtain ⟨t, ho, io⟩ := ho
  obtain ⟨ti, hi, ii⟩ := hi
  have hu := c.hu
  refine ⟨_, pg_sub ho hi (U.PSet.or set_list (set_dictU (by omega))) ha, fun m ls G σ H w v Q hG hL r hq => ?_⟩
  unfold gSetD at hq
  refine io m ls G σ H _ hG hL ?_
  cases e1 : fo ls G with
  | stuck => rw [e1] at hq; exact False.elim hq
  | exc _ _ => rw [e1] at hq; exact False.elim hq
  | ok wo G1 =>
    rw [e1] at hq
    intro m1 vo H1 k1 g1 r1
    cases r1 with
    | @ref k a h =>
      refine ii m1 ls G1 σ H1 _ g1 (hL.keep k1) ?_
      simp only at hq
      cases e2 : fi ls G1 with
      | stuck => rw [e2] at hq; exact False.elim hq
      | exc _ _ => rw [e2] at hq; exact False.elim hq
      | ok wi G2 =>
        rw [e2] at hq
        intro m2 vi H2 k2 g2 r2
        have h2 := k2.get h
        have r' := (r.keep k1).keep k2
        simp only at hq
        split at hq
        · rename_i xs e3
          split at hq
          · rename_i z
            cases r2
            split at hq
            · rename_i j e4
              obtain ⟨us, e5, r5⟩ := g2.lst h2 e3
              refine .inl ⟨a, us, z, j, rfl, rfl, e5, by rw [← r5.length]; exact e4, ?_⟩
              have k : Keep m2 H2 m2 (upd H2 a (.lst (us.set j v))) := Keep.write (List.mem_of_getElem? h2)
              exact hq m2 σ _ ((k1.trans k2).trans k) (g2.write h2 ⟨_, upd_same, (r5.set r' j).keep k⟩) ((hL.keep (k1.trans k2)).keep k) (.refl _ _)
            · exact False.elim hq
          · exact False.elim hq
        · rename_i es e3
          split at hq
          · rename_i ok
            rw [Bool.and_eq_true] at ok
            obtain ⟨ok, hz⟩ := ok
            have hz := of_decide_eq_true hz
            rw [sz_eq] at hz
            unfold dkOk at ok
            rw [Bool.or_eq_true, Bool.and_eq_true, Bool.and_eq_true] at ok
            have am : a ∈ m2.r := List.mem_of_getElem? h2
            have fin : ∀ {u : HO}, DPutU H2 a vi v (upd H2 a u) → RO T m2 (upd H2 a u) (.dic (dPut es wi w)) a → ∃ a_1 H', V.ref a = V.ref a_1 ∧ DPutU H2 a_1 vi v H' ∧ Q σ H' := fun {u} hp ro => by
              have k : Keep m2 H2 m2 (upd H2 a u) := Keep.write am
              exact ⟨a, _, rfl, hp, hq m2 σ _ ((k1.trans k2).trans k) (g2.write h2 ro) ((hL.keep (k1.trans k2)).keep k) (.refl _ _)⟩
            refine .inr ?_
            rcases g2.ob k _ a e3 h2 with ⟨kvs, e5, r5⟩ | ⟨kvs, e5, z, r5⟩
            · rcases ok with ⟨fk, _⟩ | ⟨tk, he⟩
              · obtain ⟨q, eq⟩ := fKey_of fk
                have ex := fKey_ok r2 eq
                subst ex
                have k : Keep m2 H2 m2 (upd H2 a (.dK (putK kvs q v))) := Keep.write am
                exact fin (.inl (.inl ⟨kvs, q, e5, rfl, by rw [← r5.length]; exact hz, rfl⟩)) (.inl ⟨_, upd_same, (r5.put eq r').keep k⟩)
              · rw [r5.flat] at he
                have he : es = [] := by simpa using he
                subst he
                cases r5
                obtain ⟨i0, rr, ks, ew, ekr, ek⟩ := tKey_of tk
                obtain ⟨b, rfl, hb, _⟩ := tKey_ok r2 ek
                have k : Keep m2 H2 m2 (upd H2 a (.dT [(.inl i0 :: ks, v)])) := Keep.write am
                have rt : RWt T m2 H2 (dPut [] wi w) [(.inl i0 :: ks, v)] := RWt.put (kvs := []) ek r' .nil
                exact fin (.inr ⟨e5, b, _, rfl, hb, rfl⟩) (.inr ⟨_, upd_same, (fun e => nomatch e), rt.keep k⟩)
            · rcases ok with ⟨_, fl⟩ | ⟨tk, _⟩
              · rw [r5.nflat z] at fl; cases fl
              · obtain ⟨i0, rr, ks, ew, ekr, ek⟩ := tKey_of tk
                obtain ⟨b, rfl, hb, _⟩ := tKey_ok r2 ek
                have k : Keep m2 H2 m2 (upd H2 a (.dT (putK kvs (.inl i0 :: ks) v))) := Keep.write am
                refine fin (.inl (.inr ⟨kvs, _, b, e5, rfl, hb, by rw [← r5.length]; exact hz, rfl⟩)) (.inr ⟨_, upd_same, ?_, (r5.put ek r').keep k⟩)
                unfold dPut
                split
                · cases es with
                  | nil => exact absurd rfl z
                  | cons e r => intro q; cases q
                · intro q
                  have := congrArg List.length q
                  rw [List.length_append] at this
                  simp at this
          · exact False.elim hq
        · exact False.elim hq
    | _ => exact False.elim hq
end
/-! ### for over what may be a dict -/
section
variable {T : Tx} {X : Cx} {W0 : WX} {pos : Pos} {tg iter : Expr} {body : List Stmt} {fi : EF} {g : TF} {gb : SF}
/-- the loop, once its items are known -/
theorem for_imp {is : List Nat} {ti : TI} {tg' : TG} {tb : TS} (ig : ImpG T is tg' g) (ib : ImpS T W0 tb gb) {m : Mm} {ls : Ls} {G1 : Gs} {σ : L2.St} {H : Hp} {D : Ends} (g1 : RG T m G1 H) (hL : RL T m H ls σ) {ws : List W}
    (hi : ∀ R : It → Hp → Prop, (∀ J, ItOk T m H J ws → R J H) → ti σ H R) (ho : OutS T W0 m H D (forL g gb ws ls G1)) : tFor ti tg' tb D σ H := by
  refine hi _ fun J it => ?_
  refine ⟨fun i k σ H' => k = ws.length - i ∧ ∃ m2 ls2 G2, Keep m H m2 H' ∧ RG T m2 G2 H' ∧ RL T m2 H' ls2 σ ∧ OutS T W0 m2 H' D (forL g gb (ws.drop i) ls2 G2), ⟨ws.length, rfl, m, ls, G1, .refl _ _, g1, hL, ho⟩, ?_⟩
  rintro i k σ2 H2 ⟨rfl, m2, ls2, G2, k2, g2, l2, o2⟩
  obtain ⟨go, stop⟩ := it m2 G2 H2 k2 g2
  cases hw : ws[i]? with
  | none =>
    have hle : ws.length ≤ i := List.getElem?_eq_none_iff.mp hw
    rw [List.drop_eq_nil_of_le hle] at o2
    exact .inl ⟨stop i hle, o2 m2 σ2 H2 (.refl _ _) g2 l2⟩
  | some w =>
    have hlt : i < ws.length := (List.getElem?_eq_some_iff.mp hw).1
    have hd : ws.drop i = w :: ws.drop (i + 1) := by
      rw [List.drop_eq_getElem_cons hlt, (List.getElem?_eq_some_iff.mp hw).2]
    rw [hd] at o2
    obtain ⟨hgo, hy⟩ := go i w hw
    refine .inr ⟨hgo, fun σ H' => ∃ m3 ls3 G3, Keep m H m3 H' ∧ RG T m3 G3 H' ∧ RL T m3 H' ls3 σ ∧ OutS T W0 m3 H' D (forL g gb (ws.drop (i + 1)) ls3 G3), fun σ' H' n => ⟨ws.length - (i + 1), by omega, rfl, n⟩, fun x H' yl => ?_⟩
    obtain ⟨k3, g3, r3⟩ := hy x H' yl
    refine ig m2 ls2 G2 σ2 H' w x _ g3 (l2.keep k3) r3 ?_
    simp only [forL] at o2
    cases eg : g w ls2 G2 with
    | nx ls4 G4 =>
      rw [eg] at o2
      intro m4 σ4 H4 k4 g4 l4 _
      refine ib m4 ls4 G4 σ4 H4 _ g4 l4 ?_
      have k14 := (k2.trans k3).trans k4
      have o4 := OutS.keep (k3.trans k4) o2
      simp only at o4
      cases eb : gb ls4 G4 with
      | nx ls5 G5 => rw [eb] at o4; exact fun m5 σ5 H5 k5 g5 l5 => ⟨m5, ls5, G5, k14.trans k5, g5, l5, OutS.keep k5 o4⟩
      | ct ls5 G5 => rw [eb] at o4; exact fun m5 σ5 H5 k5 g5 l5 => ⟨m5, ls5, G5, k14.trans k5, g5, l5, OutS.keep k5 o4⟩
      | bk ls5 G5 => rw [eb] at o4; exact o4
      | rt w G5 => rw [eb] at o4; exact o4
      | exc w ls5 G5 => rw [eb] at o4; exact o4
      | stuck => rw [eb] at o4; exact o4
    | rt w G4 => rw [eg] at o2; exact False.elim o2
    | bk ls4 G4 => rw [eg] at o2; exact False.elim o2
    | ct ls4 G4 => rw [eg] at o2; exact False.elim o2
    | exc w ls4 G4 => rw [eg] at o2; exact False.elim o2
    | stuck => rw [eg] at o2; exact False.elim o2
/-- an expression that changes nothing, and whose value does not lean on a dict -/
def FPu (T : Tx) (X : Cx) (W0 : WX) (e : Expr) (f : EF) : Prop := (∀ ls G c G', f ls G ≠ .exc c G') ∧ ∃ t, PE X e t ∧ ∀ (m : Mm) (ls : Ls) (G : Gs) (σ : L2.St) (H : Hp) (w : W) (G' : Gs), RG T m G H → RL T m H ls σ → f ls G = .ok w G' →
  G' = G ∧ ∃ v, RW T m H w v ∧ ∀ (H' : Hp) (Q : VK), (∀ a o, H a = some o → Pl o → H' a = some o) → Q v H' → t σ H' Q
theorem fp_var (i : Nat) {x : Str} {pos : Pos} (hN : X.N[i]? = some x := by rfl) (hv : Vis X.env.scope x := by first | exact Or.inl rfl | exact Or.inr (Or.inl rfl) | exact Or.inr (Or.inr rfl))
    (hd : (x == ("__debug__" : Str)) = false := by decide +kernel) (hcd : (x == ("__classdict__" : Str)) = false := by decide +kernel) : FPu T X W0 (.Name x pos) (eVar i) := by
  refine ⟨fun ls G c G' e => ?_, _, pe_var hN hv hd hcd, fun m ls G σ H w G' hG hL e => ?_⟩
  · unfold eVar at e
    split at e <;> cases e
  unfold eVar at e
  split at e
  · rename_i w' e1
    cases e
    obtain ⟨v, hv, r⟩ := hL.at_ i w (lget_some e1)
    exact ⟨rfl, v, r, fun H' Q _ q => ⟨v, hv, q⟩⟩
  · cases e
theorem fp_fld {o : Expr} {fo : EF} (c : Ctx T X W0) (h : FPu T X W0 o fo) {a : Str} {tbl : List (Nat × Nat)} (ht : ∀ p ∈ tbl, FldOk T a p.1 p.2) (hb : attributeBase o a X.env (eval o X.env) = eval o X.env := by rfl) : FPu T X W0 (.Attribute o a pos) (eFld tbl fo) := by
  obtain ⟨nx, t, h, i⟩ := h
  refine ⟨fun ls G c G' e => ?_, _, pe_fld h hb, fun m ls G σ H w G' hG hL e => ?_⟩
  · rw [eFld_e] at e
    cases e1 : fo ls G with
    | stuck => rw [e1] at e; cases e
    | exc _ _ => exact nx _ _ _ _ e1
    | ok ow G1 =>
      rw [e1] at e
      simp only [Res.bind] at e
      split at e
      · split at e
        · split at e <;> cases e
        · cases e
      · cases e
  rw [eFld_e] at e
  cases e1 : fo ls G with
  | stuck => rw [e1] at e; cases e
  | exc _ _ => rw [e1] at e; cases e
  | ok ow G1 =>
    rw [e1] at e
    obtain ⟨rfl, v, r, hq⟩ := i m ls G σ H ow G1 hG hL e1
    simp only [Res.bind] at e
    split at e
    · rename_i cc xs e2 e3
      obtain ⟨ad, C, dx, vs, xs', rfl, hc, h1, h2, r2, l⟩ := ins_ok hG r e2
      rw [e3] at h2
      cases h2
      split at e
      · rename_i j ej
        have F := ht _ (lookup_mem ej)
        split at e
        · rename_i w' ew
          cases e
          obtain ⟨v', ev, rv⟩ := r2.get ew
          obtain ⟨hC, hN⟩ := F.ok C hc
          refine ⟨rfl, v', rv, fun H' Q hp q => hq H' _ hp ?_⟩
          exact ⟨ad, C, dx, _, v', rfl, hp _ _ h1 trivial, by rw [c.hK]; exact hC, by rw [c.hK]; exact hN, lookup_zip F.at_ F.fst ev, q⟩
        · cases e
      · cases e
    · cases e
/-- the items of a list, a tuple, a text, a dict's keys -/
def iSeqD (f : EF) : EF := fun ls G => (f ls G).bind fun w G1 => match w with
  | .dic es => if dFlat es then .ok (.lst (dKeys es)) G1 else .stuck
  | w => iSeq (eC w) ls G1
@[simp] theorem iSeqD_e (f : EF) (ls : Ls) (G : Gs) : iSeqD f ls G = (f ls G).bind fun w G1 => match w with
  | .dic es => if dFlat es then .ok (.lst (dKeys es)) G1 else .stuck
  | w => iSeq (eC w) ls G1 := rfl
theorem keys_get : ∀ {m : Mm} {H : Hp} {es : List W} {kvs : List (Key × V)} {i : Nat} {w : W}, RWe T m H es kvs → (dKeys es)[i]? = some w → ∃ k v, kvs[i]? = some (k, v) ∧ w = kW k
  | _, _, [], _, _, _, r, e => by cases r; simp at e
  | _, _, x :: ws, kvs, i, w, r, e => by
    obtain ⟨j, u, v, vs, rfl, rfl, r1, r2⟩ := r.inv
    rw [dKeys_c] at e
    cases i with
    | zero => simp at e; exact ⟨j, v, rfl, e.symm⟩
    | succ i =>
      rw [List.getElem?_cons_succ] at e ⊢
      exact keys_get r2 e
theorem keys_len : ∀ {m : Mm} {H : Hp} {es : List W} {kvs : List (Key × V)}, RWe T m H es kvs → (dKeys es).length = kvs.length
  | _, _, [], _, r => by cases r; rfl
  | _, _, x :: ws, kvs, r => by
    obtain ⟨j, u, v, vs, rfl, rfl, r1, r2⟩ := r.inv
    rw [dKeys_c, List.length_cons, List.length_cons, keys_len r2]
theorem kW_ok (m : Mm) (H : Hp) (k : Key) : RW T m H (kW k) (kV k) := by
  cases k with
  | inl i => exact .int i
  | inr s => exact .str s.cps.toList
theorem it_keys {m : Mm} {H : Hp} {d : Addr} {o : Obj} {es : List W} {kvs : List (Key × V)} (r : RWe T m H es kvs) (n : m.fr d) (h : H d = some (.frz o (.dK kvs))) : ItOk T m H (Itk d o kvs) (dKeys es) := fun m' G' H' k g => by
  have q := (k.at_ h n).1
  refine ⟨fun i w e => ?_, fun i hi => ⟨q, by rw [← keys_len r]; exact hi⟩⟩
  obtain ⟨j, v, e1, rfl⟩ := keys_get r e
  refine ⟨⟨q, (List.getElem?_eq_some_iff.mp e1).1⟩, fun x H'' y => ?_⟩
  obtain ⟨rfl, j', v', e2, rfl⟩ := y
  rw [e1] at e2
  cases e2
  exact ⟨.refl _ _, g, kW_ok _ _ _⟩
theorem seq_imp {m : Mm} {H : Hp} {G : Gs} {ls : Ls} {w : W} {v : V} {ws : List W} (r : RW T m H w v) (e : iSeq (eC w) ls G = .ok (.lst ws) G) (R : It → Hp → Prop) (hR : ∀ J, ItOk T m H J ws → R J H) :
    (∃ a xs, v = .ref a ∧ SqL T.K H a xs ∧ R (Itl T.K a) H) ∨ (∃ a xs, v = .ref a ∧ SqT T.K H a xs ∧ R (Itt T.K a) H) ∨ ∃ x, v = .str x ∧ R (Its x) H := by
  cases r with
  | lst r n f => cases e; exact .inl ⟨_, _, rfl, SqL.of f, hR _ (it_lst r fun m' H' k => SqL.of (k.at_ f n).1)⟩
  | fz r f => cases e; exact .inl ⟨_, _, rfl, f.sq, hR _ (it_lst r fun m' H' k => (k.fzL f).sq)⟩
  | tup r f => cases e; exact .inr (.inl ⟨_, _, rfl, f.sq, hR _ (it_tup r fun m' H' k => (k.fzT f).sq)⟩)
  | str s => cases e; exact .inr (.inr ⟨_, rfl, hR _ it_str⟩)
  | _ => cases e
theorem seq_or (w : W) (ls : Ls) (G : Gs) : (∃ ws, iSeq (eC w) ls G = .ok (.lst ws) G) ∨ iSeq (eC w) ls G = .stuck := by
  cases w <;> first | exact .inl ⟨_, rfl⟩ | exact .inr rfl
/-- what is wanted while d is locked -/
theorem OutS.locked {m : Mm} {H : Hp} {D : Ends} {d : Addr} {od : Obj} {u : HO} (hd : H d = some u) (du : DD u) (n : d ∉ m.r) {r : SRes} (h : OutS T W0 m H D r) :
    OutS T W0 m (upd H d (.frz od u)) ⟨fun σ' H' => H' d = some (.frz od u) ∧ D.nx σ' (upd H' d u), fun v H' => H' d = some (.frz od u) ∧ D.rt v (upd H' d u), fun σ' H' => H' d = some (.frz od u) ∧ D.bk σ' (upd H' d u), fun σ' H' => H' d = some (.frz od u) ∧ D.ct σ' (upd H' d u)⟩ r := by
  have key : ∀ {m' : Mm} {H' : Hp}, Keep m (upd H d (.frz od u)) m' H' → H' d = some (.frz od u) ∧ d ∉ m'.r ∧ Keep m H m' (upd H' d u) := fun {m' H'} k => ⟨(k.fzE upd_same n).1, (k.fzE upd_same n).2, Keep.unlock hd k n⟩
  cases r with
  | nx ls G =>
      intro m' σ' H' k g l
      obtain ⟨e, n', k'⟩ := key k
      exact ⟨e, h m' σ' _ k' (g.unlock e n') (l.kr (KR.unlock e))⟩
  | rt w G =>
      intro m' v H' k g r
      obtain ⟨e, n', k'⟩ := key k
      exact ⟨e, h m' v _ k' (g.unlock e n') (r.kr (KR.unlock e))⟩
  | bk ls G =>
      intro m' σ' H' k g l
      obtain ⟨e, n', k'⟩ := key k
      exact ⟨e, h m' σ' _ k' (g.unlock e n') (l.kr (KR.unlock e))⟩
  | ct ls G =>
      intro m' σ' H' k g l
      obtain ⟨e, n', k'⟩ := key k
      exact ⟨e, h m' σ' _ k' (g.unlock e n') (l.kr (KR.unlock e))⟩
  | exc w ls G => exact fun m' σ' c dd H' k g l r => h m' σ' c dd H' ((Keep.lock hd du).trans k) g l r
  | stuck => exact h
theorem fs_forD {is : List Nat} {f : EF} (c : Ctx T X W0) (hi : FPu T X W0 iter f) (hg : FG T X is tg g) (hb : FSs T X W0 body gb) (hs : ∀ x, foldedSetIterable iter X.env x = pure x := by intro _; rfl) : FS T X W0 (.For tg iter body [] pos) (sFor (iSeqD f) g gb) := by
  obtain ⟨nx, te, hi, ii⟩ := hi
  obtain ⟨tg', hg, ig⟩ := hg
  obtain ⟨tb, hb, ib⟩ := hb
  have P1 := ps_for (pos := pos) c.po c.calm (pi_keys (tg := tg) hi) hg hb hs
  have P2 := ps_for (pos := pos) c.po c.calm (pi_sw (tg := tg) hi) hg hb hs
  refine ⟨fun D σ H => tLock (tFor (iKeys te) tg' tb) D σ H ∨ tFor (iKeys te) tg' tb D σ H ∨ tFor (itS X.K te) tg' tb D σ H, ⟨fun pins s σ H D I h => ?_⟩, fun m ls G σ H D hG hL ho => ?_⟩
  · rcases h with h | h | h
    · exact (ps_lock P1).run pins s σ H D I h
    · exact P1.run pins s σ H D I h
    · exact P2.run pins s σ H D I h
  · simp only [sFor, iSeqD_e] at ho
    cases e1 : f ls G with
    | stuck => rw [e1] at ho; exact False.elim ho
    | exc _ _ => exact absurd e1 (nx _ _ _ _)
    | ok w G1 =>
      rw [e1] at ho
      obtain ⟨rfl, v, r, hq⟩ := ii m ls G σ H w G1 hG hL e1
      simp only [Res.bind] at ho
      split at ho
      · rename_i es
        split at ho
        · rename_i fl
          simp only [Res.sbind] at ho
          cases r with
          | @dic _ kvs d r n hd =>
            rcases hd with hd | ⟨od, hd⟩
            · refine .inl ⟨d, _, hd, trivial, fun od => ?_⟩
              have kl : Keep m H m (upd H d (.frz od (.dK kvs))) := Keep.lock hd trivial
              have gl := hG.lock (od := od) hd trivial n.1
              refine for_imp ig ib gl (hL.keep kl) (ws := dKeys es) (fun R hR => ?_) (OutS.locked hd trivial n.1 ho)
              refine hq _ _ (fun a o ha hp => ?_) ⟨d, od, rfl, .inl ⟨kvs, upd_same, hR _ (it_keys (r.keep kl) n upd_same)⟩⟩
              rw [upd_ne (fun e => by subst e; rw [hd] at ha; cases ha; exact hp)]
              exact ha
            · refine .inr (.inl (for_imp ig ib hG hL (ws := dKeys es) (fun R hR => ?_) ho))
              exact hq _ _ (fun a o ha _ => ha) ⟨d, od, rfl, .inl ⟨kvs, hd, hR _ (it_keys r n hd)⟩⟩
          | dit r z n hd => rw [r.nflat z] at fl; cases fl
        · exact False.elim ho
      · rcases seq_or w ls G1 with ⟨ws, ew⟩ | ew
        · rw [ew] at ho
          refine .inr (.inr (for_imp ig ib hG hL (ws := ws) (fun R hR => ?_) ho))
          refine hq _ _ (fun a o ha _ => ha) ?_
          rw [c.hK]
          exact seq_imp r ew R hR
        · rw [ew] at ho
          exact False.elim ho
end
end U

/-! instances called with keywords alone -/
namespace U
open PySem
open PySem.Spec
open PyProof.Rows
open L2
theorem callO_ofK {M : Model} {A : Around} {E : Value → Shared → Prop} {s : Shared} {a : Addr} {pos : Pos} {Q : Value → Shared → Prop} {args : List (Bool × Sem Value)} {keywords : List (Option Str × Sem Value)} (hplain : (args.any (·.1) || keywords.any (·.1.isNone)) = false)
    (h : wpAny M A (evalArgs (.ref a) true args keywords) (fun z s₁ => (∃ C ox od, PySem.W.InstAt s₁.heap a ox C od ∧ ox.data = .plain) ∧ wpAny M A (call (.ref a) ([] ++ z.pos) z.kw) Q E s₁) E s) : wpAny M A (callWith pos (.ref a) [] args keywords) Q E s := by
  unfold callWith
  refine wpAny_bind (wpAny_holding (wpAny_mono h (fun z s₁ h₁ => wpAny_bind (wpAny_standAt ?_)) fun _ _ y => y))
  obtain ⟨⟨C, ox, od, J, hd⟩, h₁⟩ := h₁
  have L := PySem.W.kco_keeper (M := M) J hd
  simp only [hplain]
  refine wpAny_bind (L.here ?_)
  have tail : ∀ {t : Sem Value}, wpAny M A t Q E s₁ → wpAny M A (t >>= fun r => holding [r] point >>= fun _ => pure r) Q E s₁ :=
    fun ht => wpAny_bind (wpAny_mono ht (fun r s₂ hr => wpAny_bind (wpAny_holding (wpAny_point (wpAny_pure hr)))) fun _ _ y => y)
  exact tail (wpAny_operateT h₁)
section
variable {X : Cx} {CX : CXT} {k : Nat} {g C : Addr} {fd : FuncData} {ps ks : List Str} {sp : Sp} {E : L2.St → XK} {pos : Pos} {fe : Expr} {kws : List Keyword} {tf : TE} {tk : TA} {pm : List Nat} {dvs : List V} {ds : List Value}
def tCallOKSD (X : Cx) (C : Addr) (m : Nat) (sp : Sp) (pm : List Nat) (dvs : List V) (E : L2.St → XK) (tf : TE) (tk : TA) : TE := fun σ H Q => tf σ H fun y H1 => ∃ a, y = V.ref a ∧ tk σ H1 fun zs H2 => StX.InsC X H2 a C ∧ zs.length = m ∧ sp (perm pm ((V.ref a :: []) ++ zs ++ dvs)) H2 Q (E σ)
theorem pe_callOKSD (hf : PE X fe tf) (c : StX.CallO X.K C g) (F : FnOk X.prog X.w X.K X.mg X.base CX k g fd ps sp) (hr : Room k X.A) (hb : KB X.K fd ps 1 ks ds pm) (hd : Vals dvs ds) (hx : ∀ σ, PassesAt CX X σ (E σ)) (hkw : PK X kws tk)
    (ht : eval (.Call fe [] kws pos) X.env = (do callWith pos (← eval fe X.env) [] (backTo pos (starEach [] X.env)) (backToKw pos (keywordEach kws X.env))) := by rfl)
    (hall : (backToKw pos (keywordEach kws X.env)).all (·.1.isSome) = true := by rfl) (hks : (backToKw pos (keywordEach kws X.env)).filterMap (·.1) = ks := by rfl)
    (hpl : ((backTo pos (starEach [] X.env)).any (·.1) || (backToKw pos (keywordEach kws X.env)).any (·.1.isNone)) = false := by rfl) : PE X (.Call fe [] kws pos) (tCallOKSD X C ks.length sp pm dvs E tf tk) := by
  refine ⟨fun pins s σ H Q I h => ?_⟩
  rw [ht]
  refine wpAny_bind (thn (hf.run pins s σ H _ I h) fun u s1 ⟨y, H1, I1, ry, a, ey, q⟩ => ?_)
  subst ey
  obtain rfl : u = Value.ref a := ry
  refine callO_ofK hpl (evalArgs_kw2_nil hall (thn (hkw.run pos pins s1 σ H1 _ I1 q) fun us s2 ⟨zs, H2, I2, r, hi, ln, q2⟩ => ?_))
  obtain ⟨ox, od, J, hdd⟩ := StX.insC_at I2 hi
  refine ⟨⟨C, ox, od, J, hdd⟩, ?_⟩
  rw [hks]
  refine wpAny_call (PySem.W.kco_code I2.kIn J hdd c.at_ c.fn c.fi ?_)
  exact code_fnKSD (n := 1) (us := [.ref a]) (ws := us) (vs := [.ref a]) (zs := zs) F hr hb hd (hx σ) I2 (.cons rfl .nil) r rfl (by rw [← r.length, ln]) q2
end
structure CallKOk (T : Tx) (P : Program) (w : World) (mg : Str → Option Value) (base : Heap) (k c n2 : Nat) (F : Fn) (dws : List W) (ks : List Str) (pm : List Nat) : Prop where
  ok : ∃ (C f : Addr) (fd : FuncData) (ps : List Str) (dvs : List V) (ds : List Value), T.ct c = some C ∧ StX.CallO T.K C f ∧ FnOk P w T.K mg base (L2.CX P w) k f fd ps (spF T n2 F) ∧ KB T.K fd ps 1 ks ds pm ∧ Dfl T dws dvs ds
/-- f(k = v), f an instance -/
def eCallOK (tbl : List (Nat × (Fn × List W))) (ff fk : EF) : EF := fun ls G => (ff ls G).bind fun o G1 => match clsOf o G1 with
  | some c => (match tbl.lookup c with
    | some p => (fk ls G1).bind fun w G2 => asT w fun ws => if clsOf o G2 = some c then p.1 ([o] ++ ws ++ p.2) G2 else .stuck
    | none => .stuck)
  | none => .stuck
@[simp] theorem eCallOK_e (tbl : List (Nat × (Fn × List W))) (ff fk : EF) (ls : Ls) (G : Gs) : eCallOK tbl ff fk ls G = (ff ls G).bind fun o G1 => match clsOf o G1 with
  | some c => (match tbl.lookup c with
    | some p => (fk ls G1).bind fun w G2 => asT w fun ws => if clsOf o G2 = some c then p.1 ([o] ++ ws ++ p.2) G2 else .stuck
    | none => .stuck)
  | none => .stuck := rfl
section
variable {T : Tx} {X : Cx} {W0 : WX} {fe : Expr} {kws : List Keyword} {ff fk : EF} {pos : Pos} {k n2 c : Nat} {F : Fn} {dws : List W} {ks : List Str} {pm : List Nat}
theorem fe_callOK1 (cx : Ctx T X W0) (h : FE T X W0 fe ff) (M : CallKOk T X.prog X.w X.mg X.base k c n2 F dws ks pm) (hr : Room k X.A) (ha : FK T X W0 kws fk) (hl : ∀ ls G ws G1, fk ls G = .ok (.tup ws) G1 → ws.length = ks.length) (hp : ∀ ws : List W, ws.length = ks.length + dws.length + 1 → (perm pm ws).length = n2)
    (ht : eval (.Call fe [] kws pos) X.env = (do callWith pos (← eval fe X.env) [] (backTo pos (starEach [] X.env)) (backToKw pos (keywordEach kws X.env))) := by rfl)
    (hall : (backToKw pos (keywordEach kws X.env)).all (·.1.isSome) = true := by rfl) (hks : (backToKw pos (keywordEach kws X.env)).filterMap (·.1) = ks := by rfl)
    (hpl : ((backTo pos (starEach [] X.env)).any (·.1) || (backToKw pos (keywordEach kws X.env)).any (·.1.isNone)) = false := by rfl) : FE T X W0 (.Call fe [] kws pos) (eCallOK [(c, (permF pm F, dws))] ff fk) := by
  obtain ⟨tf, h, ia⟩ := h
  obtain ⟨t, ha, it⟩ := ha
  obtain ⟨C, f, fd, ps, dvs, ds, hC, hCall, hF, hb, hd⟩ := M.ok
  have hK := cx.hK
  refine ⟨_, pe_callOKSD (E := WE W0) h (by rw [hK]; exact hCall) (by rw [hK]; exact hF) hr (by rw [hK]; exact hb) hd.1 (passAt cx.tk) ha ht hall hks hpl, fun mm ls G σ H Q hG hL ho => ?_⟩
  rw [eCallOK_e] at ho
  refine ia.go hG hL ho fun w G1 m1 v H1 k1 g1 r1 l1 o1 => ?_
  split at o1
  · rename_i c' e1
    have hlk : [(c, (permF pm F, dws))].lookup c' = if c' == c then some (permF pm F, dws) else none := by simp only [List.lookup_cons, List.lookup_nil]; split <;> rename_i h <;> simp [h]
    rw [hlk] at o1
    by_cases hcc : (c' == c) = true
    · rw [if_pos hcc] at o1
      obtain rfl := beq_iff_eq.mp hcc
      obtain ⟨a, C', dx, vs, xs, rfl, hc, h1, h2, r, l⟩ := ins_ok g1 r1 e1
      refine ⟨a, rfl, ?_⟩
      refine it m1 ls G1 σ H1 _ g1 l1 ?_
      simp only at o1
      cases e2 : fk ls G1 with
      | stuck => rw [e2] at o1; exact o1
      | exc w G2 => rw [e2] at o1; exact o1
      | ok w2 G2 =>
        rw [e2] at o1
        cases w2 with
        | tup ws =>
          refine ⟨ws, rfl, fun m2 us H2 k2 g2 r2 => ?_⟩
          simp only [Res.bind, asT_e1] at o1
          split at o1
          · rename_i e3
            obtain ⟨a2, C2, dx2, vs2, xs2, ea, hc2, h12, _, _, _⟩ := ins_ok g2 (r1.keep k2) e3
            cases ea
            rw [hC] at hc2
            cases hc2
            refine ⟨.inr ⟨dx2, _, h12⟩, by rw [← r2.length, hl ls G1 ws G2 e2], ?_⟩
            exact ⟨m2, G2, perm pm ([w] ++ ws ++ dws), g2, perm_rws (((RWs.cons (r1.keep k2) .nil).append r2).append (hd.2 m2 H2)), hp _ (by have := hl ls G1 ws G2 e2; simp only [List.length_append, List.length_cons, List.length_nil]; omega), Out.wx (Out.keep k2 o1) fun _ _ _ h => h⟩
          · exact False.elim o1
        | _ => exact False.elim o1
    · rw [if_neg hcc] at o1
      exact False.elim o1
  · exact False.elim o1
theorem fe_callOKT {tbl : List (Nat × (Fn × List W))} {E : Expr} (h : ∀ p ∈ tbl, FE T X W0 E (eCallOK [p] ff fk)) (hne : tbl ≠ []) : FE T X W0 E (eCallOK tbl ff fk) := by
  refine ⟨_, pe_ex (ι := {p // p ∈ tbl}) fun p => (Classical.choose_spec (h p.1 p.2)).1, fun mm ls G σ H Q hG hL ho => ?_⟩
  have go : ∀ p (hp : p ∈ tbl), eCallOK tbl ff fk ls G = eCallOK [p] ff fk ls G → ∃ i : {p // p ∈ tbl}, Classical.choose (h i.1 i.2) σ H Q := fun p hp he => ⟨⟨p, hp⟩, (Classical.choose_spec (h p hp)).2 mm ls G σ H Q hG hL (by rw [← he]; exact ho)⟩
  cases e1 : ff ls G with
  | stuck => rw [eCallOK_e, e1] at ho; exact False.elim ho
  | exc w G1 =>
    obtain ⟨p, hp⟩ := List.exists_mem_of_ne_nil tbl hne
    exact go p hp (by rw [eCallOK_e, eCallOK_e, e1]; rfl)
  | ok w G1 =>
    rw [eCallOK_e, e1] at ho
    simp only [Res.bind] at ho
    split at ho
    · rename_i c e2
      split at ho
      · rename_i p e3
        refine go (c, p) (lookup_mem e3) ?_
        rw [eCallOK_e, eCallOK_e, e1]
        simp only [Res.bind, e2, e3]
        have : [(c, p)].lookup c = some p := by simp
        rw [this]
      · exact False.elim ho
    · exact False.elim ho
end
end U

/-! small facts that printed proofs lean on -/
namespace U
open PySem
open L2
theorem perm_lenG {pm : List Nat} {n m : Nat} (h : (pm.all fun i => decide (i < n)) = true) (hm : pm.length = m) : ∀ ws : List W, ws.length = n → (perm pm ws).length = m := by
  intro ws hw
  subst hm
  induction pm with
  | nil => rfl
  | cons i pm ih =>
    rw [List.all_cons, Bool.and_eq_true] at h
    have hi := of_decide_eq_true h.1
    unfold perm at ih ⊢
    have e : ws[i]? = some (ws[i]'(by omega)) := List.getElem?_eq_getElem (by omega)
    rw [List.filterMap_cons, e]
    simp only [List.length_cons]
    rw [ih h.2]
theorem hl_s {fa : EF} {n m : Nat} (h : ∀ ls G ws G1, fa ls G = .ok (.tup ws) G1 → ws.length = n) (e : n + 1 = m) : ∀ ls G ws G1, fa ls G = .ok (.tup ws) G1 → ws.length + 1 = m := fun ls G ws G1 q => by rw [h ls G ws G1 q]; exact e
theorem fldOk_of {T : Tx} {f : Str} {c i : Nat} {l : List Str} (hl : T.lay c = l) (h : (l[i]? == some f && (l.take i).all fun g => g != f) = true) (ok : ∀ C, T.ct c = some C → Cls T.K C ∧ NoAttr T.K C f) : FldOk T f c i := by
  rw [Bool.and_eq_true] at h
  subst hl
  refine ⟨beq_iff_eq.mp h.1, fun j hj e => ?_, ok⟩
  have hm : f ∈ (T.lay c).take i := by
    refine List.mem_of_getElem? (i := j) ?_
    rw [List.getElem?_take_of_lt hj]
    exact e
  have := List.all_eq_true.mp h.2 f hm
  simp at this
theorem fss_stuck {T : Tx} {X : Cx} {W0 : WX} {st : List Stmt} : FSs T X W0 st sStuck := ⟨fun _ _ _ => False, ⟨fun _ _ _ _ _ _ h => False.elim h⟩, fun _ _ _ _ _ _ _ _ ho => ho⟩
theorem dfl_nil : Dfl T [] [] [] := dfl0
theorem law_spA {K : PySem.W.Frag} {H : Hp} {a : Addr} {ns : List Int} {F : Fn} {G : Gs} (hS : SqL K H a (ns.map V.int)) (h : F [.fz (ns.map .int)] [] = .ok (.bl true) G) : ∀ (ct : Nat → Option Addr) (lay : Nat → List Str), spF ⟨K, ct, lay⟩ 1 F [.ref a] H (fun v _ => v = .bl true) fun _ _ _ => False :=
  fun ct lay => law_sp (T := ⟨K, ct, lay⟩) hS h
end U

/-! texts cut and read; a field counted up; an instance that stays; a dict of the module -/
namespace U
open PySem PySem.Spec PyProof.Rows
open L2
def strO (s : Str) : W := .str s.cps.toList
theorem strO_ok {T : Tx} {m : Mm} {H : Hp} (s : Str) : RW T m H (strO s) (.str s) := .str s.cps.toList
theorem strsO_ok {T : Tx} {m : Mm} {H : Hp} : ∀ ss : List Str, RWs T m H (ss.map strO) (ss.map V.str)
  | [] => .nil
  | s :: r => .cons (strO_ok s) (strsO_ok r)
/-! ### s.split(t), s.startswith(t) -/
def splitL (s t : List Nat) : List W := (Txt.split ⟨s.toArray⟩ ⟨t.toArray⟩).map strO
def eSplit (fo fa : EF) : EF := fun ls G => (fo ls G).bind fun o G1 => match o with
  | .str s => (fa ls G1).bind fun w G2 => match w with
    | .str t => if t ≠ [] ∧ s.length + 2 ≤ SZ then .ok (.lst (splitL s t)) G2 else .stuck
    | _ => .stuck
  | _ => .stuck
@[simp] theorem eSplit_e (fo fa : EF) (ls : Ls) (G : Gs) : eSplit fo fa ls G = (fo ls G).bind fun o G1 => match o with
  | .str s => (fa ls G1).bind fun w G2 => match w with
    | .str t => if t ≠ [] ∧ s.length + 2 ≤ SZ then .ok (.lst (splitL s t)) G2 else .stuck
    | _ => .stuck
  | _ => .stuck := rfl
def eStarts (fo fa : EF) : EF := fun ls G => (fo ls G).bind fun o G1 => match o with
  | .str s => (fa ls G1).bind fun w G2 => match w with
    | .str t => .ok (.bl (Txt.startswith ⟨s.toArray⟩ ⟨t.toArray⟩)) G2
    | _ => .stuck
  | _ => .stuck
@[simp] theorem eStarts_e (fo fa : EF) (ls : Ls) (G : Gs) : eStarts fo fa ls G = (fo ls G).bind fun o G1 => match o with
  | .str s => (fa ls G1).bind fun w G2 => match w with
    | .str t => .ok (.bl (Txt.startswith ⟨s.toArray⟩ ⟨t.toArray⟩)) G2
    | _ => .stuck
  | _ => .stuck := rfl
section
variable {T : Tx} {X : Cx} {W0 : WX} {o e : Expr} {fo fa : EF} {apos pos : Pos}
theorem fe_split (c : Ctx T X W0) (ho : FE T X W0 o fo) (he : FE T X W0 e fa) (hs : starEach [e] X.env = [(false, eval e X.env)] := by rfl) (hbase : attributeBase o "split" X.env (eval o X.env) = eval o X.env := by rfl) (hline : (apos.endLine == pos.line) = true := by rfl) :
    FE T X W0 (.Call (.Attribute o "split" apos) [e] [] pos) (eSplit fo fa) := by
  obtain ⟨t, ho, i⟩ := ho
  obtain ⟨te, he, ie⟩ := he
  refine ⟨_, pe_split ho he hs hbase hline, fun m ls G σ H Q hG hL hq => ?_⟩
  refine i.go hG hL hq fun w G1 m1 v H1 k1 g1 r1 l1 o1 => ?_
  cases r1 with
  | str s =>
    refine ⟨⟨_, rfl⟩, ?_⟩
    refine ie.go g1 l1 o1 fun w2 G2 m2 v2 H2 k2 g2 r2 l2 o2 => ?_
    cases r2 with
    | str t =>
      simp only at o2
      split at o2
      · rename_i h
        refine ⟨_, _, rfl, rfl, ?_, by rw [str_len, ← sz_eq]; exact h.2, fun p hp => o2.newL g2 (strsO_ok _) hp⟩
        rw [str_len]
        cases t with
        | nil => exact absurd rfl h.1
        | cons _ _ => rfl
      · exact False.elim o2
    | _ => exact False.elim o2
  | _ => exact False.elim o1
theorem fe_starts (c : Ctx T X W0) (ho : FE T X W0 o fo) (he : FE T X W0 e fa) (hs : starEach [e] X.env = [(false, eval e X.env)] := by rfl) (hbase : attributeBase o "startswith" X.env (eval o X.env) = eval o X.env := by rfl) (hline : (apos.endLine == pos.line) = true := by rfl) :
    FE T X W0 (.Call (.Attribute o "startswith" apos) [e] [] pos) (eStarts fo fa) := by
  obtain ⟨t, ho, i⟩ := ho
  obtain ⟨te, he, ie⟩ := he
  refine ⟨_, pe_m1 PySem.F.slot_str_startswith PySem.F.type_str_startswith mt_startswith ho he hs hbase hline, fun m ls G σ H Q hG hL hq => ?_⟩
  refine i.go hG hL hq fun w G1 m1 v H1 k1 g1 r1 l1 o1 => ?_
  cases r1 with
  | str s =>
    refine ⟨⟨_, rfl⟩, ?_⟩
    refine ie.go g1 l1 o1 fun w2 G2 m2 v2 H2 k2 g2 r2 l2 o2 => ?_
    cases r2 with
    | str t => exact ⟨_, _, rfl, rfl, o2.now g2 (.bl _)⟩
    | _ => exact False.elim o2
  | _ => exact False.elim o1
end
/-! ### int(text) -/
def intD : List W → Gs → Res
  | [.str s], G => if s.length ≤ 640 then (match PySem.intText? ⟨s.toArray⟩ with
    | some n => .ok (.int n) G
    | none => .stuck) else .stuck
  | ws, G => intW ws G
@[simp] theorem intD_e1 (s : List Nat) (G : Gs) : intD [.str s] G = if s.length ≤ 640 then (match PySem.intText? ⟨s.toArray⟩ with
    | some n => .ok (.int n) G
    | none => .stuck) else .stuck := rfl
@[simp] theorem intD_e2 (i : Int) (G : Gs) : intD [.int i] G = .ok (.int i) G := rfl
@[simp] theorem intD_e3 (b : Bool) (G : Gs) : intD [.bl b] G = .ok (.int (if b then 1 else 0)) G := rfl
theorem ib_intD {T : Tx} {W0 : WX} : ImpB T W0 (fun xs H Q => ((∃ i, xs = [.int i] ∧ Q (.int i) H) ∨ ∃ k, xs = [.bl k] ∧ Q (.int (if k then 1 else 0)) H) ∨ ∃ a n, xs = [.str a] ∧ PySem.intText? a = some n ∧ a.length ≤ 640 ∧ Q (.int n) H) intD := by
  intro m G σ H Q ws vs hG r0 ho
  unfold intD at ho
  split at ho
  · obtain ⟨v, rfl, r⟩ := r0.inv1
    cases r
    split at ho
    · rename_i h
      split at ho
      · rename_i n e
        exact .inr ⟨_, n, rfl, e, by rw [str_len]; exact h, ho.now hG (.int _)⟩
      · exact False.elim ho
    · exact False.elim ho
  · exact .inl (ib_int (W0 := W0) m G σ H Q ws vs hG r0 ho)
/-! ### self.f += e -/
def sFldAugW (tbl : List (Nat × Nat)) (fo fv : EF) : SF := fun ls G => (fo ls G).sbind ls fun o G1 => match o with
  | .ref i => (match G1[i]? with
    | some (.ins c xs) => (match tbl.lookup c with
      | some j => (match xs[j]? with
        | some (.int a) => (fv ls G1).sbind ls fun w G2 => match w with
          | .int b => (match G2[i]? with
            | some (.ins c2 ys) => if c2 = c ∧ j < ys.length then .nx ls (G2.set i (.ins c (ys.set j (.int (a + b))))) else .stuck
            | _ => .stuck)
          | _ => .stuck
        | _ => .stuck)
      | none => .stuck)
    | _ => .stuck)
  | _ => .stuck
@[simp] theorem sFldAugW_e (tbl : List (Nat × Nat)) (fo fv : EF) (ls : Ls) (G : Gs) : sFldAugW tbl fo fv ls G = (fo ls G).sbind ls fun o G1 => match o with
  | .ref i => (match G1[i]? with
    | some (.ins c xs) => (match tbl.lookup c with
      | some j => (match xs[j]? with
        | some (.int a) => (fv ls G1).sbind ls fun w G2 => match w with
          | .int b => (match G2[i]? with
            | some (.ins c2 ys) => if c2 = c ∧ j < ys.length then .nx ls (G2.set i (.ins c (ys.set j (.int (a + b))))) else .stuck
            | _ => .stuck)
          | _ => .stuck
        | _ => .stuck)
      | none => .stuck)
    | _ => .stuck)
  | _ => .stuck := rfl
section
variable {T : Tx} {X : Cx} {W0 : WX} {o value : Expr} {fo fv : EF} {pos tpos : Pos} {a : Str}
theorem fs_fldaug (cx : Ctx T X W0) (h : FE T X W0 o fo) (hv : FE T X W0 value fv) {tbl : List (Nat × Nat)} (ht : ∀ p ∈ tbl, FldOk T a p.1 p.2 ∧ (T.lay p.1).length < 1000) :
    FS T X W0 (.AugAssign (.Attribute o a tpos) .Add value pos) (sFldAugW tbl fo fv) := by
  obtain ⟨t, h, i⟩ := h
  obtain ⟨tv, hv, iv⟩ := hv
  refine ⟨_, ps_fldaug h hv in_add, fun m ls G σ H D hG hL ho => ?_⟩
  rw [sFldAugW_e] at ho
  refine i.goS hG hL ho fun ob G1 m1 x H1 k1 g1 r1 l1 o1 => ?_
  split at o1
  · rename_i ix
    cases r1 with
    | @ref _ ad hp =>
    split at o1
    · rename_i c xs hg
      obtain ⟨C, dx, vs, hc, h1, l, r⟩ := g1.ob ix _ ad hg hp
      split at o1
      · rename_i j ej
        obtain ⟨F, hlay⟩ := ht _ (lookup_mem ej)
        have hlay : (T.lay c).length < 1000 := hlay
        obtain ⟨hC, hN⟩ := F.ok C hc
        split at o1
        · rename_i z ez
          obtain ⟨v', ev, rv⟩ := r.get ez
          cases rv
          refine ⟨ad, C, dx, _, _, rfl, h1, by rw [cx.hK]; exact hC, by rw [cx.hK]; exact hN, lookup_zip F.at_ F.fst ev, ?_⟩
          refine iv.goS g1 l1 o1 fun w G2 m2 y H2 k2 g2 r2 l2 o2 => ?_
          split at o2
          · rename_i b
            cases r2
            split at o2
            · rename_i c2 ys hg2
              split at o2
              · rename_i hh
                obtain ⟨rfl, hj⟩ := hh
                have hp2 := k2.get hp
                obtain ⟨C2, dx2, vs2, hc2, h2, l2', r2'⟩ := g2.ob ix _ ad hg2 hp2
                rw [hc] at hc2
                cases hc2
                have hlen := r2'.length
                have hj' : j < vs2.length := by omega
                have kw : ∀ {u : HO}, Keep m2 H2 m2 (upd H2 ad u) := fun {u} => Keep.write (List.mem_of_getElem? hp2)
                refine ⟨_, _, rfl, rfl, dx2, _, h2, by rw [List.length_zip]; omega, ?_⟩
                rw [putF_set F.at_ F.fst hj']
                exact o2 m2 σ _ kw (g2.write hp2 ⟨C, dx2, vs2.set j (.int (z + b)), hc, upd_same, by rw [List.length_set]; exact l2', (r2'.set (.int _) j).keep kw⟩) (l2.keep kw)
              · exact False.elim o2
            · exact False.elim o2
          · exact False.elim o2
        · exact False.elim o1
      · exact False.elim o1
    · exact False.elim o1
  · exact False.elim o1
end
/-! ### an instance made that stays changing -/
section
variable {T : Tx} {X : Cx} {W0 : WX} {e : Expr} {es : List Expr} {fa : EF} {p pos : Pos} {x : Str} {k n c : Nat} {F : Fn} {dws : List W}
theorem fe_makeL (cx : Ctx T X W0) (M : MakeOk T X.prog X.w X.mg X.base k x c n F dws) (hr : Room (k + 1) X.A) (ha : FA T X W0 (e :: es) fa) (hl : ∀ ls G ws G1, fa ls G = .ok (.tup ws) G1 → ws.length + dws.length + 1 = n) (hg : Gl X x := by rfl) (hdb : (x == ("__debug__" : Str)) = false := by decide +kernel)
    (he : starEach (e :: es) X.env = (false, eval e X.env) :: starEach es X.env := by rfl) (hpl : (backTo pos (starEach es X.env)).any (·.1) = false := by rfl) : FE T X W0 (.Call (.Name x p) (e :: es) [] pos) (eFn (mkI c F) dws fa) := by
  obtain ⟨t, ha, it⟩ := ha
  obtain ⟨C, f, fd, ps, dvs, ds, hC, hm, hM, hF, hb, hd⟩ := M.ok
  have hK := cx.hK
  exact ⟨_, pe_makeSD (E := WE W0) (by rw [hK]; exact hM) (by rw [hK]; exact hF) hr hg hm (by rw [hK]; exact hb) hd.1 (passAt cx.tk) ha hdb he hpl, make_imp hC hd.2 it hl⟩
end
/-! ### a dict of the module with text keys -/
def kLook : List (List Nat × Int) → List Nat → Option Int
  | [], _ => none
  | p :: r, s => if p.1 = s then some p.2 else kLook r s
def eKIx (tbl : List (List Nat × Int)) (fi : EF) : EF := fun ls G => (fi ls G).bind fun w G1 => match w with
  | .str s => (match kLook tbl s with
    | some i => .ok (.int i) G1
    | none => .stuck)
  | _ => .stuck
@[simp] theorem eKIx_e (tbl : List (List Nat × Int)) (fi : EF) (ls : Ls) (G : Gs) : eKIx tbl fi ls G = (fi ls G).bind fun w G1 => match w with
  | .str s => (match kLook tbl s with
    | some i => .ok (.int i) G1
    | none => .stuck)
  | _ => .stuck := rfl
def eKIn (tbl : List (List Nat × Int)) (fi : EF) : EF := fun ls G => (fi ls G).bind fun w G1 => match w with
  | .str s => (match kLook tbl s with
    | some i => .ok (.bl true) G1
    | none => .stuck)
  | _ => .stuck
@[simp] theorem eKIn_e (tbl : List (List Nat × Int)) (fi : EF) (ls : Ls) (G : Gs) : eKIn tbl fi ls G = (fi ls G).bind fun w G1 => match w with
  | .str s => (match kLook tbl s with
    | some i => .ok (.bl true) G1
    | none => .stuck)
  | _ => .stuck := rfl
theorem kLook_mem : ∀ {tbl : List (List Nat × Int)} {s : List Nat} {i : Int}, kLook tbl s = some i → (s, i) ∈ tbl
  | p :: r, s, i, h => by
    simp only [kLook] at h
    split at h
    · rename_i e
      cases h
      rw [← e]
      exact List.mem_cons_self
    · exact List.mem_cons_of_mem _ (kLook_mem h)
def rKIn (K : PySem.W.Frag) (w : World) : R2 := fun x y H Q => ∃ p z v, x = .str z ∧ y = .ref p ∧ (p == sysModules) = false ∧ KDct K w p z v ∧ Q (.bl true) H
theorem op_kin {X : Cx} : OpR X (compareOp .In) (rKIn X.K X.w) := by
  intro pins s σ H x y v u Q I rx ry h
  obtain ⟨p, z, r, rfl, rfl, hsys, ⟨es, n, u0, hl, hk, e, ru⟩, q⟩ := h
  obtain rfl : u = Value.ref p := ry
  obtain ⟨t, rfl⟩ := rx
  have hm := PySem.W.mapOf_K (prog := X.prog) (w := X.w) I.kIn hl hk
  refine wpAny_in_of (strKind_is X.prog X.w z t) hsys hm ?_
  rw [PySem.W.find_K hl e]
  exact ⟨.bl true, H, I.tok _, rfl, q⟩
section
variable {T : Tx} {X : Cx} {W0 : WX} {b : Expr} {fb : EF} {p pos : Pos} {x : Str} {E : Addr}
theorem fe_kix (c : Ctx T X W0) {tbl : List (List Nat × Int)} (hE : X.mg x = some (.ref E)) (ht : ∀ q ∈ tbl, KDct T.K X.w E ⟨q.1.toArray⟩ (.int q.2)) (hb : FE T X W0 b fb) (hg : Gl X x := by rfl) (hdb : (x == ("__debug__" : Str)) = false := by decide +kernel) (hs : PlainIx b := by exact fun _ _ => rfl) :
    FE T X W0 (.Subscript (.Name x p) b pos) (eKIx tbl fb) := by
  obtain ⟨t, hb, i⟩ := hb
  refine ⟨_, pe_ix ix_kdict (pe_glob (v := .ref E) hg hE rfl hdb) hb hs, fun m ls G σ H Q hG hL ho => ?_⟩
  refine i.go hG hL ho fun w G1 m1 v H1 k1 g1 r1 l1 o1 => ?_
  split at o1
  · cases r1
    split at o1
    · rename_i s i e
      exact ⟨E, _, .int i, rfl, rfl, by rw [c.hK]; exact ht _ (kLook_mem e), o1.now g1 (.int i)⟩
    · exact False.elim o1
  · exact False.elim o1
theorem fe_kin (c : Ctx T X W0) {tbl : List (List Nat × Int)} (hE : X.mg x = some (.ref E)) (hsys : (E == sysModules) = false) (ht : ∀ q ∈ tbl, KDct T.K X.w E ⟨q.1.toArray⟩ (.int q.2)) (hb : FE T X W0 b fb) (hg : Gl X x := by rfl) (hdb : (x == ("__debug__" : Str)) = false := by decide +kernel) (hm : behindInMarks .In (.Name x p) = false := by rfl) :
    FE T X W0 (.Compare b [.In] [.Name x p] pos) (eKIn tbl fb) := by
  obtain ⟨t, hb, i⟩ := hb
  refine ⟨_, pe_cmpR op_kin hb (pe_glob (v := .ref E) hg hE rfl hdb) hm, fun m ls G σ H Q hG hL ho => ?_⟩
  refine i.go hG hL ho fun w G1 m1 v H1 k1 g1 r1 l1 o1 => ?_
  split at o1
  · cases r1
    split at o1
    · rename_i s i e
      exact ⟨E, _, .int i, rfl, rfl, hsys, by rw [c.hK]; exact ht _ (kLook_mem e), o1.now g1 (.bl true)⟩
    · exact False.elim o1
  · exact False.elim o1
end
theorem kdct_of {K : PySem.W.Frag} {w : World} {E : Addr} {es : Array DictEntry} {n : Nat} {v : Int} {t : Tok} (x : Str) (c : List Nat) (hx : x = ⟨c.toArray⟩) (l : K.lookup E = some ⟨.type "dict", none, .dict es n, #[]⟩) (k : PySem.W.KeysLit w.params es.toList) (e : PySem.W.nsIn K E x = some (some (.int v t))) : KDct K w E ⟨c.toArray⟩ (.int v) := by
  subst hx
  exact ⟨_, _, _, l, k, e, ⟨t, rfl⟩⟩
theorem fe_constI {T : Tx} {X : Cx} {W0 : WX} {x : Str} {v : Int} {t : Tok} {pos : Pos} (hm : X.mg x = some (.int v t)) (hg : Gl X x := by rfl) (hdb : (x == ("__debug__" : Str)) = false := by decide +kernel) : FE T X W0 (.Name x pos) (eC (.int v)) :=
  ⟨_, pe_glob (v := .int v) hg hm ⟨t, rfl⟩ hdb, fun m _ _ _ H _ hG _ ho => ho m _ H (.refl m H) hG (.int v)⟩
theorem hl_l {fa : EF} {n d m : Nat} (h : ∀ ls G ws G1, fa ls G = .ok (.tup ws) G1 → ws.length = n) (e : n + d + 1 = m) : ∀ ls G ws G1, fa ls G = .ok (.tup ws) G1 → ws.length + d + 1 = m := fun ls G ws G1 q => by rw [h ls G ws G1 q]; exact e
end U

namespace U
open PySem
open L2
/- names of is_name: 0:value 1:letter -/
def C1_is_name : EF :=
    (eOp inW (eVar 1) (eC (.str [97, 98, 99, 100, 101, 102, 103, 104, 105, 106, 107, 108, 109, 110, 111, 112, 113, 114, 115, 116, 117, 118, 119, 120, 121, 122])))
def B_is_name : SF :=
    (sSeq (sIf (eNot (eCall isiW (aCons (eVar 0) (aCons (eC (.ty .str)) aNil)))) (sRet (eC (.bl false))) sNil)
    (sRet (eAnd (eChain leW leW (eC (.int 1)) (eCall lenW (aCons (eVar 0) aNil)) (eC (.int 4))) (eCall allW (aCons (eComp [1] (iSeq (eVar 0)) (gN 1) (eC (.bl true)) C1_is_name) aNil)))))
def F_is_name : Fn := mkFn 1 2 B_is_name
/- names of is_integer: 0:value -/
def B_is_integer : SF :=
    (sRet (eAnd (eCall isiW (aCons (eVar 0) (aCons (eC (.ty .int)) aNil))) (eNot (eCall isiW (aCons (eVar 0) (aCons (eC (.ty .bool)) aNil))))))
def F_is_integer : Fn := mkFn 1 1 B_is_integer
/- names of is_number: 0:value 1:least 2:most -/
def B_is_number : SF :=
    (sRet (eAnd (eFn F_is_integer [] (aCons (eVar 0) aNil)) (eChain leW leW (eVar 1) (eVar 0) (eVar 2))))
def F_is_number : Fn := mkFn 3 3 B_is_number
/- names of _law_bag: 0:_law_script -/
def B_law_bag : SF :=
    (sRet (eLstM (aCons (eCall listW (aCons (eSl (eVar 0) pNo (pSm (eC (.int 63)))) aNil)) (aCons (eC (.int 0)) (aCons (eC (.int 0)) (aCons (eOp addW (eC (.int 12002)) (eCall lenW (aCons (eVar 0) aNil))) (aCons (eC (.int 0)) aNil)))))))
def F_law_bag : Fn := mkFn 1 1 B_law_bag
/- names of _law_pull: 0:_law_bag_here 1:_law_many 2:_law_cell 3:_law_digit 4:_law_seed -/
def B_law_pull : SF :=
    (sSeq (sIf (eAnd (eOp eqW (eOp ixW (eVar 0) (eC (.int 2))) (eC (.int 0))) (eOp ltW (eOp ixW (eVar 0) (eC (.int 1))) (eCall lenW (aCons (eOp ixW (eVar 0) (eC (.int 0))) aNil)))) (sSeq (sAsg (eOp ixW (eOp ixW (eVar 0) (eC (.int 0))) (eOp ixW (eVar 0) (eC (.int 1)))) (gN 2))
    (sSeq (sAsg (eOp addW (eOp ixW (eVar 0) (eC (.int 1))) (eC (.int 1))) (gSet (eVar 0) (eC (.int 1))))
    (sIf (eOp geW (eVar 2) (eOp powW (eC (.int 10)) (eC (.int 18)))) (sAsg (eVar 2) (gSet (eVar 0) (eC (.int 2)))) (sAsg (eOp modW (eCall intW (aCons (eOp addW (eOp addW (eOp mulW (eOp ixW (eVar 0) (eC (.int 3))) (eC (.int 48623))) (eOp mulW (eOp modW (eCall intW (aCons (eVar 2) aNil)) (eC (.int 2147483399))) (eC (.int 15017)))) (eC (.int 31))) aNil)) (eC (.int 2147483563))) (gSet (eVar 0) (eC (.int 3))))))) sNil)
    (sSeq (sIf (eOp gtW (eOp ixW (eVar 0) (eC (.int 2))) (eC (.int 0))) (sSeq (sAsg (eOp modW (eCall intW (aCons (eOp ixW (eVar 0) (eC (.int 2))) aNil)) (eVar 1)) (gN 3))
    (sSeq (sAsg (eOp divW (eOp ixW (eVar 0) (eC (.int 2))) (eVar 1)) (gSet (eVar 0) (eC (.int 2))))
    (sRet (eVar 3)))) sNil)
    (sSeq (sAsg (eOp addW (eOp ixW (eVar 0) (eC (.int 4))) (eC (.int 1))) (gSet (eVar 0) (eC (.int 4))))
    (sSeq (sAsg (eOp ixW (eVar 0) (eC (.int 3))) (gN 4))
    (sSeq (sAsg (eOp modW (eCall intW (aCons (eOp addW (eOp addW (eOp addW (eOp mulW (eOp mulW (eVar 4) (eVar 4)) (eC (.int 7))) (eOp mulW (eVar 4) (eC (.int 31159)))) (eOp mulW (eOp ixW (eVar 0) (eC (.int 4))) (eC (.int 1299841)))) (eC (.int 70003))) aNil)) (eC (.int 2147483543))) (gSet (eVar 0) (eC (.int 3))))
    (sRet (eOp modW (eCall intW (aCons (eOp addW (eOp divW (eOp ixW (eVar 0) (eC (.int 3))) (eC (.int 73))) (eOp mulW (eOp modW (eCall intW (aCons (eOp ixW (eVar 0) (eC (.int 3))) aNil)) (eC (.int 7919))) (eC (.int 59)))) aNil)) (eVar 1))))))))
def F_law_pull : Fn := mkFn 2 5 B_law_pull
/- names of _law_any: 0:_law_bag_here 1:_law_things -/
def B_law_any : SF :=
    (sRet (eOp ixW (eVar 1) (eFn F_law_pull [] (aCons (eVar 0) (aCons (eCall lenW (aCons (eVar 1) aNil)) aNil)))))
def F_law_any : Fn := mkFn 2 2 B_law_any
/- names of _law_same: 0:_law_found 1:_law_due 2:_law_one 3:_law_two -/
def C1_law_same (F_rec : Fn) : EF :=
    (eFn F_rec [] (aCons (eVar 2) (aCons (eVar 3) aNil)))
def B_law_same (F_rec : Fn) : SF :=
    (sSeq (sIf (eCall isiW (aCons (eVar 1) (aCons (eTup (aCons (eC (.ty .list)) (aCons (eC (.ty .tuple)) aNil))) aNil))) (sSeq (sIf (eOr (eOp neW (eCall isiW (aCons (eVar 0) (aCons (eC (.ty .list)) aNil))) (eCall isiW (aCons (eVar 1) (aCons (eC (.ty .list)) aNil)))) (eOp neW (eCall isiW (aCons (eVar 0) (aCons (eC (.ty .tuple)) aNil))) (eCall isiW (aCons (eVar 1) (aCons (eC (.ty .tuple)) aNil))))) (sRet (eC (.bl false))) sNil)
    (sRet (eAnd (eOp eqW (eCall lenW (aCons (eVar 0) aNil)) (eCall lenW (aCons (eVar 1) aNil))) (eCall allW (aCons (eComp [2, 3] (iZipW (aCons (eVar 0) (aCons (eVar 1) aNil))) (gT 2 (gs1 (gN 2) (gs1 (gN 3) gs0))) (eC (.bl true)) (C1_law_same F_rec)) aNil))))) sNil)
    (sSeq (sIf (eOr (eOp isW (eVar 1) (eC .non)) (eOp isW (eVar 0) (eC .non))) (sRet (eAnd (eOp isW (eVar 1) (eC .non)) (eOp isW (eVar 0) (eC .non)))) sNil)
    (sSeq (sIf (eOr (eOp neW (eCall isiW (aCons (eVar 0) (aCons (eC (.ty .bool)) aNil))) (eCall isiW (aCons (eVar 1) (aCons (eC (.ty .bool)) aNil)))) (eOp neW (eCall isiW (aCons (eVar 0) (aCons (eC (.ty .int)) aNil))) (eCall isiW (aCons (eVar 1) (aCons (eC (.ty .int)) aNil))))) (sRet (eC (.bl false))) sNil)
    (sRet (eAnd (eOp eqW (eCall isiW (aCons (eVar 0) (aCons (eC (.ty .str)) aNil))) (eCall isiW (aCons (eVar 1) (aCons (eC (.ty .str)) aNil)))) (eOp eqW (eVar 0) (eVar 1)))))))
def F_law_same : Nat → Fn
  | 0 => fun _ _ => .stuck
  | nrec + 1 => mkFn 2 4 (B_law_same (F_law_same nrec))
/- names of _law_names: 0:_law_bag_here 1:_law_many 2:_law_letters 3:_law_stem 4:_law_at 5:_law_first 6:_law_k -/
def C1_law_names : EF :=
    (eFn F_law_any [] (aCons (eVar 0) (aCons (eVar 2) aNil)))
def C2_law_names : EF :=
    (eOp addW (eOp addW (eSl (eVar 3) pNo (pSm (eVar 4))) (eOp ixW (eVar 2) (eOp modW (eCall intW (aCons (eOp addW (eVar 5) (eOp mulW (eC (.int 7)) (eVar 6))) aNil)) (eC (.int 26))))) (eSl (eVar 3) (pSm (eVar 4)) pNo))
def B_law_names : SF :=
    (sSeq (sAsg (eC (.str [97, 98, 99, 100, 101, 102, 103, 104, 105, 106, 107, 108, 109, 110, 111, 112, 113, 114, 115, 116, 117, 118, 119, 120, 121, 122])) (gN 2))
    (sSeq (sAsg (eJoin (eC (.str [])) (eComp [6] (iRange1 (aCons (eFn F_law_pull [] (aCons (eVar 0) (aCons (eC (.int 4)) aNil))) aNil)) (gN 6) (eC (.bl true)) C1_law_names)) (gN 3))
    (sSeq (sAsg (eTup (aCons (eFn F_law_pull [] (aCons (eVar 0) (aCons (eOp addW (eCall lenW (aCons (eVar 3) aNil)) (eC (.int 1))) aNil))) (aCons (eFn F_law_pull [] (aCons (eVar 0) (aCons (eC (.int 26)) aNil))) aNil))) (gT 2 (gs1 (gN 4) (gs1 (gN 5) gs0))))
    (sRet (eComp [6] (iRange1 (aCons (eVar 1) aNil)) (gN 6) (eC (.bl true)) C2_law_names)))))
def F_law_names : Fn := mkFn 2 7 B_law_names
/-! ### draws -/
def bag (cells : List Int) (spot rest seed cnt : Int) : O := .lst [.lst (cells.map .int), .int spot, .int rest, .int seed, .int cnt]
structure BagOk (c : Nat) (o : O) : Prop where
  ex : ∃ (cells : List Int) (spot : Nat) (rest seed cnt : Int), o = bag cells spot rest seed cnt ∧ spot ≤ cells.length ∧ 0 ≤ rest ∧ 0 ≤ seed ∧ seed < 2147483563 ∧ 0 ≤ cnt ∧ cnt ≤ c
theorem BagOk.mono {c c' : Nat} {o : O} (h : BagOk c o) (hc : c ≤ c') : BagOk c' o := by
  obtain ⟨cells, spot, rest, seed, cnt, e, h1, h2, h3, h4, h5, h6⟩ := h
  exact ⟨cells, spot, rest, seed, cnt, e, h1, h2, h3, h4, h5, by omega⟩
theorem cMul_of {i j : Int} (hi : i.natAbs < 2 ^ 100) (hj : j.natAbs < 2 ^ 100) : cMul i j = true := by
  unfold cMul
  have := L2.wide_mul hi hj (by decide) (by decide) (by decide)
  exact decide_eq_true this
theorem cMul_small {i j : Int} (h1 : -1000000000000 < i) (h2 : i < 1000000000000) (h3 : -1000000000000 < j) (h4 : j < 1000000000000) : cMul i j = true := by
  refine cMul_of ?_ ?_
  · have : (2:Nat) ^ 100 = 1267650600228229401496703205376 := by decide
    omega
  · have : (2:Nat) ^ 100 = 1267650600228229401496703205376 := by decide
    omega
theorem cDiv_of {j : Int} (h1 : 0 < j) (h2 : j < 1000000000000) : cDiv j = true := by
  unfold cDiv
  have : (2:Nat) ^ 100 = 1267650600228229401496703205376 := by decide
  have := L2.wide_div (i := 0) h1 (b := 100) (by omega) (by decide) (by decide)
  rw [decide_eq_true h1, decide_eq_true this.2]
  rfl
theorem pull_rest (cells : List Int) (spot rest seed cnt many : Int) (R : Gs) (h : rest > 0) (hm : 0 < many) (hd : cDiv many = true) : F_law_pull [.ref 0, .int many] (bag cells spot rest seed cnt :: R) = .ok (.int (rest % many)) (bag cells spot (rest / many) seed cnt :: R) := by
  have h0 : ¬ rest = 0 := by omega
  simp [F_law_pull, B_law_pull, atI, ixN, bag, h0, h, hm, hd]

def nextSeed (seed cnt : Int) : Int := (seed * seed * 7 + seed * 31159 + cnt * 1299841 + 70003) % 2147483543
def drawn (seed : Int) : Int := seed / 73 + seed % 7919 * 59
theorem nextSeed_lo (seed cnt : Int) : 0 ≤ nextSeed seed cnt := Int.emod_nonneg _ (by decide)
theorem nextSeed_hi (seed cnt : Int) : nextSeed seed cnt < 2147483543 := Int.emod_lt_of_pos _ (by decide)
theorem pull_seed (cells : List Int) (spot : Nat) (seed cnt many : Int) (R : Gs) (hs : cells.length ≤ spot) (hm : 0 < many) (h1 : 0 ≤ seed) (h2 : seed < 2147483563) (h3 : 0 ≤ cnt) (h4 : cnt < 100000000000) :
    F_law_pull [.ref 0, .int many] (bag cells spot 0 seed cnt :: R) = .ok (.int (drawn (nextSeed seed (cnt + 1)) % many)) (bag cells spot 0 (nextSeed seed (cnt + 1)) (cnt + 1) :: R) := by
  have hn : ¬ ((spot : Int) < (cells.length : Int)) := by omega
  have e1 : cMul seed seed = true := cMul_small (by omega) (by omega) (by omega) (by omega)
  have e2 : cMul (seed * seed) 7 = true := by
    refine cMul_of (L2.wide_lt (a := 50) (b := 50) ?_ ?_) (by decide)
    · have : (2:Nat) ^ 50 = 1125899906842624 := by decide
      omega
    · have : (2:Nat) ^ 50 = 1125899906842624 := by decide
      omega
  have e3 : cMul seed 31159 = true := cMul_small (by omega) (by omega) (by omega) (by omega)
  have e4 : cMul (cnt + 1) 1299841 = true := cMul_small (by omega) (by omega) (by omega) (by omega)
  have l1 := nextSeed_lo seed (cnt + 1)
  have l2 := nextSeed_hi seed (cnt + 1)
  have e5 : cMul (nextSeed seed (cnt + 1) % 7919) 59 = true := cMul_small (by omega) (by omega) (by omega) (by omega)
  have e6 : cDiv 73 = true := by decide +kernel
  unfold nextSeed at e5
  simp [F_law_pull, B_law_pull, atI, ixN, bag, hn, hm, e1, e2, e3, e4, e5, e6, nextSeed, drawn]
theorem pull_big (cells : List Int) (spot : Nat) (seed cnt many : Int) (R : Gs) (hs : spot < cells.length) (hb : cells[spot] ≥ 1000000000000000000) (hm : 0 < many) (hd : cDiv many = true) :
    F_law_pull [.ref 0, .int many] (bag cells spot 0 seed cnt :: R) = .ok (.int (cells[spot] % many)) (bag cells ((spot + 1 : Nat) : Int) (cells[spot] / many) seed cnt :: R) := by
  have hn : ((spot : Int) < (cells.length : Int)) := by omega
  have hp : cPow 10 18 = true := by decide +kernel
  have e : (10 : Int) ^ (18 : Int).toNat = 1000000000000000000 := by decide +kernel
  have hb' : (1000000000000000000 : Int) ≤ cells[spot] := hb
  have h0 : (0 : Int) < cells[spot] := by omega
  have h0' : ¬ cells[spot] = 0 := by omega
  simp [F_law_pull, B_law_pull, atI, ixN, bag, hn, hm, hd, hp, e, hb', h0, h0', List.getElem?_map, hs]
def mixSeed (seed cell : Int) : Int := (seed * 48623 + cell % 2147483399 * 15017 + 31) % 2147483563
theorem pull_small (cells : List Int) (spot : Nat) (seed cnt many : Int) (R : Gs) (hs : spot < cells.length) (hb : ¬ cells[spot] ≥ 1000000000000000000) (hm : 0 < many) (h1 : 0 ≤ seed) (h2 : seed < 2147483563) (h3 : 0 ≤ cnt) (h4 : cnt < 100000000000) :
    F_law_pull [.ref 0, .int many] (bag cells spot 0 seed cnt :: R) = .ok (.int (drawn (nextSeed (mixSeed seed cells[spot]) (cnt + 1)) % many)) (bag cells ((spot + 1 : Nat) : Int) 0 (nextSeed (mixSeed seed cells[spot]) (cnt + 1)) (cnt + 1) :: R) := by
  have hn : ((spot : Int) < (cells.length : Int)) := by omega
  have hp : cPow 10 18 = true := by decide +kernel
  have e : (10 : Int) ^ (18 : Int).toNat = 1000000000000000000 := by decide +kernel
  have hb' : ¬ (1000000000000000000 : Int) ≤ cells[spot] := hb
  have x1 := Int.emod_nonneg cells[spot] (b := 2147483399) (by decide)
  have x2 := Int.emod_lt_of_pos cells[spot] (b := 2147483399) (by decide)
  have d1 : cMul seed 48623 = true := cMul_small (by omega) (by omega) (by omega) (by omega)
  have d2 : cMul (cells[spot] % 2147483399) 15017 = true := cMul_small (by omega) (by omega) (by omega) (by omega)
  have y1 : 0 ≤ mixSeed seed cells[spot] := Int.emod_nonneg _ (by decide)
  have y2 : mixSeed seed cells[spot] < 2147483563 := Int.emod_lt_of_pos _ (by decide)
  have e1 : cMul (mixSeed seed cells[spot]) (mixSeed seed cells[spot]) = true := cMul_small (by omega) (by omega) (by omega) (by omega)
  have e2 : cMul (mixSeed seed cells[spot] * mixSeed seed cells[spot]) 7 = true := by
    refine cMul_of (L2.wide_lt (a := 50) (b := 50) ?_ ?_) (by decide)
    · have : (2:Nat) ^ 50 = 1125899906842624 := by decide
      omega
    · have : (2:Nat) ^ 50 = 1125899906842624 := by decide
      omega
  have e3 : cMul (mixSeed seed cells[spot]) 31159 = true := cMul_small (by omega) (by omega) (by omega) (by omega)
  have e4 : cMul (cnt + 1) 1299841 = true := cMul_small (by omega) (by omega) (by omega) (by omega)
  have l1 := nextSeed_lo (mixSeed seed cells[spot]) (cnt + 1)
  have l2 := nextSeed_hi (mixSeed seed cells[spot]) (cnt + 1)
  have e5 : cMul (nextSeed (mixSeed seed cells[spot]) (cnt + 1) % 7919) 59 = true := cMul_small (by omega) (by omega) (by omega) (by omega)
  have e6 : cDiv 73 = true := by decide +kernel
  unfold nextSeed at e5
  unfold mixSeed at e1 e2 e3 e5
  simp [F_law_pull, B_law_pull, atI, ixN, bag, hn, hm, hp, e, hb', d1, d2, e1, e2, e3, e4, e5, e6, nextSeed, drawn, mixSeed, List.getElem?_map, hs]
/-- a draw below many -/
theorem pull_ok {c : Nat} {o : O} (h : BagOk c o) (hc : c ≤ 1000000) {many : Int} (h1 : 0 < many) (h2 : many ≤ 1000000000) (R : Gs) :
    ∃ r o', F_law_pull [.ref 0, .int many] (o :: R) = .ok (.int r) (o' :: R) ∧ BagOk (c + 1) o' ∧ 0 ≤ r ∧ r < many := by
  obtain ⟨cells, spot, rest, seed, cnt, rfl, hs, hr, hs1, hs2, hc1, hc2⟩ := h
  have hd : cDiv many = true := cDiv_of h1 (by omega)
  have m1 : ∀ x : Int, 0 ≤ x % many := fun x => Int.emod_nonneg x (by omega)
  have m2 : ∀ x : Int, x % many < many := fun x => Int.emod_lt_of_pos x h1
  by_cases h0 : rest > 0
  · exact ⟨_, _, pull_rest cells spot rest seed cnt many R h0 h1 hd, ⟨cells, spot, _, seed, cnt, rfl, hs, Int.ediv_nonneg hr (by omega), hs1, hs2, hc1, by omega⟩, m1 _, m2 _⟩
  · obtain rfl : rest = 0 := by omega
    by_cases hl : cells.length ≤ spot
    · exact ⟨_, _, pull_seed cells spot seed cnt many R hl h1 hs1 hs2 hc1 (by omega), ⟨cells, spot, 0, _, _, rfl, hs, Int.le_refl _, nextSeed_lo _ _, by have := nextSeed_hi seed (cnt + 1); omega, by omega, by omega⟩, m1 _, m2 _⟩
    · have hl' : spot < cells.length := by omega
      by_cases hb : cells[spot] ≥ 1000000000000000000
      · exact ⟨_, _, pull_big cells spot seed cnt many R hl' hb h1 hd, ⟨cells, spot + 1, _, seed, cnt, rfl, hl', Int.ediv_nonneg (by omega) (by omega), hs1, hs2, hc1, by omega⟩, m1 _, m2 _⟩
      · exact ⟨_, _, pull_small cells spot seed cnt many R hl' hb h1 hs1 hs2 hc1 (by omega), ⟨cells, spot + 1, 0, _, _, rfl, hl', Int.le_refl _, nextSeed_lo _ _, by have := nextSeed_hi (mixSeed seed cells[spot]) (cnt + 1); omega, by omega, by omega⟩, m1 _, m2 _⟩

/-! ### comprehensions and loops -/
theorem compL_map (g : TF) (ft fe : EF) (ls0 : Ls) (f : W → W) (G : Gs) : ∀ (items acc : List W), (∀ w ∈ items, ∃ ls1, g w ls0 G = .nx ls1 G ∧ ft ls1 G = .ok (.bl true) G ∧ fe ls1 G = .ok (f w) G) → acc.length + items.length ≤ SZ →
    compL g ft fe ls0 items acc G = .ok (.lst (acc ++ items.map f)) G
  | [], acc, _, _ => by simp [compL]
  | w :: r, acc, h, hz => by
    obtain ⟨ls1, e1, e2, e3⟩ := h w List.mem_cons_self
    rw [List.length_cons] at hz
    have hl : acc.length < SZ := by omega
    simp only [compL, e1, e2, e3, if_pos hl]
    rw [compL_map g ft fe ls0 f G r (acc ++ [f w]) (fun x hx => h x (List.mem_cons_of_mem _ hx)) (by rw [List.length_append, List.length_singleton]; omega)]
    simp
theorem compL_filter (g : TF) (ft fe : EF) (ls0 : Ls) (p : W → Bool) (f : W → W) (G : Gs) : ∀ (items acc : List W), (∀ w ∈ items, ∃ ls1, g w ls0 G = .nx ls1 G ∧ ft ls1 G = .ok (.bl (p w)) G ∧ (p w = true → fe ls1 G = .ok (f w) G)) → acc.length + items.length ≤ SZ →
    compL g ft fe ls0 items acc G = .ok (.lst (acc ++ (items.filter p).map f)) G
  | [], acc, _, _ => by simp [compL]
  | w :: r, acc, h, hz => by
    obtain ⟨ls1, e1, e2, e3⟩ := h w List.mem_cons_self
    rw [List.length_cons] at hz
    have hl : acc.length < SZ := by omega
    cases hp : p w with
    | false =>
      rw [hp] at e2
      simp only [compL, e1, e2]
      rw [compL_filter g ft fe ls0 p f G r acc (fun x hx => h x (List.mem_cons_of_mem _ hx)) (by omega), List.filter_cons, hp]
      rfl
    | true =>
      rw [hp] at e2
      simp only [compL, e1, e2, e3 hp, if_pos hl]
      rw [compL_filter g ft fe ls0 p f G r (acc ++ [f w]) (fun x hx => h x (List.mem_cons_of_mem _ hx)) (by rw [List.length_append, List.length_singleton]; omega), List.filter_cons, hp]
      simp
theorem compL_inv (g : TF) (ft fe : EF) (ls0 : Ls) (P : Nat → List W → Gs → Prop) : ∀ (items acc : List W) (k : Nat) (G : Gs),
    (∀ j w acc G, items[j]? = some w → P (k + j) acc G → ∃ ls1 G1 G2 y G3, g w ls0 G = .nx ls1 G1 ∧ ft ls1 G1 = .ok (.bl true) G2 ∧ fe ls1 G2 = .ok y G3 ∧ acc.length < SZ ∧ P (k + j + 1) (acc ++ [y]) G3) → P k acc G →
    ∃ acc' G', compL g ft fe ls0 items acc G = .ok (.lst acc') G' ∧ P (k + items.length) acc' G'
  | [], acc, k, G, _, h0 => ⟨acc, G, rfl, h0⟩
  | w :: r, acc, k, G, h, h0 => by
    obtain ⟨ls1, G1, G2, y, G3, e1, e2, e3, hl, p⟩ := h 0 w acc G rfl h0
    obtain ⟨acc', G', e, q⟩ := compL_inv g ft fe ls0 P r (acc ++ [y]) (k + 1) G3 (fun j x acc G hx hp => by
      have e : k + (j + 1) = k + 1 + j := by omega
      have := h (j + 1) x acc G (by simpa using hx) (by rw [e]; exact hp)
      rw [e] at this
      exact this) p
    refine ⟨acc', G', ?_, ?_⟩
    · simp only [compL, e1, e2, e3, if_pos hl]
      exact e
    · rw [List.length_cons]
      have e : k + (r.length + 1) = k + 1 + r.length := by omega
      rw [e]
      exact q
theorem forL_inv (g : TF) (body : SF) (P : Nat → Ls → Gs → Prop) : ∀ (items : List W) (k : Nat) (ls : Ls) (G : Gs),
    (∀ j w ls G, items[j]? = some w → P (k + j) ls G → ∃ ls1 G1 ls2 G2, g w ls G = .nx ls1 G1 ∧ (body ls1 G1 = .nx ls2 G2 ∨ body ls1 G1 = .ct ls2 G2) ∧ P (k + j + 1) ls2 G2) → P k ls G →
    ∃ ls' G', forL g body items ls G = .nx ls' G' ∧ P (k + items.length) ls' G'
  | [], k, ls, G, _, h0 => ⟨ls, G, rfl, h0⟩
  | w :: r, k, ls, G, h, h0 => by
    obtain ⟨ls1, G1, ls2, G2, e1, e2, p⟩ := h 0 w ls G rfl h0
    obtain ⟨ls', G', e, q⟩ := forL_inv g body P r (k + 1) ls2 G2 (fun j x ls G hx hp => by
      have e : k + (j + 1) = k + 1 + j := by omega
      have := h (j + 1) x ls G (by simpa using hx) (by rw [e]; exact hp)
      rw [e] at this
      exact this) p
    refine ⟨ls', G', ?_, ?_⟩
    · rcases e2 with e2 | e2 <;> (simp only [forL, e1, e2]; exact e)
    · rw [List.length_cons]
      have e : k + (r.length + 1) = k + 1 + r.length := by omega
      rw [e]
      exact q

/-! ### the bag, a thing of some -/
theorem cut_take {α : Type} (xs : List α) (n : Nat) : cut xs none (some (n : Int)) = xs.take n := by
  unfold cut
  rw [HT.sIx_none, HT.sIx_nat, List.drop_zero, Nat.sub_zero, ← List.take_take, List.take_length]
theorem bag_ok (ns : List Int) (h : ns.length ≤ 63) : ∃ o, F_law_bag [.fz (ns.map .int)] [] = .ok (.ref 0) [o] ∧ BagOk 0 o := by
  refine ⟨bag (ns.take 63) (0 : Nat) 0 (12002 + ns.length) 0, ?_, ns.take 63, 0, 0, 12002 + ns.length, 0, rfl, Nat.zero_le _, Int.le_refl _, by omega, by omega, Int.le_refl _, Int.le_refl _⟩
  have e : cut (ns.map W.int) none (some 63) = (ns.take 63).map W.int := by
    have := cut_take (ns.map W.int) 63
    rw [List.map_take]
    exact this
  simp [F_law_bag, B_law_bag, e, SZ, bag]
theorem any_ok {c : Nat} {o : O} (h : BagOk c o) (hc : c ≤ 1000000) (xs : List W) (h1 : 0 < xs.length) (h2 : xs.length ≤ 1000000) (R : Gs) :
    ∃ (k : Nat) (x : W) (o' : O), F_law_any [.ref 0, .lst xs] (o :: R) = .ok x (o' :: R) ∧ BagOk (c + 1) o' ∧ xs[k]? = some x := by
  obtain ⟨r, o', e, hb, hr1, hr2⟩ := pull_ok h hc (many := (xs.length : Int)) (by omega) (by omega) R
  obtain ⟨k, rfl⟩ : ∃ k : Nat, r = k := ⟨r.toNat, by omega⟩
  have hk : k < xs.length := by omega
  refine ⟨k, xs[k], o', ?_, hb, by simp [hk]⟩
  simp [F_law_any, B_law_any, e, atI, ixN, hk]
theorem any_str {c : Nat} {o : O} (h : BagOk c o) (hc : c ≤ 1000000) (s : List Nat) (h1 : 0 < s.length) (h2 : s.length ≤ 1000000) (R : Gs) :
    ∃ (k : Nat) (x : Nat) (o' : O), F_law_any [.ref 0, .str s] (o :: R) = .ok (.str [x]) (o' :: R) ∧ BagOk (c + 1) o' ∧ s[k]? = some x := by
  obtain ⟨r, o', e, hb, hr1, hr2⟩ := pull_ok h hc (many := (s.length : Int)) (by omega) (by omega) R
  obtain ⟨k, rfl⟩ : ∃ k : Nat, r = k := ⟨r.toNat, by omega⟩
  have hk : k < s.length := by omega
  have hz : s.length ≤ 16777216 := by omega
  refine ⟨k, s[k], o', ?_, hb, by simp [hk]⟩
  simp [F_law_any, B_law_any, e, atI, ixN, hk, hz]

/-! ### equal to itself -/
/-- data of at most this depth: none, bools, ints, texts, lists and tuples -/
def datW : Nat → W → Bool
  | 0, _ => false
  | n + 1, w => match w with
    | .non => true
    | .bl _ => true
    | .int _ => true
    | .str _ => true
    | .tup xs => xs.all (datW n) && decide (xs.length ≤ SZ)
    | .lst xs => xs.all (datW n) && decide (xs.length ≤ SZ)
    | _ => false
theorem zipL_self : ∀ xs : List W, zipL xs xs = xs.map fun x => .tup [x, x]
  | [] => rfl
  | x :: xs => by rw [zipL, zipL_self xs]; rfl
theorem bls_map {α : Type} (f : α → Bool) : ∀ xs : List α, blsOf (xs.map fun x => W.bl (f x)) = some (xs.map f)
  | [] => rfl
  | x :: xs => by simp [bls_map f xs]
theorem bls_true (xs : List W) : blsOf (xs.map fun _ => W.bl true) = some (xs.map fun _ => true) := bls_map (fun _ => true) xs
theorem all_true {α : Type} (xs : List α) : (xs.map fun _ => true).all id = true := by simp
theorem same_refl : ∀ (n : Nat) (w : W) (G : Gs), datW n w = true → F_law_same n [w, w] G = .ok (.bl true) G
  | 0, _, _, h => by simp [datW] at h
  | n + 1, w, G, h => by
    have comp : ∀ xs : List W, xs.all (datW n) = true → xs.length ≤ SZ → ∀ ls0 : Ls, ls0.length = 4 → compL (gT 2 (gs1 (gN 2) (gs1 (gN 3) gs0))) (eC (.bl true)) (C1_law_same (F_law_same n)) ls0 (zipL xs xs) [] G = .ok (.lst (xs.map fun _ => .bl true)) G := fun xs hx hz ls0 hl => by
      match ls0, hl with
      | [a, b, c, d], _ =>
        rw [zipL_self]
        have := compL_map (gT 2 (gs1 (gN 2) (gs1 (gN 3) gs0))) (eC (.bl true)) (C1_law_same (F_law_same n)) [a, b, c, d] (fun _ => .bl true) G (xs.map fun x => .tup [x, x]) [] (fun w hw => by
          obtain ⟨x, hx', rfl⟩ := List.mem_map.mp hw
          have hd := List.all_eq_true.mp hx x hx'
          exact ⟨[a, b, some x, some x], by simp, by simp, by simp [C1_law_same, same_refl n x G hd]⟩) (by simpa using hz)
        rw [this]
        simp [List.map_map, Function.comp_def]
    cases w with
    | non => simp [F_law_same, B_law_same]
    | bl b => simp [F_law_same, B_law_same]
    | int b => simp [F_law_same, B_law_same]
    | str b => simp [F_law_same, B_law_same]
    | tup xs =>
      simp only [datW, Bool.and_eq_true, decide_eq_true_eq] at h
      have := comp xs h.1 h.2 [some (.tup xs), some (.tup xs), none, none] rfl
      have hz : xs.length ≤ 16777216 := h.2
      simp [F_law_same, B_law_same, wipeL, this, bls_true, hz]
    | lst xs =>
      simp only [datW, Bool.and_eq_true, decide_eq_true_eq] at h
      have := comp xs h.1 h.2 [some (.lst xs), some (.lst xs), none, none] rfl
      have hz : xs.length ≤ 16777216 := h.2
      simp [F_law_same, B_law_same, wipeL, this, bls_true, hz]
    | _ => simp [datW] at h

/-! ### names, numbers -/
theorem cut_drop {α : Type} (xs : List α) (n : Nat) : cut xs (some (n : Int)) none = xs.drop n := by
  unfold cut
  rw [HT.sIx_none, HT.sIx_nat]
  rcases Nat.le_total n xs.length with h | h
  · rw [Nat.min_eq_left h]
    exact List.take_of_length_le (by rw [List.length_drop]; exact Nat.le_refl _)
  · rw [Nat.min_eq_right h, List.drop_length, List.drop_of_length_le h]
    exact List.take_nil
theorem rngL_len (i : Int) (n : Nat) : (rngL i n).length = n := by simp [rngL]
theorem rngL_mem {w : W} {n : Nat} (h : w ∈ rngL 0 n) : ∃ k : Nat, k < n ∧ w = .int (k : Int) := by
  unfold rngL at h
  obtain ⟨k, hk, rfl⟩ := List.mem_map.mp h
  exact ⟨k, List.mem_range.mp hk, by simp⟩
theorem rngL_get {w : W} {n j : Nat} (h : (rngL 0 n)[j]? = some w) : j < n ∧ w = .int (j : Int) := by
  have hj : j < n := by
    have := (List.getElem?_eq_some_iff.mp h).1
    rwa [rngL_len] at this
  refine ⟨hj, ?_⟩
  unfold rngL at h
  rw [List.getElem?_map, List.getElem?_range hj] at h
  simp at h
  exact h.symm
theorem joinL_one : ∀ s : List Nat, TL.joinL [] (s.map fun c => [c]) = s
  | [] => rfl
  | [_] => rfl
  | a :: b :: r => by
    have := joinL_one (b :: r)
    simp only [List.map_cons] at this ⊢
    rw [TL.joinL, this]
    rfl
theorem strs_one : ∀ s : List Nat, strsOf (s.map fun c => W.str [c]) = some (s.map fun c => [c])
  | [] => rfl
  | a :: r => by simp [strs_one r]
theorem sum_one : ∀ s : List Nat, ((s.map fun c => [c]).map (·.length)).sum = s.length
  | [] => rfl
  | a :: r => by simp only [List.map_cons, List.sum_cons, sum_one r, List.length_cons, List.length_nil]; omega
def LET : List Nat := [97, 98, 99, 100, 101, 102, 103, 104, 105, 106, 107, 108, 109, 110, 111, 112, 113, 114, 115, 116, 117, 118, 119, 120, 121, 122]
theorem let_mem (c : Nat) : c ∈ LET ↔ 97 ≤ c ∧ c ≤ 122 := by
  unfold LET
  simp only [List.mem_cons, List.not_mem_nil, or_false]
  omega
theorem let_get : ∀ i < 26, LET[i]? = some (97 + i) := by decide
def isLet (c : Nat) : Bool := decide (c ∈ LET)
def nameB (s : List Nat) : Bool := decide (1 ≤ s.length) && decide (s.length ≤ 4) && s.all isLet
theorem all_bl {α : Type} (f : α → Bool) (xs : List α) : (xs.map f).all id = xs.all f := by
  rw [List.all_map]; rfl
theorem is_name_str (s : List Nat) (hz : s.length ≤ 1000000) (G : Gs) : F_is_name [.str s] G = .ok (.bl (nameB s)) G := by
  have comp : ∀ ls0 : Ls, ls0.length = 2 → compL (gN 1) (eC (.bl true)) C1_is_name ls0 (s.map fun c => W.str [c]) [] G = .ok (.lst (s.map fun c => .bl (isLet c))) G := fun ls0 hl => by
    match ls0, hl with
    | [a, b], _ =>
      have := compL_map (gN 1) (eC (.bl true)) C1_is_name [a, b] (fun w => match w with | .str [c] => .bl (isLet c) | _ => .non) G (s.map fun c => .str [c]) [] (fun w hw => by
        obtain ⟨c, hc, rfl⟩ := List.mem_map.mp hw
        exact ⟨[a, some (.str [c])], by simp, by simp, by simp [C1_is_name, isLet, LET]⟩) (by simp [SZ]; omega)
      rw [this]
      simp [List.map_map, Function.comp_def]
  have := comp [some (.str s), none] rfl
  have hz' : s.length ≤ 16777216 := by omega
  have hb := bls_map isLet s
  unfold nameB
  by_cases h1 : 1 ≤ s.length
  · have h1' : (1 : Int) ≤ (s.length : Int) := by omega
    by_cases h4 : s.length ≤ 4
    · have h4' : (s.length : Int) ≤ 4 := by omega
      simp [F_is_name, B_is_name, this, hz', hb, h1, h1', h4, h4', all_bl]
    · have h4' : ¬ (s.length : Int) ≤ 4 := by omega
      simp [F_is_name, B_is_name, this, hz', hb, h1, h1', h4, h4']
  · have h1' : ¬ (1 : Int) ≤ (s.length : Int) := by omega
    simp [F_is_name, B_is_name, this, hz', hb, h1, h1']
theorem is_number_int (v a b : Int) (G : Gs) : F_is_number [.int v, .int a, .int b] G = .ok (.bl (decide (a ≤ v) && decide (v ≤ b))) G := by
  by_cases h : a ≤ v <;> simp [F_is_number, B_is_number, F_is_integer, B_is_integer, h]
def nmAt (stem : List Nat) (p first k : Nat) : List Nat := stem.take p ++ ([97 + (first + 7 * k) % 26] ++ stem.drop p)
theorem stem_ok {c : Nat} {o : O} (h : BagOk c o) (hc : c ≤ 900000) (n : Nat) (hn : n ≤ 1000) (ls0 : Ls) (hl : ls0 = [some (.ref 0), x1, some (.str LET), x3, x4, x5, x6]) (R : Gs) :
    ∃ (stem : List Nat) (o' : O), compL (gN 6) (eC (.bl true)) C1_law_names ls0 (rngL 0 n) [] (o :: R) = .ok (.lst (stem.map fun c => .str [c])) (o' :: R) ∧ BagOk (c + n) o' ∧ stem.length = n ∧ (∀ x ∈ stem, isLet x = true) := by
  subst hl
  obtain ⟨acc', G', e, stem, o', rfl, rfl, hb, hl', hs⟩ := compL_inv (gN 6) (eC (.bl true)) C1_law_names [some (.ref 0), x1, some (.str LET), x3, x4, x5, x6] (fun k acc G => ∃ (s : List Nat) (o' : O), acc = (s.map fun c => W.str [c]) ∧ G = o' :: R ∧ BagOk (c + k) o' ∧ s.length = k ∧ (∀ x ∈ s, isLet x = true)) (rngL 0 n) [] 0 (o :: R) (fun j w acc G hw hp => by
    obtain ⟨s, o1, rfl, rfl, hb, hl, hs⟩ := hp
    obtain ⟨hj, rfl⟩ := rngL_get hw
    obtain ⟨k, x, o2, e, hb2, hx⟩ := any_str hb (by omega) LET (by decide) (by decide) R
    refine ⟨[some (.ref 0), x1, some (.str LET), x3, x4, x5, some (.int j)], o1 :: R, o1 :: R, .str [x], o2 :: R, by simp, by simp, by simp [C1_law_names, e], by simp [SZ]; omega, s ++ [x], o2, by simp, rfl, hb2, by simp [hl], fun y hy => ?_⟩
    rcases List.mem_append.mp hy with hy | hy
    · exact hs y hy
    · obtain rfl := List.mem_singleton.mp hy
      exact decide_eq_true (List.mem_of_getElem? hx)) ⟨[], o, rfl, rfl, h, rfl, fun _ h => absurd h List.not_mem_nil⟩
  rw [rngL_len, Nat.zero_add] at hl'
  rw [rngL_len, Nat.zero_add] at hb
  exact ⟨stem, o', e, hb, hl', hs⟩
theorem BagOk.le {c c' : Nat} {o : O} (h : BagOk c o) (hc : c ≤ c' := by omega) : BagOk c' o := h.mono hc
theorem names_ok {c : Nat} {o : O} (h : BagOk c o) (hc : c ≤ 800000) (many : Nat) (hm : many ≤ 1000) (R : Gs) :
    ∃ (stem : List Nat) (p first : Nat) (o' : O), F_law_names [.ref 0, .int (many : Int)] (o :: R) = .ok (.lst ((List.range many).map fun k => .str (nmAt stem p first k))) (o' :: R) ∧ BagOk (c + 6) o' ∧ stem.length ≤ 3 ∧ (∀ x ∈ stem, isLet x = true) ∧ p ≤ stem.length ∧ first < 26 := by
  obtain ⟨n, o1, e1, b1, n0, n1⟩ := pull_ok h (by omega) (many := 4) (by decide) (by decide) R
  obtain ⟨n, rfl⟩ : ∃ k : Nat, n = k := ⟨n.toNat, by omega⟩
  obtain ⟨stem, o2, e2, b2, l2, s2⟩ := stem_ok b1 (by omega) n (by omega) _ rfl (x1 := some (.int (many : Int))) (x3 := none) (x4 := none) (x5 := none) (x6 := none) R
  obtain ⟨p, o3, e3, b3, p0, p1⟩ := pull_ok b2 (by omega) (many := ((stem.length : Int) + 1)) (by omega) (by omega) R
  obtain ⟨p, rfl⟩ : ∃ k : Nat, p = k := ⟨p.toNat, by omega⟩
  obtain ⟨q, o4, e4, b4, q0, q1⟩ := pull_ok b3 (by omega) (many := 26) (by decide) (by decide) R
  obtain ⟨q, rfl⟩ : ∃ k : Nat, q = k := ⟨q.toNat, by omega⟩
  have last : compL (gN 6) (eC (.bl true)) C2_law_names [some (.ref 0), some (.int (many : Int)), some (.str LET), some (.str stem), some (.int p), some (.int q), none] (rngL 0 many) [] (o4 :: R) = .ok (.lst ((List.range many).map fun k => .str (nmAt stem p q k))) (o4 :: R) := by
    have := compL_map (gN 6) (eC (.bl true)) C2_law_names [some (.ref 0), some (.int (many : Int)), some (.str LET), some (.str stem), some (.int p), some (.int q), none] (fun w => match w with | .int k => .str (nmAt stem p q k.toNat) | _ => .non) (o4 :: R) (rngL 0 many) [] (fun w hw => by
      obtain ⟨k, hk, rfl⟩ := rngL_mem hw
      refine ⟨[some (.ref 0), some (.int (many : Int)), some (.str LET), some (.str stem), some (.int p), some (.int q), some (.int k)], by simp, by simp, ?_⟩
      have hmul : cMul 7 k = true := cMul_small (by decide) (by decide) (by omega) (by omega)
      have hdiv : cDiv 26 = true := by decide +kernel
      obtain ⟨i, hi, hcast, hn⟩ : ∃ i : Nat, i < 26 ∧ ((q : Int) + 7 * (k : Int)) % 26 = (i : Int) ∧ (q + 7 * k) % 26 = i := ⟨_, Nat.mod_lt _ (by decide), by omega, rfl⟩
      have hg := let_get _ hi
      have hil : i < LET.length := hi
      have hlz : LET.length ≤ 16777216 := by rw [show LET.length = 26 from rfl]; omega
      have hg' : LET[i] = 97 + i := by rw [List.getElem?_eq_getElem hil] at hg; simpa using hg
      have c1 := cut_take stem p
      have c2 := cut_drop stem p
      have z1 : stem.length ≤ 16777216 := by omega
      have z2 : min p stem.length + 1 ≤ 16777216 := by omega
      have z3 : min p stem.length + 1 + (stem.length - p) ≤ 16777216 := by omega
      simp [C2_law_names, hmul, hdiv, hcast, hn, nmAt, atI, ixN, hil, hg', c1, c2, z1, z2, z3, hlz]) (by simp [rngL_len, SZ]; omega)
    rw [this]
    simp [rngL, List.map_map, Function.comp_def]
  have hz : stem.length ≤ 16777216 := by omega
  have bn : bigI (n : Int) = true := decide_eq_true (by omega)
  have bm : bigI (many : Int) = true := decide_eq_true (by omega)
  have ss : (stem.map ((fun x : List Nat => x.length) ∘ fun c : Nat => [c])).sum = stem.length := by rw [← List.map_map]; exact sum_one stem
  refine ⟨stem, p, q, o4, ?_, b4.le, by omega, s2, by omega, by omega⟩
  have eL : [97, 98, 99, 100, 101, 102, 103, 104, 105, 106, 107, 108, 109, 110, 111, 112, 113, 114, 115, 116, 117, 118, 119, 120, 121, 122] = LET := rfl
  simp [F_law_names, B_law_names, eL, hz, e1, e2, e3, e4, bn, bm, strs_one, joinL_one, ss, last]
theorem any_strs {c : Nat} {o : O} (h : BagOk c o) (hc : c ≤ 1000000) (ts : List (List Nat)) (h1 : 0 < ts.length) (h2 : ts.length ≤ 1000000) (R : Gs) :
    ∃ (t : List Nat) (o' : O), F_law_any [.ref 0, .lst (ts.map .str)] (o :: R) = .ok (.str t) (o' :: R) ∧ BagOk (c + 1) o' ∧ t ∈ ts := by
  obtain ⟨k, x, o', e, hb, hx⟩ := any_ok h hc (ts.map .str) (by simpa using h1) (by simpa using h2) R
  rw [List.getElem?_map] at hx
  cases hk : ts[k]? with
  | none => rw [hk] at hx; simp at hx
  | some t =>
    rw [hk] at hx
    simp at hx
    subst hx
    exact ⟨t, o', e, hb, List.mem_of_getElem? hk⟩
theorem any_ints {c : Nat} {o : O} (h : BagOk c o) (hc : c ≤ 1000000) (ts : List Int) (h1 : 0 < ts.length) (h2 : ts.length ≤ 1000000) (R : Gs) :
    ∃ (t : Int) (o' : O), F_law_any [.ref 0, .lst (ts.map .int)] (o :: R) = .ok (.int t) (o' :: R) ∧ BagOk (c + 1) o' ∧ t ∈ ts := by
  obtain ⟨k, x, o', e, hb, hx⟩ := any_ok h hc (ts.map .int) (by simpa using h1) (by simpa using h2) R
  rw [List.getElem?_map] at hx
  cases hk : ts[k]? with
  | none => rw [hk] at hx; simp at hx
  | some t =>
    rw [hk] at hx
    simp at hx
    subst hx
    exact ⟨t, o', e, hb, List.mem_of_getElem? hk⟩
/-- a law's loop: the bag at slot 1 -/
def Inv (N c : Nat) (ls : Ls) (G : Gs) : Prop := ∃ o, G = [o] ∧ BagOk c o ∧ ls.length = N ∧ ls[1]? = some (some (.ref 0))
def isStr : W → Bool
  | .str _ => true
  | _ => false
end U

/-! the laws' helpers about nets -/
namespace U
open PySem
open L2
/- names of term_words: 0:term 1:factor 2:delay 3:wire -/
def B_term_words : SF :=
    (sSeq (sAsg (eVar 0) (gT 3 (gs1 (gN 1) (gs1 (gN 2) (gs1 (gN 3) gs0)))))
    (sRet (eOp addW (eLst (aCons (eCall strW (aCons (eVar 1) aNil)) (aCons (eVar 3) aNil))) (eIf (eOp gtW (eVar 2) (eC (.int 0))) (eLst (aCons (eC (.str [108, 97, 116, 101])) (aCons (eCall strW (aCons (eVar 2) aNil)) aNil))) (eLst aNil)))))
def F_term_words : Fn := mkFn 1 4 B_term_words
/- names of part_words: 0:part 1:word 2:wire 3:rest 4:found 5:at 6:term -/
def L1_part_words : SF :=
    (sAsg (eOp addW (eOp addW (eVar 4) (eIf (eOp gtW (eVar 5) (eC (.int 0))) (eLst (aCons (eC (.str [44])) aNil)) (eLst aNil))) (eFn F_term_words [] (aCons (eVar 6) aNil))) (gN 4))
def R1_part_words : SF :=
    (sRet (eVar 4))
def B_part_words : SF :=
    (sSeq (sAsg (eVar 0) (gS 2 (gs1 (gN 1) (gs1 (gN 2) (gs1 (gN 3) gs0)))))
    (sSeq (sIf (eOp eqW (eVar 1) (eC (.str [117, 115, 101]))) (sRet (eLst (aCons (eVar 2) (aCons (eC (.str [117, 115, 101])) (aCons (eOp ixW (eVar 3) (eC (.int 0))) (aStar (eOp ixW (eVar 3) (eC (.int 1))) aNil)))))) sNil)
    (sSeq (sIf (eOp neW (eVar 1) (eC (.str [109, 105, 120]))) (sRet (eLst (aCons (eVar 2) (aCons (eVar 1) (aStar (eVar 3) aNil))))) sNil)
    (sSeq (sAsg (eLst (aCons (eVar 2) (aCons (eC (.str [109, 105, 120])) aNil))) (gN 4))
    (sSeq (sFor (iEnumA (aCons (eOp ixW (eVar 3) (eC (.int 0))) aNil)) (gT 2 (gs1 (gN 5) (gs1 (gN 6) gs0)))
    L1_part_words)
    R1_part_words)))))
def F_part_words : Fn := mkFn 1 7 B_part_words
/- names of text_of: 0:parts 1:outs 2:found 3:part -/
def L1_text_of : SF :=
    (sAsg (eOp addW (eOp addW (eVar 2) (eFn F_part_words [] (aCons (eVar 3) aNil))) (eLst (aCons (eC (.str [59])) aNil))) (gN 2))
def R1_text_of : SF :=
    (sRet (eJoin (eC (.str [32])) (eLst (aStar (eVar 2) (aCons (eC (.str [62])) (aStar (eVar 1) aNil))))))
def B_text_of : SF :=
    (sSeq (sAsg (eLst aNil) (gN 2))
    (sSeq (sFor (iSeq (eVar 0)) (gN 3)
    L1_text_of)
    R1_text_of))
def F_text_of : Fn := mkFn 2 4 B_text_of
/- names of _law_mixed: 0:_law_bag_here 1:_law_things 2:_law_found 3:_law_thing -/
def L1_law_mixed : SF :=
    (sExp (mutL insF (eVar 2) (aCons (eFn F_law_pull [] (aCons (eVar 0) (aCons (eOp addW (eCall lenW (aCons (eVar 2) aNil)) (eC (.int 1))) aNil))) (aCons (eVar 3) aNil))))
def R1_law_mixed : SF :=
    (sRet (eVar 2))
def B_law_mixed : SF :=
    (sSeq (sAsg (eLstM aNil) (gN 2))
    (sSeq (sFor (iSeq (eVar 1)) (gN 3)
    L1_law_mixed)
    R1_law_mixed))
def F_law_mixed : Fn := purF (mkFn 2 4 B_law_mixed)
/- names of _law_term: 0:_law_bag_here 1:_law_earlier 2:_law_every 3:_law_factor 4:_law_delay -/
def B_law_term : SF :=
    (sSeq (sAsg (eIf (eOp gtW (eFn F_law_pull [] (aCons (eVar 0) (aCons (eC (.int 8)) aNil))) (eC (.int 0))) (eOp subW (eFn F_law_pull [] (aCons (eVar 0) (aCons (eC (.int 7)) aNil))) (eC (.int 3))) (eFn F_law_any [] (aCons (eVar 0) (aCons (eLst (aCons (eNeg (eC (.int 99))) (aCons (eC (.int 99)) (aCons (eNeg (eC (.int 10))) (aCons (eC (.int 47)) aNil))))) aNil)))) (gN 3))
    (sSeq (sAsg (eFn F_law_any [] (aCons (eVar 0) (aCons (eLst (aCons (eC (.int 0)) (aCons (eC (.int 0)) (aCons (eC (.int 0)) (aCons (eC (.int 1)) (aCons (eC (.int 1)) (aCons (eC (.int 2)) (aCons (eC (.int 3)) (aCons (eC (.int 4)) aNil))))))))) aNil))) (gN 4))
    (sSeq (sIf (eAnd (eOp eqW (eVar 4) (eC (.int 0))) (eOp neW (eVar 1) (eLst aNil))) (sRet (eTup (aCons (eVar 3) (aCons (eC (.int 0)) (aCons (eFn F_law_any [] (aCons (eVar 0) (aCons (eVar 1) aNil))) aNil))))) sNil)
    (sRet (eTup (aCons (eVar 3) (aCons (eCall maxW (aCons (eLst (aCons (eVar 4) (aCons (eC (.int 1)) aNil))) aNil)) (aCons (eFn F_law_any [] (aCons (eVar 0) (aCons (eVar 2) aNil))) aNil))))))))
def F_law_term : Fn := mkFn 3 5 B_law_term
/- names of _law_part: 0:_law_bag_here 1:_law_wire 2:_law_earlier 3:_law_every 4:_law_boxes_here 5:_law_kind 6:_law_name 7:_law_ends 8:_law_k -/
def C1_law_part : EF :=
    (eFn F_law_any [] (aCons (eVar 0) (aCons (eVar 2) aNil)))
def C2_law_part : EF :=
    (eFn F_law_term [] (aCons (eVar 0) (aCons (eVar 2) (aCons (eVar 3) aNil))))
def B_law_part : SF :=
    (sSeq (sIf (eAnd (eOp neW (eVar 4) (eLst aNil)) (eAnd (eOp neW (eVar 2) (eLst aNil)) (eOp eqW (eFn F_law_pull [] (aCons (eVar 0) (aCons (eC (.int 2)) aNil))) (eC (.int 0))))) (sSeq (sAsg (eFn F_law_any [] (aCons (eVar 0) (aCons (eVar 4) aNil))) (gT 2 (gs1 (gN 5) (gs1 (gN 6) gs0))))
    (sSeq (sAsg (eComp [8] (iRange1 (aCons (eIf (eOp eqW (eVar 5) (eC (.str [112, 97, 105, 114]))) (eC (.int 2)) (eC (.int 1))) aNil)) (gN 8) (eC (.bl true)) C1_law_part) (gN 7))
    (sRet (eCall tupleW (aCons (eOp addW (eLst (aCons (eVar 5) (aCons (eVar 1) (aCons (eVar 6) aNil)))) (eVar 7)) aNil))))) sNil)
    (sRet (eTup (aCons (eC (.str [109, 105, 120])) (aCons (eVar 1) (aCons (eCall tupleW (aCons (eComp [8] (iRange1 (aCons (eFn F_law_pull [] (aCons (eVar 0) (aCons (eC (.int 4)) aNil))) aNil)) (gN 8) (eC (.bl true)) C2_law_part) aNil)) aNil))))))
def F_law_part : Fn := mkFn 5 9 B_law_part
/- names of _law_parts: 0:_law_bag_here 1:_law_wires 2:_law_sources 3:_law_boxes_here 4:_law_found 5:_law_k 6:_law_wire -/
def C1_law_parts : EF :=
    (eTup (aCons (eC (.str [115, 111, 117, 114, 99, 101])) (aCons (eVar 6) aNil)))
def L1_law_parts : SF :=
    (sExp (mutL appF (eVar 4) (aCons (eFn F_law_part [] (aCons (eVar 0) (aCons (eOp ixW (eVar 1) (eVar 5)) (aCons (eSl (eVar 1) pNo (pSm (eVar 5))) (aCons (eVar 1) (aCons (eVar 3) aNil)))))) aNil)))
def R1_law_parts : SF :=
    (sRet (eVar 4))
def B_law_parts : SF :=
    (sSeq (sAsg (eCompM [6] (iSeq (eSl (eVar 1) pNo (pSm (eVar 2)))) (gN 6) (eC (.bl true)) C1_law_parts) (gN 4))
    (sSeq (sFor (iRange2 (aCons (eVar 2) (aCons (eCall lenW (aCons (eVar 1) aNil)) aNil))) (gN 5)
    L1_law_parts)
    R1_law_parts))
def F_law_parts : Fn := purF (mkFn 4 7 B_law_parts)
/- names of _law_boxes: 0:_law_bag_here 1:_law_words_here 2:_law_word -/
def C1_law_boxes : EF :=
    (eTup (aCons (eFn F_law_any [] (aCons (eVar 0) (aCons (eLst (aCons (eC (.str [112, 108, 97, 105, 110])) (aCons (eC (.str [111, 100, 100])) (aCons (eC (.str [107, 101, 101, 112])) (aCons (eC (.str [112, 97, 105, 114])) aNil))))) aNil))) (aCons (eVar 2) aNil)))
def B_law_boxes : SF :=
    (sRet (eComp [2] (iSeq (eVar 1)) (gN 2) (eC (.bl true)) C1_law_boxes))
def F_law_boxes : Fn := mkFn 2 3 B_law_boxes
/- names of _law_part_words: 0:_law_part_here 1:_law_found 2:_law_at 3:_law_term_here -/
def L1_law_part_words : SF :=
    (sAsg (eOp addW (eOp addW (eOp addW (eVar 1) (eIf (eOp gtW (eVar 2) (eC (.int 0))) (eLst (aCons (eC (.str [44])) aNil)) (eLst aNil))) (eLst (aCons (eCall strW (aCons (eOp ixW (eVar 3) (eC (.int 0))) aNil)) (aCons (eOp ixW (eVar 3) (eC (.int 2))) aNil)))) (eIf (eOp gtW (eOp ixW (eVar 3) (eC (.int 1))) (eC (.int 0))) (eLst (aCons (eC (.str [108, 97, 116, 101])) (aCons (eCall strW (aCons (eOp ixW (eVar 3) (eC (.int 1))) aNil)) aNil))) (eLst aNil))) (gN 1))
def R1_law_part_words : SF :=
    (sRet (eVar 1))
def B_law_part_words : SF :=
    (sSeq (sIf (eOp eqW (eOp ixW (eVar 0) (eC (.int 0))) (eC (.str [117, 115, 101]))) (sRet (eOp addW (eLst (aCons (eOp ixW (eVar 0) (eC (.int 1))) (aCons (eC (.str [117, 115, 101])) (aCons (eOp ixW (eVar 0) (eC (.int 2))) aNil)))) (eCall listW (aCons (eOp ixW (eVar 0) (eC (.int 3))) aNil)))) sNil)
    (sSeq (sIf (eOp neW (eOp ixW (eVar 0) (eC (.int 0))) (eC (.str [109, 105, 120]))) (sRet (eOp addW (eLst (aCons (eOp ixW (eVar 0) (eC (.int 1))) (aCons (eOp ixW (eVar 0) (eC (.int 0))) aNil))) (eCall listW (aCons (eSl (eVar 0) (pSm (eC (.int 2))) pNo) aNil)))) sNil)
    (sSeq (sAsg (eLst (aCons (eOp ixW (eVar 0) (eC (.int 1))) (aCons (eC (.str [109, 105, 120])) aNil))) (gN 1))
    (sSeq (sFor (iEnumA (aCons (eOp ixW (eVar 0) (eC (.int 2))) aNil)) (gT 2 (gs1 (gN 2) (gs1 (gN 3) gs0)))
    L1_law_part_words)
    R1_law_part_words))))
def F_law_part_words : Fn := mkFn 1 4 B_law_part_words
/- names of _law_words: 0:_law_parts_z 1:_law_outs_z 2:_law_found 3:_law_part_here -/
def L1_law_words : SF :=
    (sAsg (eOp addW (eOp addW (eVar 2) (eFn F_law_part_words [] (aCons (eVar 3) aNil))) (eLst (aCons (eC (.str [59])) aNil))) (gN 2))
def R1_law_words : SF :=
    (sRet (eOp addW (eOp addW (eVar 2) (eLst (aCons (eC (.str [62])) aNil))) (eCall listW (aCons (eVar 1) aNil))))
def B_law_words : SF :=
    (sSeq (sAsg (eLst aNil) (gN 2))
    (sSeq (sFor (iSeq (eVar 0)) (gN 3)
    L1_law_words)
    R1_law_words))
def F_law_words : Fn := mkFn 2 4 B_law_words
end U

/-! more facts about the helpers: shuffles -/
namespace U
open PySem
open L2
theorem pureWs_all : ∀ xs : List W, pureW.pureWs xs = xs.all pureW
  | [] => rfl
  | x :: r => by
    show (pureW x && pureW.pureWs r) = _
    rw [pureWs_all r]
    rfl
mutual
theorem rs_pure {h : Nat → Option W} : ∀ (w : W), pureW w = true → rsW h w = some w
  | .non, _ => rfl
  | .bl _, _ => rfl
  | .int _, _ => rfl
  | .str _, _ => rfl
  | .ty _, _ => rfl
  | .cls _, _ => rfl
  | .ref i, q => by simp [pureW] at q
  | .tup xs, q => by simp only [rsW]; rw [rs_pures xs q]; rfl
  | .lst xs, q => by simp only [rsW]; rw [rs_pures xs q]; rfl
  | .fz xs, q => by simp only [rsW]; rw [rs_pures xs q]; rfl
  | .dic xs, q => by simp only [rsW]; rw [rs_pures xs q]; rfl
  | .obj _ xs, q => by simp only [rsW]; rw [rs_pures xs q]; rfl
theorem rs_pures {h : Nat → Option W} : ∀ (ws : List W), pureW.pureWs ws = true → rsWs h ws = some ws
  | [], _ => rfl
  | x :: r, q => by
    have q : (pureW x && pureW.pureWs r) = true := q
    rw [Bool.and_eq_true] at q
    simp only [rsWs]
    rw [rs_pure x q.1, rs_pures r q.2]
end
mutual
theorem low_pure {n : Nat} : ∀ (w : W), pureW w = true → lowW n w = true
  | .non, _ => rfl
  | .bl _, _ => rfl
  | .int _, _ => rfl
  | .str _, _ => rfl
  | .ty _, _ => rfl
  | .cls _, _ => rfl
  | .ref i, q => by simp [pureW] at q
  | .tup xs, q => low_pures xs q
  | .lst xs, q => low_pures xs q
  | .fz xs, q => low_pures xs q
  | .dic xs, q => low_pures xs q
  | .obj _ xs, q => low_pures xs q
theorem low_pures {n : Nat} : ∀ (ws : List W), pureW.pureWs ws = true → lowW.lowWs n ws = true
  | [], _ => rfl
  | x :: r, q => by
    have q : (pureW x && pureW.pureWs r) = true := q
    rw [Bool.and_eq_true] at q
    show (lowW n x && lowW.lowWs n r) = true
    rw [low_pure x q.1, low_pures r q.2]
    rfl
end
theorem pure_ints : ∀ ns : List Int, pureW.pureWs (ns.map .int) = true
  | [] => rfl
  | _ :: r => by
    show (true && pureW.pureWs (r.map .int)) = true
    rw [pure_ints r]
    rfl
theorem pure_strs : ∀ ns : List (List Nat), pureW.pureWs (ns.map .str) = true
  | [] => rfl
  | _ :: r => by
    show (true && pureW.pureWs (r.map .str)) = true
    rw [pure_strs r]
    rfl
theorem BagOk.low {c n : Nat} {o : O} (h : BagOk c o) : lowO n o = true := by
  obtain ⟨cells, spot, rest, seed, cnt, rfl, _⟩ := h
  unfold bag lowO
  refine low_pures _ ?_
  show (pureW (.lst (cells.map .int)) && _) = true
  rw [show pureW (.lst (cells.map .int)) = true from pure_ints cells]
  rfl
/-- what purF makes of one bag and locals behind it -/
theorem pur_bag {F : Fn} {ws : List W} {o o' : O} {c : Nat} {w w' : W} {L : Gs} (e : F ws [o] = .ok w (o' :: L)) (h : BagOk c o') (r : rsW (rsH 1 (o' :: L) 3) w = some w') : purF F ws [o] = .ok w' [o'] := by
  have hm : mixG 1 [o] (o' :: L) = true := by
    show ((beqO o o' || lowO 1 o') && true) = true
    rw [h.low, Bool.or_true]
    rfl
  unfold purF
  rw [e]
  simp only [List.length_cons, List.length_nil, Nat.zero_add, hm, if_true, r, List.take_succ_cons, List.take_zero]
theorem ins_perm {α : Type} {ys xs : List α} {y : α} {k : Nat} (h : ys.Perm xs) : (ys.take k ++ [y] ++ ys.drop k).Perm (xs ++ [y]) := by
  have h1 : (ys.take k ++ [y] ++ ys.drop k).Perm (y :: ys) := by
    rw [List.append_assoc]
    have := @List.perm_middle α y (ys.take k) (ys.drop k)
    rw [List.take_append_drop] at this
    exact this
  exact h1.trans ((List.perm_cons y |>.mpr h).trans (List.perm_append_singleton y xs).symm)
theorem mixed_ok {c : Nat} {o : O} (h : BagOk c o) (xs : List W) (hp : pureW.pureWs xs = true) (hx : xs.length ≤ 100000) (hc : c + xs.length ≤ 900000) :
    ∃ (ys : List W) (o' : O), F_law_mixed [.ref 0, .lst xs] [o] = .ok (.lst ys) [o'] ∧ BagOk (c + xs.length) o' ∧ ys.Perm xs := by
  obtain ⟨ls', G', e, x3, ys, o', rfl, rfl, hb, hperm⟩ := forL_inv (gN 3) L1_law_mixed (fun k ls G => ∃ (x3 : Option W) (ys : List W) (o' : O), ls = [some (.ref 0), some (.lst xs), some (.ref 1), x3] ∧ G = [o', .lst ys] ∧ BagOk (c + k) o' ∧ ys.Perm (xs.take k)) xs 0
    [some (.ref 0), some (.lst xs), some (.ref 1), none] [o, .lst []] (fun j w ls G hw hI => by
      obtain ⟨x3, ys, o1, rfl, rfl, hb, hperm⟩ := hI
      have hj : j < xs.length := (List.getElem?_eq_some_iff.mp hw).1
      have hlen : ys.length = j := by rw [hperm.length_eq, List.length_take]; omega
      obtain ⟨r, o2, e, hb2, r0, r1⟩ := pull_ok hb (by omega) (many := (ys.length : Int) + 1) (by omega) (by omega) [.lst ys]
      have hz : ys.length < 16777216 := by omega
      have r2 : r < 16777216 := by omega
      refine ⟨[some (.ref 0), some (.lst xs), some (.ref 1), some w], [o1, .lst ys], [some (.ref 0), some (.lst xs), some (.ref 1), some w], [o2, .lst (ys.take r.toNat ++ [w] ++ ys.drop r.toNat)], by simp, .inl ?_, some w, _, o2, rfl, rfl, hb2, ?_⟩
      · simp [L1_law_mixed, e, hz, r0, r2]
      · have e1 : xs.take (0 + j + 1) = xs.take (0 + j) ++ [w] := by
          rw [Nat.zero_add, List.take_succ, hw]
          rfl
        rw [e1]
        exact ins_perm hperm) ⟨none, [], o, rfl, rfl, h, by simp⟩
  rw [Nat.zero_add] at hb hperm
  rw [List.take_length] at hperm
  have hpy : pureW.pureWs ys = true := by
    rw [pureWs_all] at hp ⊢
    exact List.all_eq_true.mpr fun w hw => List.all_eq_true.mp hp w (hperm.mem_iff.mp hw)
  refine ⟨ys, o', ?_, hb, hperm⟩
  refine pur_bag (w := .ref 1) (L := [.lst ys]) ?_ hb ?_
  · simp [B_law_mixed, e, R1_law_mixed]
  · simp only [rsW]
    show (rsWs _ ys).map W.lst = _
    rw [rs_pures ys hpy]
    rfl
/-- a comprehension that draws: each item by at most k draws -/
theorem draws_okB (B : Nat) {c k : Nat} {o : O} (P : W → Prop) (g : TF) (fe : EF) (ls0 : Ls) (items : List W) (R : Gs) (h : BagOk c o) (hz : items.length ≤ 100000) (hc : c + k * items.length ≤ B)
    (hs : ∀ w ∈ items, ∀ (c : Nat) (o : O), BagOk c o → c ≤ B → ∃ (ls1 : Ls) (t : W) (o' : O), g w ls0 (o :: R) = .nx ls1 (o :: R) ∧ fe ls1 (o :: R) = .ok t (o' :: R) ∧ BagOk (c + k) o' ∧ P t) :
    ∃ (ts : List W) (o' : O), compL g (eC (.bl true)) fe ls0 items [] (o :: R) = .ok (.lst ts) (o' :: R) ∧ BagOk (c + k * items.length) o' ∧ ts.length = items.length ∧ ∀ t ∈ ts, P t := by
  obtain ⟨acc', G', e, o', rfl, hb, hl, hP⟩ := compL_inv g (eC (.bl true)) fe ls0 (fun j acc G => ∃ o' : O, G = o' :: R ∧ (j ≤ items.length → BagOk (c + k * j) o') ∧ acc.length = j ∧ ∀ t ∈ acc, P t) items [] 0 (o :: R) (fun j w acc G hw hI => by
    obtain ⟨o1, rfl, hb, hl, hP⟩ := hI
    rw [Nat.zero_add] at hb hl ⊢
    have hj : j < items.length := (List.getElem?_eq_some_iff.mp hw).1
    have hkj : k * j ≤ k * items.length := Nat.mul_le_mul_left k (by omega)
    obtain ⟨ls1, t, o2, e1, e2, b2, p⟩ := hs w (List.mem_of_getElem? hw) _ _ (hb (by omega)) (by omega)
    refine ⟨ls1, o1 :: R, o1 :: R, t, o2 :: R, e1, by simp, e2, by simp [SZ]; omega, o2, rfl, fun _ => ?_, by simp [hl], fun x hx => ?_⟩
    · rw [Nat.mul_succ, ← Nat.add_assoc]
      exact b2
    · rcases List.mem_append.mp hx with hx | hx
      · exact hP x hx
      · rw [List.mem_singleton.mp hx]; exact p) ⟨o, rfl, fun _ => h, rfl, fun _ h => absurd h List.not_mem_nil⟩
  rw [Nat.zero_add] at hb hl
  exact ⟨acc', o', e, hb (Nat.le_refl _), hl, hP⟩
/-- a comprehension that draws: each item by at most k draws -/
theorem draws_ok {c k : Nat} {o : O} (P : W → Prop) (g : TF) (fe : EF) (ls0 : Ls) (items : List W) (R : Gs) (h : BagOk c o) (hz : items.length ≤ 100000) (hc : c + k * items.length ≤ 900000)
    (hs : ∀ w ∈ items, ∀ (c : Nat) (o : O), BagOk c o → c ≤ 900000 → ∃ (ls1 : Ls) (t : W) (o' : O), g w ls0 (o :: R) = .nx ls1 (o :: R) ∧ fe ls1 (o :: R) = .ok t (o' :: R) ∧ BagOk (c + k) o' ∧ P t) :
    ∃ (ts : List W) (o' : O), compL g (eC (.bl true)) fe ls0 items [] (o :: R) = .ok (.lst ts) (o' :: R) ∧ BagOk (c + k * items.length) o' ∧ ts.length = items.length ∧ ∀ t ∈ ts, P t :=
  draws_okB 900000 P g fe ls0 items R h hz hc hs
theorem strs_of {ts : List W} {vs : List (List Nat)} (h : ∀ t ∈ ts, ∃ s, t = .str s ∧ s ∈ vs) : ∃ ss : List (List Nat), ts = ss.map .str ∧ ∀ s ∈ ss, s ∈ vs := by
  induction ts with
  | nil => exact ⟨[], rfl, fun _ h => absurd h List.not_mem_nil⟩
  | cons t r ih =>
    obtain ⟨s, rfl, hs⟩ := h t List.mem_cons_self
    obtain ⟨ss, rfl, h2⟩ := ih fun x hx => h x (List.mem_cons_of_mem _ hx)
    exact ⟨s :: ss, rfl, fun x hx => by
      rcases List.mem_cons.mp hx with rfl | hx
      · exact hs
      · exact h2 x hx⟩
end U

/-! drawn nets: their shape, and their words -/
namespace U
open PySem
open L2
def NameW (w : List Nat) : Prop := nameB w = true
theorem NameW.sp {w : List Nat} (h : NameW w) : 1 ≤ w.length ∧ w.length ≤ 4 ∧ ∀ c ∈ w, 97 ≤ c ∧ c ≤ 122 := by
  unfold NameW nameB at h
  simp only [Bool.and_eq_true, decide_eq_true_eq, List.all_eq_true] at h
  exact ⟨h.1.1, h.1.2, fun c hc => (let_mem c).mp (of_decide_eq_true (h.2 c hc))⟩
theorem NameW.l30 {w : List Nat} (h : NameW w) : w.length ≤ 30 := by have := h.sp.2.1; omega
theorem NameW.lt {w : List Nat} (h : NameW w) : ∀ c ∈ w, c < 1114112 := fun c hc => by have := h.sp.2.2 c hc; omega
inductive TermW : W → Prop
  | mk (f d : Int) (w : List Nat) : -99 ≤ f → f ≤ 99 → 0 ≤ d → d ≤ 4 → NameW w → TermW (.tup [.int f, .int d, .str w])
def ShortL (ws : List (List Nat)) : Prop := ws.length ≤ 50 ∧ ∀ w ∈ ws, NameW w
abbrev sSOURCE : List Nat := [115, 111, 117, 114, 99, 101]
abbrev sMIX : List Nat := [109, 105, 120]
abbrev sUSE : List Nat := [117, 115, 101]
abbrev sPLAIN : List Nat := [112, 108, 97, 105, 110]
abbrev sODD : List Nat := [111, 100, 100]
abbrev sKEEP : List Nat := [107, 101, 101, 112]
abbrev sPAIR : List Nat := [112, 97, 105, 114]
def KINDS : List (List Nat) := [sPLAIN, sODD, sKEEP, sPAIR]
def cntK (k : List Nat) : Nat := if k = sPAIR then 2 else 1
inductive PartW : W → Prop
  | src (w : List Nat) : NameW w → PartW (.tup [.str sSOURCE, .str w])
  | box (k w n : List Nat) (ends : List (List Nat)) : k ∈ KINDS → NameW w → NameW n → ShortL ends → ends.length = cntK k → PartW (.tup (.str k :: .str w :: .str n :: ends.map .str))
  | mix (w : List Nat) (ts : List W) : NameW w → ts.length ≤ 6 → (∀ t ∈ ts, TermW t) → PartW (.tup [.str sMIX, .str w, .tup ts])
  | use (w n : List Nat) (ends : List (List Nat)) : NameW w → NameW n → ShortL ends → ends.length ≤ 4 → PartW (.tup [.str sUSE, .str w, .str n, .tup (ends.map .str)])
theorem any_names {c : Nat} {o : O} (h : BagOk c o) (hc : c ≤ 1000000) {ts : List (List Nat)} (hs : ShortL ts) (h1 : 0 < ts.length) (R : Gs) :
    ∃ (t : List Nat) (o' : O), F_law_any [.ref 0, .lst (ts.map .str)] (o :: R) = .ok (.str t) (o' :: R) ∧ BagOk (c + 1) o' ∧ t ∈ ts ∧ NameW t := by
  obtain ⟨t, o', e, b, m⟩ := any_strs h hc ts h1 (by have := hs.1; omega) R
  exact ⟨t, o', e, b, m, hs.2 t m⟩
theorem sh_names {n : Nat} {ts : List (List Nat)} (h : ∀ w ∈ ts, NameW w) : shW (n + 1) (.lst (ts.map .str)) = true := by
  simp only [shW]
  rw [shWs_all, List.all_map]
  refine List.all_eq_true.mpr fun w hw => ?_
  show shW n (.str w) = true
  cases n <;> (simp only [shW]; exact strOk_lt (h w hw).lt)
theorem eqD_nil (ts : List (List Nat)) : eqD (.lst (ts.map .str)) (.lst []) = decide (ts = []) := by
  cases ts <;> simp [eqD, eqDs]
theorem ne_nil {ts : List (List Nat)} (h : ∀ w ∈ ts, NameW w) (G : Gs) : neW (.lst (ts.map .str)) (.lst []) G = .ok (.bl (!decide (ts = []))) G := by
  rw [neW_D (sh_names h) (by rfl), eqD_nil]
/-- one of some, named -/
theorem any_in {c : Nat} {o : O} (h : BagOk c o) (hc : c ≤ 1000000) (xs : List W) (h1 : 0 < xs.length) (h2 : xs.length ≤ 1000000) (R : Gs) :
    ∃ (x : W) (o' : O), F_law_any [.ref 0, .lst xs] (o :: R) = .ok x (o' :: R) ∧ BagOk (c + 1) o' ∧ x ∈ xs := by
  obtain ⟨k, x, o', e, b, hx⟩ := any_ok h hc xs h1 h2 R
  exact ⟨x, o', e, b, List.mem_of_getElem? hx⟩
theorem term_ok {c : Nat} {o : O} (h : BagOk c o) (hc : c ≤ 900000) {es vs : List (List Nat)} (hes : ShortL es) (hvs : ShortL vs) (hne : 0 < vs.length) (R : Gs) :
    ∃ (t : W) (o' : O), F_law_term [.ref 0, .lst (es.map .str), .lst (vs.map .str)] (o :: R) = .ok t (o' :: R) ∧ BagOk (c + 4) o' ∧ TermW t := by
  obtain ⟨r, o1, e1, b1, r0, r1⟩ := pull_ok h (by omega) (many := 8) (by decide) (by decide) R
  have fac : ∃ (f : Int) (o2 : O), (if 0 < r then (F_law_pull [.ref 0, .int 7] (o1 :: R)).bind fun a G1 => subW a (.int 3) G1 else F_law_any [.ref 0, .lst [.int (-99), .int 99, .int (-10), .int 47]] (o1 :: R)) = .ok (.int f) (o2 :: R) ∧ BagOk (c + 2) o2 ∧ -99 ≤ f ∧ f ≤ 99 := by
    by_cases hr : 0 < r
    · obtain ⟨f, o2, e2, b2, f0, f1⟩ := pull_ok b1 (by omega) (many := 7) (by decide) (by decide) R
      exact ⟨f - 3, o2, by simp [hr, e2], b2, by omega, by omega⟩
    · obtain ⟨f, o2, e2, b2, hf⟩ := any_ints b1 (by omega) [-99, 99, -10, 47] (by decide) (by decide) R
      refine ⟨f, o2, by simp only [if_neg hr]; exact e2, b2, ?_⟩
      simp only [List.mem_cons, List.not_mem_nil, or_false] at hf
      omega
  obtain ⟨f, o2, e2, b2, f0, f1⟩ := fac
  obtain ⟨d, o3, e3, b3, hd⟩ := any_ints b2 (by omega) [0, 0, 0, 1, 1, 2, 3, 4] (by decide) (by decide) R
  simp only [List.map_cons, List.map_nil] at e3
  have d1 : 0 ≤ d ∧ d ≤ 4 := by
    simp only [List.mem_cons, List.not_mem_nil, or_false] at hd
    omega
  have nn := ne_nil hes.2 (o3 :: R)
  by_cases hd0 : d = 0 ∧ es ≠ []
  · obtain ⟨rfl, hes0⟩ := hd0
    obtain ⟨w, o4, e4, b4, _, hw⟩ := any_names b3 (by omega) hes (List.length_pos_iff.mpr hes0) R
    refine ⟨_, o4, ?_, b4, .mk f 0 w f0 f1 (by omega) (by omega) hw⟩
    simp [F_law_term, B_law_term, e1, e2, e3, nn, -neW, hes0, e4]
  · obtain ⟨w, o4, e4, b4, _, hw⟩ := any_names b3 (by omega) hvs hne R
    have hm : 0 ≤ maxL [d, 1] ∧ maxL [d, 1] ≤ 4 := by
      show 0 ≤ (if (1 : Int) ≤ d then d else 1) ∧ (if (1 : Int) ≤ d then d else 1) ≤ 4
      split <;> omega
    refine ⟨_, o4, ?_, b4, .mk f (maxL [d, 1]) w f0 f1 hm.1 (by omega) hw⟩
    have hd1 : d = 0 → es = [] := fun e => Classical.byContradiction fun n => hd0 ⟨e, n⟩
    by_cases z : d = 0
    · have := hd1 z
      subst z this
      have nn' : neW (.lst []) (.lst []) (o3 :: R) = .ok (.bl false) (o3 :: R) := by simpa using nn
      simp [F_law_term, B_law_term, e1, e2, e3, nn', -neW, e4]
    · simp [F_law_term, B_law_term, e1, e2, e3, nn, -neW, z, e4]
def boxW (b : List Nat × List Nat) : W := .tup [.str b.1, .str b.2]
def BoxL (bs : List (List Nat × List Nat)) : Prop := bs.length ≤ 50 ∧ ∀ b ∈ bs, b.1 ∈ KINDS ∧ NameW b.2
theorem kind_name {k : List Nat} (h : k ∈ KINDS) : k.length ≤ 30 ∧ ∀ c ∈ k, c < 1114112 := by
  have : ∀ k ∈ KINDS, k.length ≤ 30 ∧ ∀ c ∈ k, c < 1114112 := by decide
  exact this k h
theorem ne_boxes {bs : List (List Nat × List Nat)} (h : BoxL bs) (G : Gs) : neW (.lst (bs.map boxW)) (.lst []) G = .ok (.bl (!decide (bs = []))) G := by
  rw [neW_D ?_ (by rfl)]
  · cases bs <;> simp [eqD, eqDs]
  · simp only [shW]
    rw [shWs_all, List.all_map]
    refine List.all_eq_true.mpr fun b hb => ?_
    have h1 := strOk_lt (kind_name (h.2 b hb).1).2
    have h2 := strOk_lt (h.2 b hb).2.lt
    simp [boxW, shW, shWs, h1, h2]
theorem terms_ok {c : Nat} {o : O} (h : BagOk c o) (hc : c ≤ 800000) {es vs : List (List Nat)} (hes : ShortL es) (hvs : ShortL vs) (hne : 0 < vs.length) (n : Nat) (hn : n ≤ 10) (x1 x4 x5 x6 x7 x8 : Option W) (R : Gs) :
    ∃ (ts : List W) (o' : O), compL (gN 8) (eC (.bl true)) C2_law_part [some (.ref 0), x1, some (.lst (es.map .str)), some (.lst (vs.map .str)), x4, x5, x6, x7, x8] (rngL 0 n) [] (o :: R) = .ok (.lst ts) (o' :: R) ∧ BagOk (c + 40) o' ∧ ts.length = n ∧ ∀ t ∈ ts, TermW t := by
  obtain ⟨ts, o', e, b, l, p⟩ := draws_ok (k := 4) TermW (gN 8) C2_law_part [some (.ref 0), x1, some (.lst (es.map .str)), some (.lst (vs.map .str)), x4, x5, x6, x7, x8] (rngL 0 n) R h (by rw [rngL_len]; omega) (by rw [rngL_len]; omega) (fun w hw c o hb hc => by
    obtain ⟨t, o', e, b, p⟩ := term_ok hb hc hes hvs hne R
    exact ⟨[some (.ref 0), x1, some (.lst (es.map .str)), some (.lst (vs.map .str)), x4, x5, x6, x7, some w], t, o', by simp, by simp [C2_law_part, e], b, p⟩)
  rw [rngL_len] at b l
  exact ⟨ts, o', e, b.le, l, p⟩
theorem ends_ok {c : Nat} {o : O} (h : BagOk c o) (hc : c ≤ 800000) {es : List (List Nat)} (hes : ShortL es) (hne : 0 < es.length) (n : Nat) (hn : n ≤ 10) (x1 x3 x4 x5 x6 x7 x8 : Option W) (R : Gs) :
    ∃ (ss : List (List Nat)) (o' : O), compL (gN 8) (eC (.bl true)) C1_law_part [some (.ref 0), x1, some (.lst (es.map .str)), x3, x4, x5, x6, x7, x8] (rngL 0 n) [] (o :: R) = .ok (.lst (ss.map .str)) (o' :: R) ∧ BagOk (c + 10) o' ∧ ss.length = n ∧ ∀ s ∈ ss, s ∈ es := by
  obtain ⟨ts, o', e, b, l, p⟩ := draws_ok (k := 1) (fun t => ∃ s, t = .str s ∧ s ∈ es) (gN 8) C1_law_part [some (.ref 0), x1, some (.lst (es.map .str)), x3, x4, x5, x6, x7, x8] (rngL 0 n) R h (by rw [rngL_len]; omega) (by rw [rngL_len]; omega) (fun w hw c o hb hc => by
    obtain ⟨t, o', e, b, m, _⟩ := any_names hb (by omega) hes hne R
    exact ⟨[some (.ref 0), x1, some (.lst (es.map .str)), x3, x4, x5, x6, x7, some w], .str t, o', by simp, by simp [C1_law_part, e], b, t, rfl, m⟩)
  rw [rngL_len] at b l
  obtain ⟨ss, rfl, hss⟩ := strs_of p
  exact ⟨ss, o', e, b.le, by simpa using l, hss⟩
theorem part_ok {c : Nat} {o : O} (h : BagOk c o) (hc : c ≤ 700000) {wire : List Nat} {es vs : List (List Nat)} {bs : List (List Nat × List Nat)} (hw : NameW wire) (hes : ShortL es) (hvs : ShortL vs) (hne : 0 < vs.length) (hbs : BoxL bs) (R : Gs) :
    ∃ (t : W) (o' : O), F_law_part [.ref 0, .str wire, .lst (es.map .str), .lst (vs.map .str), .lst (bs.map boxW)] (o :: R) = .ok t (o' :: R) ∧ BagOk (c + 50) o' ∧ PartW t := by
  have n1 := fun G => ne_boxes hbs G
  have n2 := fun G => ne_nil hes.2 G
  have mix : ∀ (c' : Nat) (o1 : O), BagOk c' o1 → c' ≤ c + 1 → ∃ (n : Int) (ts : List W) (o2 o3 : O), F_law_pull [.ref 0, .int 4] (o1 :: R) = .ok (.int n) (o2 :: R) ∧ bigI n = true ∧
      compL (gN 8) (eC (.bl true)) C2_law_part [some (.ref 0), some (.str wire), some (.lst (es.map .str)), some (.lst (vs.map .str)), some (.lst (bs.map boxW)), none, none, none, none] (rngL 0 n.toNat) [] (o2 :: R) = .ok (.lst ts) (o3 :: R) ∧ BagOk (c + 50) o3 ∧ PartW (.tup [.str sMIX, .str wire, .tup ts]) := fun c' o1 b1 hc' => by
    obtain ⟨n, o2, e2, b2, n0, n1⟩ := pull_ok b1 (by omega) (many := 4) (by decide) (by decide) R
    obtain ⟨ts, o3, e3, b3, l3, p3⟩ := terms_ok b2 (by omega) hes hvs hne n.toNat (by omega) (some (.str wire)) (some (.lst (bs.map boxW))) none none none none R
    exact ⟨n, ts, o2, o3, e2, decide_eq_true (by omega), e3, b3.le, .mix wire ts hw (by omega) p3⟩
  by_cases hz : bs ≠ [] ∧ es ≠ []
  · obtain ⟨r, o1, e1, b1, r0, r1⟩ := pull_ok h (by omega) (many := 2) (by decide) (by decide) R
    by_cases hr : r = 0
    · subst hr
      obtain ⟨x, o2, e2, b2, hx⟩ := any_in b1 (by omega) (bs.map boxW) (by simpa using List.length_pos_iff.mpr hz.1) (by have := hbs.1; simp; omega) R
      obtain ⟨b, hb, rfl⟩ := List.mem_map.mp hx
      have hbb := hbs.2 b hb
      have hl := List.length_pos_iff.mpr hz.2
      by_cases hk : b.1 = [112, 97, 105, 114]
      · obtain ⟨ss, o3, e3, b3, l3, p3⟩ := ends_ok b2 (by omega) hes hl 2 (by decide) (some (.str wire)) (some (.lst (vs.map .str))) (some (.lst (bs.map boxW))) (some (.str b.1)) (some (.str b.2)) none none R
        refine ⟨_, o3, ?_, b3.le, .box b.1 wire b.2 ss hbb.1 hw hbb.2 ⟨by omega, fun w hw => hes.2 w (p3 w hw)⟩ (by simp [cntK, hk, l3])⟩
        rw [hk] at e3 ⊢
        have h2 : bigI 2 = true := rfl
        have hz2 : ss.length + 3 ≤ 16777216 := by omega
        have hz3 : 3 + ss.length ≤ 16777216 := by omega
        simp [F_law_part, B_law_part, n1, n2, -neW, hz.1, hz.2, e1, e2, boxW, hk, h2, e3, hz2, hz3]
      · obtain ⟨ss, o3, e3, b3, l3, p3⟩ := ends_ok b2 (by omega) hes hl 1 (by decide) (some (.str wire)) (some (.lst (vs.map .str))) (some (.lst (bs.map boxW))) (some (.str b.1)) (some (.str b.2)) none none R
        refine ⟨_, o3, ?_, b3.le, .box b.1 wire b.2 ss hbb.1 hw hbb.2 ⟨by omega, fun w hw => hes.2 w (p3 w hw)⟩ (by simp [cntK, hk, l3])⟩
        have h2 : bigI 1 = true := rfl
        have hz2 : ss.length + 3 ≤ 16777216 := by omega
        have hz3 : 3 + ss.length ≤ 16777216 := by omega
        simp [F_law_part, B_law_part, n1, n2, -neW, hz.1, hz.2, e1, e2, boxW, hk, h2, e3, hz2, hz3]
    · obtain ⟨n, ts, o2, o3, e2, hbn, e3, b', p⟩ := mix _ o1 b1 (by omega)
      refine ⟨_, o3, ?_, b', p⟩
      simp [F_law_part, B_law_part, n1, n2, -neW, hz.1, hz.2, e1, hr, e2, hbn, e3]
  · obtain ⟨n, ts, o2, o3, e2, hbn, e3, b', p⟩ := mix _ o h (by omega)
    refine ⟨_, o3, ?_, b', p⟩
    by_cases hb : bs = []
    · subst hb
      have n1' : ∀ G, neW (.lst []) (.lst []) G = .ok (.bl false) G := fun G => by simpa using n1 G
      have e3' : compL (gN 8) (eC (.bl true)) C2_law_part [some (.ref 0), some (.str wire), some (.lst (es.map .str)), some (.lst (vs.map .str)), some (.lst []), none, none, none, none] (rngL 0 n.toNat) [] (o2 :: R) = .ok (.lst ts) (o3 :: R) := e3
      simp [F_law_part, B_law_part, n1', -neW, e2, hbn, e3']
    · have he : es = [] := Classical.byContradiction fun q => hz ⟨hb, q⟩
      subst he
      have n2' : ∀ G, neW (.lst []) (.lst []) G = .ok (.bl false) G := fun G => by simpa using n2 G
      have e3' : compL (gN 8) (eC (.bl true)) C2_law_part [some (.ref 0), some (.str wire), some (.lst []), some (.lst (vs.map .str)), some (.lst (bs.map boxW)), none, none, none, none] (rngL 0 n.toNat) [] (o2 :: R) = .ok (.lst ts) (o3 :: R) := e3
      simp [F_law_part, B_law_part, n1, n2', -neW, hb, e2, hbn, e3']
theorem pure_term {t : W} (h : TermW t) : pureW t = true := by cases h; rfl
theorem pure_part {t : W} (h : PartW t) : pureW t = true := by
  cases h with
  | src w _ => rfl
  | box k w n ends _ _ _ _ _ =>
    show (true && (true && (true && pureW.pureWs (ends.map .str)))) = true
    rw [pure_strs]; rfl
  | mix w ts _ _ h =>
    show (true && (true && (pureW.pureWs ts && true))) = true
    rw [pureWs_all, List.all_eq_true.mpr fun t ht => pure_term (h t ht)]; rfl
  | use w n ends _ _ _ _ =>
    show (true && (true && (true && (pureW.pureWs (ends.map .str) && true)))) = true
    rw [pure_strs]; rfl
theorem rngL_at {w : W} {i : Int} {n j : Nat} (h : (rngL i n)[j]? = some w) : j < n ∧ w = .int (i + (j : Int)) := by
  have hj : j < n := by
    have := (List.getElem?_eq_some_iff.mp h).1
    rwa [rngL_len] at this
  refine ⟨hj, ?_⟩
  unfold rngL at h
  rw [List.getElem?_map, List.getElem?_range hj] at h
  simp at h
  exact h.symm
theorem ShortL.take {ws : List (List Nat)} (h : ShortL ws) (n : Nat) : ShortL (ws.take n) := ⟨by have := h.1; rw [List.length_take]; omega, fun w hw => h.2 w (List.mem_of_mem_take hw)⟩
theorem cut_strs (ws : List (List Nat)) (n : Nat) : cut (ws.map W.str) none (some (n : Int)) = (ws.take n).map W.str := by rw [cut_take, List.map_take]
theorem cut_strs_i (ws : List (List Nat)) (k : Int) (h : 0 ≤ k) : cut (ws.map W.str) none (some k) = (ws.take k.toNat).map W.str := by
  obtain ⟨n, rfl⟩ : ∃ n : Nat, k = n := ⟨k.toNat, by omega⟩
  rw [cut_strs]; rfl
theorem parts_ok {c : Nat} {o : O} (h : BagOk c o) (hc : c ≤ 500000) {ws : List (List Nat)} {bs : List (List Nat × List Nat)} (hws : ShortL ws) (hbs : BoxL bs) (s : Int) (hs0 : 0 ≤ s) (hs1 : s ≤ 50) :
    ∃ (ps : List W) (o' : O), F_law_parts [.ref 0, .lst (ws.map .str), .int s, .lst (bs.map boxW)] [o] = .ok (.lst ps) [o'] ∧ BagOk (c + 5000) o' ∧ ps.length ≤ 100 ∧ ∀ p ∈ ps, PartW p := by
  have hlen := hws.1
  have first : ∀ ls0 : Ls, ls0.length = 7 → ∀ G, compL (gN 6) (eC (.bl true)) C1_law_parts ls0 ((ws.take s.toNat).map .str) [] G = .ok (.lst ((ws.take s.toNat).map fun w => .tup [.str sSOURCE, .str w])) G := fun ls0 hl G => by
    match ls0, hl with
    | [x0, x1, x2, x3, x4, x5, x6], _ =>
      have := compL_map (gN 6) (eC (.bl true)) C1_law_parts [x0, x1, x2, x3, x4, x5, x6] (fun w => .tup [.str sSOURCE, w]) G ((ws.take s.toNat).map .str) [] (fun w hw => ⟨[x0, x1, x2, x3, x4, x5, some w], by simp, by simp, by simp [C1_law_parts]⟩) (by simp [SZ]; omega)
      rw [this]
      simp [List.map_map, Function.comp_def]
  have srcs : ∀ p ∈ ((ws.take s.toNat).map fun w => W.tup [.str sSOURCE, .str w]), PartW p := fun p hp => by
    obtain ⟨w, hw, rfl⟩ := List.mem_map.mp hp
    exact .src w (hws.2 w (List.mem_of_mem_take hw))
  have hb1 : bigI s = true := decide_eq_true (by omega)
  have hb2 : bigI (ws.length : Int) = true := decide_eq_true (by omega)
  obtain ⟨ls', G', e, x5, x6, ps, o', rfl, rfl, hb, hl, hP⟩ := forL_inv (gN 5) L1_law_parts (fun k ls G => ∃ (x5 x6 : Option W) (ps : List W) (o' : O), ls = [some (.ref 0), some (.lst (ws.map .str)), some (.int s), some (.lst (bs.map boxW)), some (.ref 1), x5, x6] ∧ G = [o', .lst ps] ∧ BagOk (c + 50 * k) o' ∧ ps.length ≤ 50 + k ∧ ∀ p ∈ ps, PartW p) (rngL s ((ws.length : Int) - s).toNat) 0
    [some (.ref 0), some (.lst (ws.map .str)), some (.int s), some (.lst (bs.map boxW)), some (.ref 1), none, none] [o, .lst ((ws.take s.toNat).map fun w => W.tup [.str sSOURCE, .str w])] (fun j w ls G hw hI => by
      obtain ⟨x5, x6, ps, o1, rfl, rfl, hb, hl, hP⟩ := hI
      obtain ⟨hj, rfl⟩ := rngL_at hw
      obtain ⟨k, hk⟩ : ∃ k : Nat, s + (j : Int) = k := ⟨(s + j).toNat, by omega⟩
      have hkl : k < ws.length := by omega
      have hwk : NameW ws[k] := hws.2 _ (List.getElem_mem hkl)
      obtain ⟨t, o2, e, b2, p⟩ := part_ok hb (by omega) hwk (hws.take k) hws (by omega) hbs [.lst ps]
      rw [hk]
      have hz : ps.length < 16777216 := by omega
      refine ⟨_, _, [some (.ref 0), some (.lst (ws.map .str)), some (.int s), some (.lst (bs.map boxW)), some (.ref 1), some (.int k), x6], [o2, .lst (ps ++ [t])], by simp; exact ⟨rfl, rfl⟩, .inl ?_, some (.int k), x6, _, o2, rfl, rfl, b2.le, by simp; omega, fun x hx => ?_⟩
      · simp [L1_law_parts, atI, ixN, hkl, cut_strs, -List.map_take, e, hz]
      · rcases List.mem_append.mp hx with hx | hx
        · exact hP x hx
        · rw [List.mem_singleton.mp hx]; exact p) ⟨none, none, _, o, rfl, rfl, h, by simp; omega, srcs⟩
  rw [rngL_len] at hb hl
  have hpp : pureW.pureWs ps = true := by
    rw [pureWs_all]
    exact List.all_eq_true.mpr fun p hp => pure_part (hP p hp)
  refine ⟨ps, o', ?_, hb.le, by omega, hP⟩
  refine pur_bag (w := .ref 1) (L := [.lst ps]) ?_ hb ?_
  · have first' := first [some (.ref 0), some (.lst (ws.map .str)), some (.int s), some (.lst (bs.map boxW)), none, none, none] rfl [o]
    simp [B_law_parts, cut_strs_i ws s hs0, -List.map_take, first', hb1, hb2, e, R1_law_parts]
  · simp only [rsW]
    show (rsWs _ ps).map W.lst = _
    rw [rs_pures ps hpp]
    rfl
theorem boxes_ok {c : Nat} {o : O} (h : BagOk c o) (hc : c ≤ 500000) {ws : List (List Nat)} (hws : ShortL ws) (R : Gs) :
    ∃ (bs : List (List Nat × List Nat)) (o' : O), F_law_boxes [.ref 0, .lst (ws.map .str)] (o :: R) = .ok (.lst (bs.map boxW)) (o' :: R) ∧ BagOk (c + 50) o' ∧ BoxL bs := by
  have hlen := hws.1
  obtain ⟨ts, o', e, b, l, p⟩ := draws_ok (k := 1) (fun t => ∃ b : List Nat × List Nat, t = boxW b ∧ b.1 ∈ KINDS ∧ NameW b.2) (gN 2) C1_law_boxes [some (.ref 0), some (.lst (ws.map .str)), none] (ws.map .str) R h (by rw [List.length_map]; omega) (by rw [List.length_map]; omega) (fun w hw c o hb hc => by
    obtain ⟨s, hs, rfl⟩ := List.mem_map.mp hw
    obtain ⟨k, o', e, b, m⟩ := any_strs hb (by omega) KINDS (by decide) (by decide) R
    have e : F_law_any [.ref 0, .lst [.str [112, 108, 97, 105, 110], .str [111, 100, 100], .str [107, 101, 101, 112], .str [112, 97, 105, 114]]] (o :: R) = .ok (.str k) (o' :: R) := e
    exact ⟨[some (.ref 0), some (.lst (ws.map .str)), some (.str s)], boxW (k, s), o', by simp, by simp [C1_law_boxes, e, boxW], b, (k, s), rfl, m, hws.2 s hs⟩)
  have : ∃ bs : List (List Nat × List Nat), ts = bs.map boxW ∧ ∀ b ∈ bs, b.1 ∈ KINDS ∧ NameW b.2 := by
    clear e l b
    induction ts with
    | nil => exact ⟨[], rfl, fun _ h => absurd h List.not_mem_nil⟩
    | cons t r ih =>
      obtain ⟨b, rfl, hb⟩ := p _ List.mem_cons_self
      obtain ⟨bs, rfl, h2⟩ := ih fun x hx => p x (List.mem_cons_of_mem _ hx)
      exact ⟨b :: bs, rfl, fun x hx => by
        rcases List.mem_cons.mp hx with rfl | hx
        · exact hb
        · exact h2 x hx⟩
  obtain ⟨bs, rfl, hbs⟩ := this
  rw [List.length_map] at b
  refine ⟨bs, o', ?_, b.le, by simp at l; omega, hbs⟩
  simp [F_law_boxes, B_law_boxes, e]
/-! ### words -/
theorem cStr_ok {i : Int} (h : i.natAbs < 2 ^ 64) : cStr i = true := by
  unfold cStr
  refine decide_eq_true ?_
  by_cases hz : i.natAbs = 0
  · rw [hz]; decide
  · exact (Nat.log2_lt hz).mpr (Nat.lt_of_lt_of_le h (Nat.pow_le_pow_right (by decide) (by decide)))
theorem strI_len : ∀ n < 1001, (strI (n : Nat)).length ≤ 5 ∧ (strI (-(n : Nat))).length ≤ 5 := by decide +kernel
theorem strI_short {i : Int} (h1 : -1000 ≤ i) (h2 : i ≤ 1000) : (strI i).length ≤ 5 := by
  rcases Int.le_total 0 i with h | h
  · have := (strI_len i.toNat (by omega)).1
    rwa [show ((i.toNat : Nat) : Int) = i by omega] at this
  · have := (strI_len (-i).toNat (by omega)).2
    rwa [show -(((-i).toNat : Nat) : Int) = i by omega] at this
def twW : W → List (List Nat)
  | .tup [.int f, .int d, .str w] => [strI f, w] ++ (if 0 < d then [[108, 97, 116, 101], strI d] else [])
  | _ => []
def accW (w : List Nat) (ts : List W) : Nat → List (List Nat)
  | 0 => [w, sMIX]
  | k + 1 => accW w ts k ++ (if 0 < k then [[44]] else []) ++ (match ts[k]? with | some t => twW t | none => [])
theorem tw_ok {t : W} (h : TermW t) : (∀ G, F_term_words [t] G = .ok (.lst ((twW t).map .str)) G) ∧ (twW t).length ≤ 4 ∧ ∀ w ∈ twW t, w.length ≤ 30 := by
  cases h with
  | mk f d w f0 f1 d0 d1 hw =>
    have c1 : cStr f = true := cStr_ok (by omega)
    have c2 : cStr d = true := cStr_ok (by omega)
    have l1 := strI_short (i := f) (by omega) (by omega)
    have l2 := strI_short (i := d) (by omega) (by omega)
    by_cases hd : 0 < d
    · refine ⟨fun G => by simp [F_term_words, B_term_words, c1, c2, hd, twW], by simp [twW, hd], fun x hx => ?_⟩
      simp [twW, hd] at hx
      rcases hx with rfl | rfl | rfl | rfl
      · omega
      · exact hw.l30
      · decide
      · omega
    · refine ⟨fun G => by simp [F_term_words, B_term_words, c1, c2, hd, twW], by simp [twW, hd], fun x hx => ?_⟩
      simp [twW, hd] at hx
      rcases hx with rfl | rfl
      · omega
      · exact hw.l30
theorem acc_ok (w : List Nat) (hw : NameW w) {ts : List W} (h : ∀ t ∈ ts, TermW t) : ∀ k, (accW w ts k).length ≤ 2 + 5 * k ∧ ∀ x ∈ accW w ts k, x.length ≤ 30
  | 0 => ⟨by simp [accW], fun x hx => by
    simp [accW] at hx
    rcases hx with rfl | rfl
    · exact hw.l30
    · decide⟩
  | k + 1 => by
    obtain ⟨l, p⟩ := acc_ok w hw h k
    have tl : (match ts[k]? with | some t => twW t | none => []).length ≤ 4 ∧ ∀ x ∈ (match ts[k]? with | some t => twW t | none => []), x.length ≤ 30 := by
      cases e : ts[k]? with
      | none => exact ⟨Nat.zero_le _, fun _ h => absurd h List.not_mem_nil⟩
      | some t => exact (tw_ok (h t (List.mem_of_getElem? e))).2
    have sl : (if 0 < k then [[44]] else [] : List (List Nat)).length ≤ 1 ∧ ∀ x ∈ (if 0 < k then [[44]] else [] : List (List Nat)), x.length ≤ 30 := by
      split
      · exact ⟨Nat.le_refl _, fun x hx => by rw [List.mem_singleton.mp hx]; decide⟩
      · exact ⟨Nat.zero_le _, fun _ h => absurd h List.not_mem_nil⟩
    refine ⟨?_, fun x hx => ?_⟩
    · simp only [accW, List.length_append]
      omega
    · simp only [accW] at hx
      rcases List.mem_append.mp hx with hx | hx
      · rcases List.mem_append.mp hx with hx | hx
        · exact p x hx
        · exact sl.2 x hx
      · exact tl.2 x hx
theorem if_strs (p : Prop) [Decidable p] (a b : List (List Nat)) : (if p then W.lst (a.map .str) else W.lst (b.map .str)) = W.lst ((if p then a else b).map .str) := by split <;> rfl
theorem mix_loop1 {w : List Nat} (hw : NameW w) {ts : List W} (h : ∀ t ∈ ts, TermW t) (hl : ts.length ≤ 10) (x0 x1 x2 x3 : Option W) (G : Gs) :
    ∃ x5 x6, forL (gT 2 (gs1 (gN 5) (gs1 (gN 6) gs0))) L1_part_words (enumL 0 ts) [x0, x1, x2, x3, some (.lst ((accW w ts 0).map .str)), none, none] G = .nx [x0, x1, x2, x3, some (.lst ((accW w ts ts.length).map .str)), x5, x6] G := by
  obtain ⟨ls', G', e, x5, x6, rfl, rfl⟩ := forL_inv (gT 2 (gs1 (gN 5) (gs1 (gN 6) gs0))) L1_part_words (fun k ls G' => ∃ x5 x6, ls = [x0, x1, x2, x3, some (.lst ((accW w ts k).map .str)), x5, x6] ∧ G' = G) (enumL 0 ts) 0 [x0, x1, x2, x3, some (.lst ((accW w ts 0).map .str)), none, none] G (fun j y ls G' hy hI => by
    obtain ⟨x5, x6, rfl, rfl⟩ := hI
    rw [enumL_get] at hy
    obtain ⟨t, ht, rfl⟩ := Option.map_eq_some_iff.mp hy
    have hj : j < ts.length := (List.getElem?_eq_some_iff.mp ht).1
    obtain ⟨et, lt, _⟩ := tw_ok (h t (List.mem_of_getElem? ht))
    obtain ⟨la, _⟩ := acc_ok w hw h j
    refine ⟨_, _, [x0, x1, x2, x3, some (.lst ((accW w ts (j + 1)).map .str)), some (.int j), some t], G', by simp; exact ⟨rfl, rfl⟩, .inl ?_, some (.int j), some t, by rw [Nat.zero_add], rfl⟩
    have z1 : (accW w ts j).length + 1 ≤ 16777216 := by omega
    have z0 : (accW w ts j).length ≤ 16777216 := by omega
    have z2 : (accW w ts j).length + 1 + (twW t).length ≤ 16777216 := by omega
    have z3 : (accW w ts j).length + (twW t).length ≤ 16777216 := by omega
    by_cases hj0 : 0 < j
    · have hj0' : (0 : Int) < (j : Int) := by omega
      simp [L1_part_words, hj0', et, z1, z2, accW, ht, hj0]
    · have hj0' : ¬ (0 : Int) < (j : Int) := by omega
      simp [L1_part_words, hj0', et, z0, z3, accW, ht, hj0]) ⟨none, none, rfl, rfl⟩
  rw [enumL_len, Nat.zero_add] at e
  exact ⟨x5, x6, e⟩
theorem mix_loop2 {w : List Nat} (hw : NameW w) {ts : List W} (h : ∀ t ∈ ts, TermW t) (hl : ts.length ≤ 10) (x0 : Option W) (G : Gs) :
    ∃ x2 x3, forL (gT 2 (gs1 (gN 2) (gs1 (gN 3) gs0))) L1_law_part_words (enumL 0 ts) [x0, some (.lst ((accW w ts 0).map .str)), none, none] G = .nx [x0, some (.lst ((accW w ts ts.length).map .str)), x2, x3] G := by
  obtain ⟨ls', G', e, x5, x6, rfl, rfl⟩ := forL_inv (gT 2 (gs1 (gN 2) (gs1 (gN 3) gs0))) L1_law_part_words (fun k ls G' => ∃ x5 x6, ls = [x0, some (.lst ((accW w ts k).map .str)), x5, x6] ∧ G' = G) (enumL 0 ts) 0 [x0, some (.lst ((accW w ts 0).map .str)), none, none] G (fun j y ls G' hy hI => by
    obtain ⟨x5, x6, rfl, rfl⟩ := hI
    rw [enumL_get] at hy
    obtain ⟨t, ht, rfl⟩ := Option.map_eq_some_iff.mp hy
    have hj : j < ts.length := (List.getElem?_eq_some_iff.mp ht).1
    have hT := h t (List.mem_of_getElem? ht)
    obtain ⟨la, _⟩ := acc_ok w hw h j
    refine ⟨_, _, [x0, some (.lst ((accW w ts (j + 1)).map .str)), some (.int j), some t], G', by simp; exact ⟨rfl, rfl⟩, .inl ?_, some (.int j), some t, by rw [Nat.zero_add], rfl⟩
    cases hT with
    | mk f d w' f0 f1 d0 d1 hw' =>
      have c1 : cStr f = true := cStr_ok (by omega)
      have c2 : cStr d = true := cStr_ok (by omega)
      have z0 : (accW w ts j).length ≤ 16777216 := by omega
      have z1 : (accW w ts j).length + 1 ≤ 16777216 := by omega
      have z2 : (accW w ts j).length + 2 ≤ 16777216 := by omega
      have z3 : (accW w ts j).length + 1 + 2 ≤ 16777216 := by omega
      have z4 : (accW w ts j).length + 2 + 2 ≤ 16777216 := by omega
      have z5 : (accW w ts j).length + 1 + 2 + 2 ≤ 16777216 := by omega
      by_cases hd : 0 < d <;> by_cases hj0 : 0 < j
      · have hj0' : (0 : Int) < (j : Int) := by omega
        simp [L1_law_part_words, hj0', hd, atI, ixN, c1, c2, z1, z3, z5, accW, ht, hj0, twW]
      · have hj0' : ¬ (0 : Int) < (j : Int) := by omega
        simp [L1_law_part_words, hj0', hd, atI, ixN, c1, c2, z0, z2, z4, accW, ht, hj0, twW]
      · have hj0' : (0 : Int) < (j : Int) := by omega
        simp [L1_law_part_words, hj0', hd, atI, ixN, c1, c2, z1, z3, accW, ht, hj0, twW]
      · have hj0' : ¬ (0 : Int) < (j : Int) := by omega
        simp [L1_law_part_words, hj0', hd, atI, ixN, c1, c2, z0, z2, accW, ht, hj0, twW]) ⟨none, none, rfl, rfl⟩
  rw [enumL_len, Nat.zero_add] at e
  exact ⟨x5, x6, e⟩
/-- a part's words, as the program and as the law tell them -/
theorem words_ok {p : W} (h : PartW p) : ∃ ws : List (List Nat), (∀ G, F_part_words [p] G = .ok (.lst (ws.map .str)) G) ∧ (∀ G, F_law_part_words [p] G = .ok (.lst (ws.map .str)) G) ∧ ws.length ≤ 100 ∧ ∀ w ∈ ws, w.length ≤ 30 := by
  cases h with
  | src w hw =>
    refine ⟨[w, sSOURCE], fun G => by simp [F_part_words, B_part_words], fun G => ?_, by simp, fun x hx => ?_⟩
    · have : cut [W.str sSOURCE, W.str w] (some 2) none = [] := rfl
      simp [F_law_part_words, B_law_part_words, atI, ixN, this]
    · simp at hx
      rcases hx with rfl | rfl
      · exact hw.l30
      · decide
  | box k w n ends hk hw hn he hc =>
    have hl := he.1
    have k1 : ¬ k = [117, 115, 101] := fun e => by subst e; revert hk; decide
    have k2 : ¬ k = [109, 105, 120] := fun e => by subst e; revert hk; decide
    have z1 : ends.length + 1 + 1 + 1 ≤ 16777216 := by omega
    have z2 : 2 + (ends.length + 1) ≤ 16777216 := by omega
    refine ⟨w :: k :: n :: ends, fun G => ?_, fun G => ?_, by simp; omega, fun x hx => ?_⟩
    · simp [F_part_words, B_part_words, k1, k2, z1]
    · have : cut (W.str k :: W.str w :: W.str n :: ends.map W.str) (some 2) none = W.str n :: ends.map W.str := cut_drop _ 2
      have i0 : (0 : Int) < (ends.length : Int) + 1 + 1 + 1 := by omega
      have i1 : (1 : Int) < (ends.length : Int) + 1 + 1 + 1 := by omega
      simp [F_law_part_words, B_law_part_words, atI, ixN, i0, i1, k1, k2, this, z2]
    · simp at hx
      rcases hx with rfl | rfl | rfl | hx
      · exact hw.l30
      · exact (kind_name hk).1
      · exact hn.l30
      · exact (he.2 x hx).l30
  | mix w ts hw hl ht =>
    refine ⟨accW w ts ts.length, fun G => ?_, fun G => ?_, by have := (acc_ok w hw ht ts.length).1; omega, (acc_ok w hw ht ts.length).2⟩
    · obtain ⟨x5, x6, e⟩ := mix_loop1 hw ht (by omega) (some (.tup [.str sMIX, .str w, .tup ts])) (some (.str sMIX)) (some (.str w)) (some (.lst [.tup ts])) G
      have e0 : accW w ts 0 = [w, sMIX] := rfl
      rw [e0] at e
      simp only [List.map_cons, List.map_nil] at e
      simp [F_part_words, B_part_words, atI, ixN, e, R1_part_words]
    · obtain ⟨x5, x6, e⟩ := mix_loop2 hw ht (by omega) (some (.tup [.str sMIX, .str w, .tup ts])) G
      have e0 : accW w ts 0 = [w, sMIX] := rfl
      rw [e0] at e
      simp only [List.map_cons, List.map_nil] at e
      simp [F_law_part_words, B_law_part_words, atI, ixN, e, R1_law_part_words]
  | use w n ends hw hn he hu =>
    have hl := he.1
    have z1 : ends.length + 1 + 1 + 1 ≤ 16777216 := by omega
    have z2 : 3 + ends.length ≤ 16777216 := by omega
    refine ⟨w :: sUSE :: n :: ends, fun G => ?_, fun G => ?_, by simp; omega, fun x hx => ?_⟩
    · simp [F_part_words, B_part_words, atI, ixN, z1]
    · simp [F_law_part_words, B_law_part_words, atI, ixN, z2]
    · simp at hx
      rcases hx with rfl | rfl | rfl | hx
      · exact hw.l30
      · decide
      · exact hn.l30
      · exact (he.2 x hx).l30
theorem strs_map : ∀ ss : List (List Nat), strsOf (ss.map .str) = some ss
  | [] => rfl
  | s :: r => by simp [strs_map r]
theorem sum_le {ss : List (List Nat)} (h : ∀ w ∈ ss, w.length ≤ 30) : (ss.map (·.length)).sum ≤ 30 * ss.length := by
  induction ss with
  | nil => simp
  | cons s r ih =>
    have h1 := h s List.mem_cons_self
    have h2 := ih fun w hw => h w (List.mem_cons_of_mem _ hw)
    simp only [List.map_cons, List.sum_cons, List.length_cons]
    omega
def wOf (p : W) : List (List Nat) := match F_part_words [p] [] with
  | .ok (.lst xs) _ => (strsOf xs).getD []
  | _ => []
theorem wOf_ok {p : W} (h : PartW p) : (∀ G, F_part_words [p] G = .ok (.lst ((wOf p).map .str)) G) ∧ (∀ G, F_law_part_words [p] G = .ok (.lst ((wOf p).map .str)) G) ∧ (wOf p).length ≤ 100 ∧ ∀ w ∈ wOf p, w.length ≤ 30 := by
  obtain ⟨ws, e1, e2, l, q⟩ := words_ok h
  have : wOf p = ws := by
    unfold wOf
    rw [e1 []]
    simp [strs_map]
  rw [this]
  exact ⟨e1, e2, l, q⟩
def accT (ps : List W) : Nat → List (List Nat)
  | 0 => []
  | k + 1 => accT ps k ++ (match ps[k]? with | some p => wOf p | none => []) ++ [[59]]
theorem accT_ok {ps : List W} (h : ∀ p ∈ ps, PartW p) : ∀ k, (accT ps k).length ≤ 101 * k ∧ ∀ x ∈ accT ps k, x.length ≤ 30
  | 0 => ⟨by simp [accT], fun x hx => by simp [accT] at hx⟩
  | k + 1 => by
    obtain ⟨l, p⟩ := accT_ok h k
    have tl : (match ps[k]? with | some p => wOf p | none => []).length ≤ 100 ∧ ∀ x ∈ (match ps[k]? with | some p => wOf p | none => []), x.length ≤ 30 := by
      cases e : ps[k]? with
      | none => exact ⟨Nat.zero_le _, fun _ h => absurd h List.not_mem_nil⟩
      | some t => exact (wOf_ok (h t (List.mem_of_getElem? e))).2.2
    refine ⟨?_, fun x hx => ?_⟩
    · simp only [accT, List.length_append, List.length_cons, List.length_nil]
      omega
    · simp only [accT] at hx
      rcases List.mem_append.mp hx with hx | hx
      · rcases List.mem_append.mp hx with hx | hx
        · exact p x hx
        · exact tl.2 x hx
      · rw [List.mem_singleton.mp hx]; decide
theorem text_loop {ps : List W} (h : ∀ p ∈ ps, PartW p) (hl : ps.length ≤ 100) (x0 x1 : Option W) (G : Gs) :
    ∃ x3, forL (gN 3) L1_text_of ps [x0, x1, some (.lst []), none] G = .nx [x0, x1, some (.lst ((accT ps ps.length).map .str)), x3] G := by
  obtain ⟨ls', G', e, x3, rfl, rfl⟩ := forL_inv (gN 3) L1_text_of (fun k ls G' => ∃ x3, ls = [x0, x1, some (.lst ((accT ps k).map .str)), x3] ∧ G' = G) ps 0 [x0, x1, some (.lst []), none] G (fun j p ls G' hp hI => by
    obtain ⟨x3, rfl, rfl⟩ := hI
    have hj : j < ps.length := (List.getElem?_eq_some_iff.mp hp).1
    obtain ⟨ep, _, lp, _⟩ := wOf_ok (h p (List.mem_of_getElem? hp))
    obtain ⟨la, _⟩ := accT_ok h j
    refine ⟨_, _, [x0, x1, some (.lst ((accT ps (j + 1)).map .str)), some p], G', by simp; exact ⟨rfl, rfl⟩, .inl ?_, some p, by rw [Nat.zero_add], rfl⟩
    have z1 : (accT ps j).length + (wOf p).length ≤ 16777216 := by omega
    have z2 : (accT ps j).length + (wOf p).length + 1 ≤ 16777216 := by omega
    simp [L1_text_of, ep, z1, z2, accT, hp]) ⟨none, rfl, rfl⟩
  rw [Nat.zero_add] at e
  exact ⟨x3, e⟩
theorem lawords_loop {ps : List W} (h : ∀ p ∈ ps, PartW p) (hl : ps.length ≤ 100) (x0 x1 : Option W) (G : Gs) :
    ∃ x3, forL (gN 3) L1_law_words ps [x0, x1, some (.lst []), none] G = .nx [x0, x1, some (.lst ((accT ps ps.length).map .str)), x3] G := by
  obtain ⟨ls', G', e, x3, rfl, rfl⟩ := forL_inv (gN 3) L1_law_words (fun k ls G' => ∃ x3, ls = [x0, x1, some (.lst ((accT ps k).map .str)), x3] ∧ G' = G) ps 0 [x0, x1, some (.lst []), none] G (fun j p ls G' hp hI => by
    obtain ⟨x3, rfl, rfl⟩ := hI
    have hj : j < ps.length := (List.getElem?_eq_some_iff.mp hp).1
    obtain ⟨_, ep, lp, _⟩ := wOf_ok (h p (List.mem_of_getElem? hp))
    obtain ⟨la, _⟩ := accT_ok h j
    refine ⟨_, _, [x0, x1, some (.lst ((accT ps (j + 1)).map .str)), some p], G', by simp; exact ⟨rfl, rfl⟩, .inl ?_, some p, by rw [Nat.zero_add], rfl⟩
    have z1 : (accT ps j).length + (wOf p).length ≤ 16777216 := by omega
    have z2 : (accT ps j).length + (wOf p).length + 1 ≤ 16777216 := by omega
    simp [L1_law_words, ep, z1, z2, accT, hp]) ⟨none, rfl, rfl⟩
  rw [Nat.zero_add] at e
  exact ⟨x3, e⟩
/-- all the words of a net -/
def netW (ps : List W) (outs : List (List Nat)) : List (List Nat) := accT ps ps.length ++ [[62]] ++ outs
theorem netW_ok {ps : List W} {outs : List (List Nat)} (h : ∀ p ∈ ps, PartW p) (hl : ps.length ≤ 100) (ho : ShortL outs) : (netW ps outs).length ≤ 10200 ∧ ∀ x ∈ netW ps outs, x.length ≤ 30 := by
  obtain ⟨la, p⟩ := accT_ok h ps.length
  have := ho.1
  refine ⟨by simp [netW]; omega, fun x hx => ?_⟩
  simp only [netW] at hx
  rcases List.mem_append.mp hx with hx | hx
  · rcases List.mem_append.mp hx with hx | hx
    · exact p x hx
    · rw [List.mem_singleton.mp hx]; decide
  · exact (ho.2 x hx).l30
def netT (ps : List W) (outs : List (List Nat)) : List Nat := TL.joinL [32] (netW ps outs)
theorem law_words_ok {ps : List W} {outs : List (List Nat)} (h : ∀ p ∈ ps, PartW p) (hl : ps.length ≤ 100) (ho : ShortL outs) (G : Gs) : F_law_words [.lst ps, .lst (outs.map .str)] G = .ok (.lst ((netW ps outs).map .str)) G := by
  obtain ⟨x3, e⟩ := lawords_loop h hl (some (.lst ps)) (some (.lst (outs.map .str))) G
  obtain ⟨la, _⟩ := accT_ok h ps.length
  have := ho.1
  have z1 : (accT ps ps.length).length + 1 ≤ 16777216 := by omega
  have z2 : (accT ps ps.length).length + 1 + outs.length ≤ 16777216 := by omega
  simp [F_law_words, B_law_words, e, R1_law_words, z1, z2, netW]
theorem join_net {ps : List W} {outs : List (List Nat)} (h : ∀ p ∈ ps, PartW p) (hl : ps.length ≤ 100) (ho : ShortL outs) (G : Gs) : joinW [32] (.lst ((netW ps outs).map .str)) G = .ok (.str (netT ps outs)) G := by
  obtain ⟨l, q⟩ := netW_ok h hl ho
  have := sum_le q
  have z : ((netW ps outs).map (·.length)).sum + (netW ps outs).length * ([32] : List Nat).length ≤ SZ := by unfold SZ; simp only [List.length_cons, List.length_nil]; omega
  unfold joinW
  simp only [itemsW_e1, Option.bind_some, strs_map]
  rw [if_pos z]
  rfl
theorem text_of_ok {ps : List W} {outs : List (List Nat)} (h : ∀ p ∈ ps, PartW p) (hl : ps.length ≤ 100) (ho : ShortL outs) (G : Gs) :
    F_text_of [.lst ps, .lst (outs.map .str)] G = .ok (.str (netT ps outs)) G ∧ F_text_of [.tup ps, .tup (outs.map .str)] G = .ok (.str (netT ps outs)) G := by
  obtain ⟨la, _⟩ := accT_ok h ps.length
  have := ho.1
  have z1 : (accT ps ps.length).length + (outs.length + 1) ≤ 16777216 := by omega
  have j := join_net h hl ho G
  have z2 : (netW ps outs).length ≤ 16777216 := by have := (netW_ok h hl ho).1; omega
  have ej : (accT ps ps.length).map W.str ++ W.str [62] :: outs.map W.str = (netW ps outs).map .str := by simp [netW]
  constructor
  · obtain ⟨x3, e⟩ := text_loop h hl (some (.lst ps)) (some (.lst (outs.map .str))) G
    simp [F_text_of, B_text_of, e, R1_text_of, z1, z2, -joinW, ej, -List.map_append, j]
  · obtain ⟨x3, e⟩ := text_loop h hl (some (.tup ps)) (some (.tup (outs.map .str))) G
    simp [F_text_of, B_text_of, e, R1_text_of, z1, z2, -joinW, ej, -List.map_append, j]
end U

namespace K09
open PySem
open L2
open U
/- names of _law_boxes: 0:_law_bag_here 1:_law_words 2:_law_word -/
def C1_law_boxes_v : EF :=
    (eTup (aCons (eFn F_law_any [] (aCons (eVar 0) (aCons (eLst (aCons (eC (.str [112, 108, 97, 105, 110])) (aCons (eC (.str [111, 100, 100])) (aCons (eC (.str [107, 101, 101, 112])) (aCons (eC (.str [112, 97, 105, 114])) aNil))))) aNil))) (aCons (eVar 2) aNil)))
def B_law_boxes_v : SF :=
    (sRet (eComp [2] (iSeq (eVar 1)) (gN 2) (eC (.bl true)) C1_law_boxes_v))
def F_law_boxes_v : Fn := mkFn 2 3 B_law_boxes_v
/- names of _law_use: 0:_law_bag_here 1:_law_wire 2:_law_words 3:_law_k -/
def C1_law_use : EF :=
    (eFn F_law_any [] (aCons (eVar 0) (aCons (eVar 2) aNil)))
def B_law_use : SF :=
    (sRet (eTup (aCons (eC (.str [117, 115, 101])) (aCons (eVar 1) (aCons (eFn F_law_any [] (aCons (eVar 0) (aCons (eVar 2) aNil))) (aCons (eCall tupleW (aCons (eComp [3] (iRange1 (aCons (eFn F_law_pull [] (aCons (eVar 0) (aCons (eC (.int 5)) aNil))) aNil)) (gN 3) (eC (.bl true)) C1_law_use) aNil)) aNil))))))
def F_law_use : Fn := mkFn 3 4 B_law_use
/- names of Words.__init__: 0:self 1:text -/
def B_Words___init : SF :=
    (sSeq (sFldW [(0, 0)] (eVar 0) (eSplit (eVar 1) (eC (.str [32]))))
    (sFldW [(0, 1)] (eVar 0) (eC (.int 0))))
def F_Words___init : Fn := mkFn 2 2 B_Words___init
/- names of Words.here: 0:self -/
def B_Words_here : SF :=
    (sRet (eIf (eOp ltW (eFld [(0, 1)] (eVar 0)) (eCall lenW (aCons (eFld [(0, 0)] (eVar 0)) aNil))) (eOp ixD (eFld [(0, 0)] (eVar 0)) (eFld [(0, 1)] (eVar 0))) (eC .non)))
def F_Words_here : Fn := mkFn 1 1 B_Words_here
/- names of Words.take: 0:self 1:good 2:word -/
def B_Words_take : SF :=
    (sSeq (sAsg (eMeth [(0, (F_Words_here, []))] (eVar 0) aNil) (gN 2))
    (sSeq (sIf (eOr (eOp isW (eVar 2) (eC .non)) (eNot (eVar 1))) sStuck sNil)
    (sSeq (sFldAugW [(0, 1)] (eVar 0) (eC (.int 1)))
    (sRet (eVar 2)))))
def F_Words_take : Fn := mkFn 2 3 B_Words_take
/- names of Words.take_name: 0:self -/
def B_Words_take_name : SF :=
    (sRet (eMeth [(0, (F_Words_take, []))] (eVar 0) (aCons (eFn F_is_name [] (aCons (eMeth [(0, (F_Words_here, []))] (eVar 0) aNil) aNil)) aNil)))
def F_Words_take_name : Fn := mkFn 1 1 B_Words_take_name
/- names of Words.take_names: 0:self 1:most 2:found -/
def T1_Words_take_names : EF :=
    (eAnd (eOp ltW (eCall lenW (aCons (eVar 2) aNil)) (eVar 1)) (eFn F_is_name [] (aCons (eMeth [(0, (F_Words_here, []))] (eVar 0) aNil) aNil)))
def L1_Words_take_names : SF :=
    (sExp (mutL appF (eVar 2) (aCons (eMeth [(0, (F_Words_take, []))] (eVar 0) (aCons (eC (.bl true)) aNil)) aNil)))
def R1_Words_take_names : SF :=
    (sRet (eCall tupleW (aCons (eVar 2) aNil)))
def B_Words_take_names : SF :=
    (sSeq (sAsg (eLstM aNil) (gN 2))
    (sSeq (whileL T1_Words_take_names L1_Words_take_names 1000000)
    R1_Words_take_names))
def F_Words_take_names : Fn := purF (mkFn 2 3 B_Words_take_names)
/- names of number_in: 0:word 1:least 2:most 3:digits 4:number 5:digit -/
def C1_number_in : EF :=
    (eOp inD (eVar 5) (eC (.str [48, 49, 50, 51, 52, 53, 54, 55, 56, 57])))
def B_number_in : SF :=
    (sSeq (sAsg (eIf (eStarts (eVar 0) (eC (.str [45]))) (eSl (eVar 0) (pSm (eC (.int 1))) pNo) (eVar 0)) (gN 3))
    (sSeq (sIf (eOr (eOp eqW (eCall lenW (aCons (eVar 3) aNil)) (eC (.int 0))) (eOr (eOp gtW (eCall lenW (aCons (eVar 3) aNil)) (eC (.int 2))) (eNot (eCall allW (aCons (eComp [5] (iSeq (eVar 3)) (gN 5) (eC (.bl true)) C1_number_in) aNil))))) (sRet (eC .non)) sNil)
    (sSeq (sAsg (eCall intD (aCons (eVar 3) aNil)) (gN 4))
    (sSeq (sIf (eOr (eOp neW (eCall strW (aCons (eVar 4) aNil)) (eVar 3)) (eAnd (eOp eqW (eVar 4) (eC (.int 0))) (eOp neW (eVar 3) (eVar 0)))) (sRet (eC .non)) sNil)
    (sSeq (sAsg (eIf (eOp eqW (eVar 3) (eVar 0)) (eVar 4) (eNeg (eVar 4))) (gN 4))
    (sRet (eIf (eChain leW leW (eVar 1) (eVar 4) (eVar 2)) (eVar 4) (eC .non))))))))
def F_number_in : Fn := mkFn 3 6 B_number_in
/- names of Words.take_number: 0:self 1:least 2:most 3:word 4:number -/
def B_Words_take_number : SF :=
    (sSeq (sAsg (eMeth [(0, (F_Words_here, []))] (eVar 0) aNil) (gN 3))
    (sSeq (sAsg (eIf (eOp isW (eVar 3) (eC .non)) (eC .non) (eFn F_number_in [] (aCons (eVar 3) (aCons (eVar 1) (aCons (eVar 2) aNil))))) (gN 4))
    (sSeq (sExp (eMeth [(0, (F_Words_take, []))] (eVar 0) (aCons (eOp isnW (eVar 4) (eC .non)) aNil)))
    (sRet (eVar 4)))))
def F_Words_take_number : Fn := mkFn 3 5 B_Words_take_number
/- names of Words.take_term: 0:self 1:factor 2:wire -/
def B_Words_take_term : SF :=
    (sSeq (sAsg (eMeth [(0, (F_Words_take_number, []))] (eVar 0) (aCons (eNeg (eC (.int 99))) (aCons (eC (.int 99)) aNil))) (gN 1))
    (sSeq (sAsg (eMeth [(0, (F_Words_take_name, []))] (eVar 0) aNil) (gN 2))
    (sSeq (sIf (eOp neW (eMeth [(0, (F_Words_here, []))] (eVar 0) aNil) (eC (.str [108, 97, 116, 101]))) (sRet (eTup (aCons (eVar 1) (aCons (eC (.int 0)) (aCons (eVar 2) aNil))))) sNil)
    (sSeq (sExp (eMeth [(0, (F_Words_take, []))] (eVar 0) (aCons (eC (.bl true)) aNil)))
    (sRet (eTup (aCons (eVar 1) (aCons (eMeth [(0, (F_Words_take_number, []))] (eVar 0) (aCons (eC (.int 1)) (aCons (eC (.int 4)) aNil))) (aCons (eVar 2) aNil)))))))))
def F_Words_take_term : Fn := mkFn 1 3 B_Words_take_term
/- names of Words.take_terms: 0:self 1:found -/
def T1_Words_take_terms : EF :=
    (eAnd (eOp eqW (eMeth [(0, (F_Words_here, []))] (eVar 0) aNil) (eC (.str [44]))) (eOp ltW (eCall lenW (aCons (eVar 1) aNil)) (eC (.int 6))))
def L1_Words_take_terms : SF :=
    (sSeq (sExp (eMeth [(0, (F_Words_take, []))] (eVar 0) (aCons (eC (.bl true)) aNil)))
    (sExp (mutL appF (eVar 1) (aCons (eMeth [(0, (F_Words_take_term, []))] (eVar 0) aNil) aNil))))
def R1_Words_take_terms : SF :=
    (sRet (eCall tupleW (aCons (eVar 1) aNil)))
def B_Words_take_terms : SF :=
    (sSeq (sIf (eOr (eOp isW (eMeth [(0, (F_Words_here, []))] (eVar 0) aNil) (eC .non)) (eOp isW (eFn F_number_in [] (aCons (eMeth [(0, (F_Words_here, []))] (eVar 0) aNil) (aCons (eNeg (eC (.int 99))) (aCons (eC (.int 99)) aNil)))) (eC .non))) (sRet (eTup aNil)) sNil)
    (sSeq (sAsg (eLstM (aCons (eMeth [(0, (F_Words_take_term, []))] (eVar 0) aNil) aNil)) (gN 1))
    (sSeq (whileL T1_Words_take_terms L1_Words_take_terms 1000000)
    R1_Words_take_terms)))
def F_Words_take_terms : Fn := purF (mkFn 1 2 B_Words_take_terms)
/- names of Words.take_part: 0:self 1:wire 2:word 3:name 4:ends 5:_ -/
def C1_Words_take_part : EF :=
    (eMeth [(0, (F_Words_take_name, []))] (eVar 0) aNil)
def B_Words_take_part : SF :=
    (sSeq (sPar 1 2 (aCons (eMeth [(0, (F_Words_take_name, []))] (eVar 0) aNil) (aCons (eMeth [(0, (F_Words_here, []))] (eVar 0) aNil) aNil)))
    (sSeq (sExp (eMeth [(0, (F_Words_take, []))] (eVar 0) (aCons (eOr (eOp inD (eVar 2) (eTup (aCons (eC (.str [115, 111, 117, 114, 99, 101])) (aCons (eC (.str [109, 105, 120])) (aCons (eC (.str [117, 115, 101])) aNil))))) (eKIn ([([112, 108, 97, 105, 110], 1), ([111, 100, 100], 1), ([107, 101, 101, 112], 1), ([112, 97, 105, 114], 2)] : List (List Nat × Int)) (eVar 2))) aNil)))
    (sSeq (sIf (eOp eqW (eVar 2) (eC (.str [115, 111, 117, 114, 99, 101]))) (sRet (eTup (aCons (eC (.str [115, 111, 117, 114, 99, 101])) (aCons (eVar 1) aNil)))) sNil)
    (sSeq (sIf (eOp eqW (eVar 2) (eC (.str [109, 105, 120]))) (sRet (eTup (aCons (eC (.str [109, 105, 120])) (aCons (eVar 1) (aCons (eMeth [(0, (F_Words_take_terms, []))] (eVar 0) aNil) aNil))))) sNil)
    (sSeq (sAsg (eMeth [(0, (F_Words_take_name, []))] (eVar 0) aNil) (gN 3))
    (sSeq (sIf (eOp eqW (eVar 2) (eC (.str [117, 115, 101]))) (sRet (eTup (aCons (eC (.str [117, 115, 101])) (aCons (eVar 1) (aCons (eVar 3) (aCons (eMeth [(0, (F_Words_take_names, []))] (eVar 0) (aCons (eC (.int 4)) aNil)) aNil)))))) sNil)
    (sSeq (sAsg (eComp [5] (iRange1 (aCons (eKIx ([([112, 108, 97, 105, 110], 1), ([111, 100, 100], 1), ([107, 101, 101, 112], 1), ([112, 97, 105, 114], 2)] : List (List Nat × Int)) (eVar 2)) aNil)) (gN 5) (eC (.bl true)) C1_Words_take_part) (gN 4))
    (sRet (eTup (aCons (eVar 2) (aCons (eVar 1) (aCons (eVar 3) (aStar (eVar 4) aNil)))))))))))))
def F_Words_take_part : Fn := mkFn 1 6 B_Words_take_part
/- names of Words.take_net: 0:self 1:parts 2:outs -/
def T1_Words_take_net : EF :=
    (eOp neW (eMeth [(0, (F_Words_here, []))] (eVar 0) aNil) (eC (.str [62])))
def L1_Words_take_net : SF :=
    (sSeq (sExp (mutL appF (eVar 1) (aCons (eMeth [(0, (F_Words_take_part, []))] (eVar 0) aNil) aNil)))
    (sExp (eMeth [(0, (F_Words_take, []))] (eVar 0) (aCons (eOp eqW (eMeth [(0, (F_Words_here, []))] (eVar 0) aNil) (eC (.str [59]))) aNil))))
def R1_Words_take_net : SF :=
    (sSeq (sExp (eMeth [(0, (F_Words_take, []))] (eVar 0) (aCons (eC (.bl true)) aNil)))
    (sSeq (sAsg (eTup (aCons (eMeth [(0, (F_Words_take_name, []))] (eVar 0) aNil) (aStar (eMeth [(0, (F_Words_take_names, []))] (eVar 0) (aCons (eC (.int 3)) aNil)) aNil))) (gN 2))
    (sSeq (sIf (eOp isnW (eMeth [(0, (F_Words_here, []))] (eVar 0) aNil) (eC .non)) sStuck sNil)
    (sRet (eTup (aCons (eCall tupleW (aCons (eVar 1) aNil)) (aCons (eVar 2) aNil)))))))
def B_Words_take_net : SF :=
    (sSeq (sAsg (eLstM aNil) (gN 1))
    (sSeq (whileL T1_Words_take_net L1_Words_take_net 1000000)
    R1_Words_take_net))
def F_Words_take_net : Fn := purF (mkFn 1 3 B_Words_take_net)
/- names of read_net: 0:text -/
def B_read_net : SF :=
    (sSeq (sIf (eNot (eCall isiW (aCons (eVar 0) (aCons (eC (.ty .str)) aNil)))) sStuck sNil)
    (sRet (eMeth [(0, (F_Words_take_net, []))] (eFn (mkI 0 F_Words___init) [] (aCons (eVar 0) aNil)) aNil)))
def F_read_net : Fn := purF (mkFn 1 1 B_read_net)
/- names of law: 0:_law_script 1:_law_bag_here 2:_law_turn 3:_law_words 4:_law_parts_here 5:_law_outs 6:_law_text_z 7:_law_found 8:_law_part_here 9:_law_k -/
def C1_law : EF :=
    (eIf (eOp eqW (eFn F_law_pull [] (aCons (eVar 1) (aCons (eC (.int 5)) aNil))) (eC (.int 0))) (eFn F_law_use [] (aCons (eVar 1) (aCons (eOp ixD (eVar 8) (eC (.int 1))) (aCons (eVar 3) aNil)))) (eVar 8))
def C2_law : EF :=
    (eFn F_law_any [] (aCons (eVar 1) (aCons (eVar 3) aNil)))
def L1_law : SF :=
    (sSeq (sAsg (eFn F_law_mixed [] (aCons (eVar 1) (aCons (eOp addW (eFn F_law_names [] (aCons (eVar 1) (aCons (eC (.int 9)) aNil))) (eLst (aCons (eC (.str [108, 97, 116, 101])) (aCons (eC (.str [109, 105, 120])) (aCons (eC (.str [117, 115, 101])) aNil))))) aNil))) (gN 3))
    (sSeq (sAsg (eFn F_law_parts [] (aCons (eVar 1) (aCons (eSl (eVar 3) pNo (pSm (eFn F_law_pull [] (aCons (eVar 1) (aCons (eC (.int 11)) aNil))))) (aCons (eFn F_law_pull [] (aCons (eVar 1) (aCons (eC (.int 3)) aNil))) (aCons (eFn F_law_boxes_v [] (aCons (eVar 1) (aCons (eSl (eVar 3) (pSm (eC (.int 2))) (pSm (eC (.int 5)))) aNil))) aNil))))) (gN 4))
    (sSeq (sAsg (eComp [8] (iSeq (eVar 4)) (gN 8) (eC (.bl true)) C1_law) (gN 4))
    (sSeq (sAsg (eCall tupleW (aCons (eComp [9] (iRange1 (aCons (eOp addW (eC (.int 1)) (eFn F_law_pull [] (aCons (eVar 1) (aCons (eC (.int 4)) aNil)))) aNil)) (gN 9) (eC (.bl true)) C2_law) aNil)) (gN 5))
    (sSeq (sAsg (eFn F_text_of [] (aCons (eVar 4) (aCons (eVar 5) aNil))) (gN 6))
    (sSeq (sAsg (eFn F_read_net [] (aCons (eVar 6) aNil)) (gN 7))
    (sSeq (sIf (eOr (eNot (eFn (F_law_same 8) [] (aCons (eVar 7) (aCons (eTup (aCons (eCall tupleW (aCons (eVar 4) aNil)) (aCons (eVar 5) aNil))) aNil)))) (eNot (eFn (F_law_same 8) [] (aCons (eFnK F_read_net [0] [] aNil (aCons (eVar 6) aNil)) (aCons (eVar 7) aNil))))) (sRet (eC (.bl false))) sNil)
    (sIf (eNot (eFn (F_law_same 8) [] (aCons (eFn F_text_of [] (aCons (eOp ixD (eVar 7) (eC (.int 0))) (aCons (eOp ixD (eVar 7) (eC (.int 1))) aNil))) (aCons (eVar 6) aNil)))) (sRet (eC (.bl false))) sNil))))))))
def R1_law : SF :=
    (sRet (eC (.bl true)))
def B_law : SF :=
    (sSeq (sAsg (eFn F_law_bag [] (aCons (eVar 0) aNil)) (gN 1))
    (sSeq (sFor (iRange1 (aCons (eC (.int 4)) aNil)) (gN 2)
    L1_law)
    R1_law))
def F_law : Fn := mkFn 1 10 B_law
end K09

namespace K09
open PySem
open L2
open U
/-! ### reading: the state of Words -/
def st (ws : List (List Nat)) (k : Nat) : O := .ins 0 [.lst (ws.map .str), .int k]
theorem cls_st (o : O) (ws : List (List Nat)) (k : Nat) (L : Gs) : clsOf (.ref 1) (o :: st ws k :: L) = some 0 := rfl
theorem drop_at {α : Type} {ws : List α} {k : Nat} {x : α} {r : List α} (h : ws.drop k = x :: r) : ws[k]? = some x ∧ k < ws.length ∧ ws.drop (k + 1) = r := by
  have hk : k < ws.length := by
    rcases Nat.lt_or_ge k ws.length with h1 | h1
    · exact h1
    · rw [List.drop_eq_nil_of_le h1] at h; cases h
  have e := List.drop_eq_getElem_cons hk
  rw [h] at e
  injection e with e1 e2
  exact ⟨by rw [e1]; exact List.getElem?_eq_getElem hk, hk, e2.symm⟩
theorem here_ok {ws : List (List Nat)} {k : Nat} {x : List Nat} {r : List (List Nat)} (h : ws.drop k = x :: r) (hz : ws.length ≤ 16777216) (o : O) (L : Gs) :
    F_Words_here [.ref 1] (o :: st ws k :: L) = .ok (.str x) (o :: st ws k :: L) := by
  obtain ⟨e, hk, _⟩ := drop_at h
  have h1 : (k : Int) < (ws.length : Int) := by omega
  simp [F_Words_here, B_Words_here, st, clsOf, fldsOf, List.lookup_cons, h1, hz, hk, dOf, atI, ixN]
  exact (List.getElem?_eq_some_iff.mp e).2
theorem here_end {ws : List (List Nat)} {k : Nat} (h : ws.drop k = []) (hz : ws.length ≤ 16777216) (o : O) (L : Gs) :
    F_Words_here [.ref 1] (o :: st ws k :: L) = .ok .non (o :: st ws k :: L) := by
  have hk : ws.length ≤ k := List.drop_eq_nil_iff.mp h
  have h1 : ¬ (k : Int) < (ws.length : Int) := by omega
  simp [F_Words_here, B_Words_here, st, clsOf, fldsOf, List.lookup_cons, h1, hz]
theorem take_ok {ws : List (List Nat)} {k : Nat} {x : List Nat} {r : List (List Nat)} (h : ws.drop k = x :: r) (hz : ws.length ≤ 16777216) (o : O) (L : Gs) :
    F_Words_take [.ref 1, .bl true] (o :: st ws k :: L) = .ok (.str x) (o :: st ws (k + 1) :: L) := by
  have e := here_ok h hz o L
  simp [F_Words_take, B_Words_take, cls_st, -clsOf_ref, List.lookup_cons, e]
  simp [st]
theorem take_name {ws : List (List Nat)} {k : Nat} {x : List Nat} {r : List (List Nat)} (h : ws.drop k = x :: r) (hx : NameW x) (hz : ws.length ≤ 16777216) (o : O) (L : Gs) :
    F_Words_take_name [.ref 1] (o :: st ws k :: L) = .ok (.str x) (o :: st ws (k + 1) :: L) := by
  have e := here_ok h hz o L
  have n := is_name_str x (by have := hx.l30; omega) (o :: st ws k :: L)
  rw [show nameB x = true from hx] at n
  have t := take_ok h hz o L
  simp [F_Words_take_name, B_Words_take_name, cls_st, -clsOf_ref, List.lookup_cons, e, n, t]

/-! lists of locals -/
def LowL (L : Gs) : Prop := ∀ x ∈ L, ∀ n, lowO n x = true
theorem low_st (ws : List (List Nat)) (k n : Nat) : lowO n (st ws k) = true := by
  unfold st lowO
  refine low_pures _ ?_
  show (pureW (.lst (ws.map .str)) && _) = true
  rw [show pureW (.lst (ws.map .str)) = true from pure_strs ws]
  rfl
theorem mix_self {n : Nat} : ∀ {L M : Gs}, LowL L → mixG n L (L ++ M) = true
  | [], _, _ => rfl
  | x :: r, M, h => by
    show ((beqO x x || lowO n x) && mixG n r (r ++ M)) = true
    rw [h x List.mem_cons_self n, mix_self (L := r) fun y hy => h y (List.mem_cons_of_mem _ hy), Bool.or_true]
    rfl
theorem pur_st {F : Fn} {args : List W} {o : O} {ws : List (List Nat)} {k k' : Nat} {L M : Gs} {w : W} (e : F args (o :: st ws k :: L) = .ok w (o :: st ws k' :: (L ++ M))) (ho : ∀ n, lowO n o = true) (hL : LowL L) (hw : pureW w = true) :
    purF F args (o :: st ws k :: L) = .ok w (o :: st ws k' :: L) := by
  unfold purF
  rw [e]
  have hm : mixG (o :: st ws k :: L).length (o :: st ws k :: L) (o :: st ws k' :: (L ++ M)) = true := by
    show ((beqO _ _ || lowO _ _) && ((beqO _ _ || lowO _ _) && mixG _ L (L ++ M))) = true
    rw [ho, low_st, mix_self hL]
    simp
  simp only [hm, if_true, rs_pure w hw]
  simp
theorem set_last {α : Type} (L : List α) (x y : α) : (L ++ [x]).set L.length y = L ++ [y] := by simp
def Stop (m n : Nat) (r : List (List Nat)) : Prop := n = m ∨ r = [] ∨ ∃ y r', r = y :: r' ∧ nameB y = false ∧ y.length ≤ 30
theorem names_loop {ws : List (List Nat)} (hz : ws.length ≤ 16777216) {m : Nat} (hm : m ≤ 100) (o : O) (L : Gs) {r : List (List Nat)} : ∀ (xs acc : List (List Nat)) (k fuel : Nat), ws.drop k = xs ++ r → (∀ x ∈ xs, NameW x) → acc.length + xs.length ≤ m → Stop m (acc.length + xs.length) r → xs.length < fuel →
    whileL T1_Words_take_names L1_Words_take_names fuel [some (.ref 1), some (.int m), some (.ref (L.length + 1 + 1))] (o :: st ws k :: (L ++ [.lst (acc.map .str)])) = .nx [some (.ref 1), some (.int m), some (.ref (L.length + 1 + 1))] (o :: st ws (k + xs.length) :: (L ++ [.lst ((acc ++ xs).map .str)]))
  | [], acc, k, f + 1, hd, hx, hl, hs, hf => by
    have la : ((acc.map W.str).length : Int) = acc.length := by simp
    have lz : acc.length ≤ 16777216 := by have : acc.length ≤ m := by simpa using hl
                                          omega
    by_cases hq : acc.length = m
    · have h1 : ¬ (acc.length : Int) < (m : Int) := by omega
      simp [whileL, T1_Words_take_names, h1, lz]
    · have h1 : (acc.length : Int) < (m : Int) := by
        have : acc.length ≤ m := by simpa using hl
        omega
      rcases hs with hs | hs | ⟨y, r', hs, hy, hl'⟩
      · exact absurd (by simpa using hs) hq
      · subst hs
        have e := here_end (ws := ws) (k := k) (by simpa using hd) hz o (L ++ [.lst (acc.map .str)])
        have n : F_is_name [.non] (o :: st ws k :: (L ++ [.lst (acc.map .str)])) = .ok (.bl false) (o :: st ws k :: (L ++ [.lst (acc.map .str)])) := by simp [F_is_name, B_is_name]
        simp [whileL, T1_Words_take_names, h1, lz, cls_st, -clsOf_ref, List.lookup_cons, e, n]
      · subst hs
        have e := here_ok (ws := ws) (k := k) (x := y) (r := r') (by simpa using hd) hz o (L ++ [.lst (acc.map .str)])
        have n := is_name_str y (by omega) (o :: st ws k :: (L ++ [.lst (acc.map .str)]))
        rw [hy] at n
        simp [whileL, T1_Words_take_names, h1, lz, cls_st, -clsOf_ref, List.lookup_cons, e, n]
  | x :: xs, acc, k, f + 1, hd, hx, hl, hs, hf => by
    have hl' : acc.length + (xs.length + 1) ≤ m := by simpa using hl
    have h1 : (acc.length : Int) < (m : Int) := by omega
    have lz : acc.length ≤ 16777216 := by omega
    have lz' : acc.length < 16777216 := by omega
    have e := here_ok (ws := ws) (k := k) (x := x) (r := xs ++ r) (by simpa using hd) hz o (L ++ [.lst (acc.map .str)])
    have t := take_ok (ws := ws) (k := k) (x := x) (r := xs ++ r) (by simpa using hd) hz o (L ++ [.lst (acc.map .str)])
    have n := is_name_str x (by have := (hx x List.mem_cons_self).l30; omega) (o :: st ws k :: (L ++ [.lst (acc.map .str)]))
    rw [show nameB x = true from hx x List.mem_cons_self] at n
    have ih := names_loop hz hm o L (r := r) xs (acc ++ [x]) (k + 1) f (drop_at (by simpa using hd)).2.2 (fun y hy => hx y (List.mem_cons_of_mem _ hy)) (by simp; omega) (by simpa [Nat.add_comm, Nat.add_left_comm, Nat.add_assoc] using hs) (by simpa using hf)
    rw [whileL]
    simp only [T1_Words_take_names, L1_Words_take_names]
    simp [h1, lz, lz', cls_st, -clsOf_ref, List.lookup_cons, e, n, t]
    simp at ih
    rw [show k + (xs.length + 1) = k + 1 + xs.length by omega]
    exact ih
  | _, _, _, 0, _, _, _, _, hf => absurd hf (Nat.not_lt_zero _)
theorem take_names {ws : List (List Nat)} (hz : ws.length ≤ 16777216) {m : Nat} (hm : m ≤ 100) {o : O} (ho : ∀ n, lowO n o = true) {L : Gs} (hL : LowL L) {xs r : List (List Nat)} {k : Nat} (hd : ws.drop k = xs ++ r) (hx : ∀ x ∈ xs, NameW x) (hl : xs.length ≤ m) (hs : Stop m xs.length r) :
    F_Words_take_names [.ref 1, .int m] (o :: st ws k :: L) = .ok (.tup (xs.map .str)) (o :: st ws (k + xs.length) :: L) := by
  have e := names_loop hz hm o L xs [] k 1000000 hd hx (by simpa using hl) (by simpa using hs) (by omega)
  refine pur_st (M := [.lst (xs.map .str)]) ?_ ho hL (pure_strs xs)
  simp only [List.map_nil, List.nil_append] at e
  have lz : xs.length ≤ 16777216 := by omega
  simp [B_Words_take_names, e, R1_Words_take_names, lz]
def DIG : List Nat := [48, 49, 50, 51, 52, 53, 54, 55, 56, 57]
def isDig (c : Nat) : Bool := decide (c ∈ DIG)
def negW (w : List Nat) : Bool := Txt.startswith ⟨w.toArray⟩ ⟨[45].toArray⟩
def numOk (i : Int) : Bool :=
  let w := strI i
  let d := if i < 0 then w.drop 1 else w
  (negW w == decide (i < 0)) && (decide (1 ≤ d.length) && (decide (d.length ≤ 2) && (d.all isDig && (decide (PySem.intText? ⟨d.toArray⟩ = some i.natAbs) && (decide (strI i.natAbs = d) && (decide (d = w) == decide (0 ≤ i)))))))
theorem num_all : ∀ n < 100, numOk (n : Nat) = true ∧ numOk (-(n : Nat)) = true := by decide +kernel
theorem num_ok {i : Int} (h0 : -99 ≤ i) (h1 : i ≤ 99) : numOk i = true := by
  rcases Int.le_total 0 i with h | h
  · have := (num_all i.toNat (by omega)).1
    rwa [show ((i.toNat : Nat) : Int) = i by omega] at this
  · have := (num_all (-i).toNat (by omega)).2
    rwa [show -(((-i).toNat : Nat) : Int) = i by omega] at this
theorem number_gen (w d : List Nat) (n : Int) (a b : Int) (G : Gs) (hwl : w.length ≤ 100) (hd : d = if negW w then w.drop 1 else w) (h1 : 1 ≤ d.length) (h2 : d.length ≤ 2) (h3 : d.all isDig = true) (h4 : PySem.intText? ⟨d.toArray⟩ = some n) (h5 : strI n = d) (hc : cStr n = true) (h6 : n = 0 → d = w) :
    F_number_in [.str w, .int a, .int b] G = .ok (if a ≤ (if d = w then n else -n) ∧ (if d = w then n else -n) ≤ b then .int (if d = w then n else -n) else .non) G := by
  have comp : compL (gN 5) (eC (.bl true)) C1_number_in [some (.str w), some (.int a), some (.int b), some (.str d), none, none] (d.map fun c => W.str [c]) [] G = .ok (.lst (d.map fun c => .bl (isDig c))) G := by
    have := compL_map (gN 5) (eC (.bl true)) C1_number_in [some (.str w), some (.int a), some (.int b), some (.str d), none, none] (fun w => match w with | .str [c] => .bl (isDig c) | _ => .non) G (d.map fun c => .str [c]) [] (fun x hx => by
      obtain ⟨c, hc, rfl⟩ := List.mem_map.mp hx
      exact ⟨[some (.str w), some (.int a), some (.int b), some (.str d), none, some (.str [c])], by simp, by simp, by simp [C1_number_in, isDig, DIG, dOf]⟩) (by simp [SZ]; omega)
    rw [this]
    simp [List.map_map, Function.comp_def]
  have hb := bls_map isDig d
  have z1 : d.length ≤ 16777216 := by omega
  have zd : ¬ d = [] := fun e => by rw [e] at h1; exact absurd h1 (by decide)
  have z2 : ¬ ((d.length : Int) = 0) := by omega
  have z3 : ¬ (2 < (d.length : Int)) := by omega
  have z4 : d.length ≤ 640 := by omega
  have hall : (d.map isDig).all id = true := by rw [all_bl]; exact h3
  have zw : w.length ≤ 16777216 := by omega
  have e0 : (if Txt.startswith ⟨w.toArray⟩ ⟨#[45]⟩ = true then cut w (some 1) none else w) = d := by
    have hcut : cut w (some 1) none = w.drop 1 := cut_drop w 1
    rw [hcut, hd]
    rfl
  unfold F_number_in B_number_in
  by_cases hw : d = w
  · subst hw
    simp [e0, zd, z1, z2, z3, z4, comp, hb, hall, h4, h5, hc]
    done
  · have hn : ¬ n = 0 := fun e => hw (h6 e)
    simp [e0, zw, zd, z1, z2, z3, z4, comp, hb, hall, h4, h5, hc, hw, hn]
    done
theorem number_ok {i : Int} (h0 : -99 ≤ i) (h1 : i ≤ 99) (a b : Int) (G : Gs) : F_number_in [.str (strI i), .int a, .int b] G = .ok (if a ≤ i ∧ i ≤ b then .int i else .non) G := by
  have h := num_ok h0 h1
  unfold numOk at h
  simp only [Bool.and_eq_true, decide_eq_true_eq, beq_iff_eq] at h
  obtain ⟨q1, q2, q3, q4, q5, q6, q7⟩ := h
  have l5 := strI_short (i := i) (by omega) (by omega)
  have hc : cStr (i.natAbs : Int) = true := cStr_ok (by omega)
  have g := number_gen (strI i) (if i < 0 then (strI i).drop 1 else strI i) i.natAbs a b G (by omega) (by rw [q1]; simp) q2 q3 q4 q5 q6 hc (fun e => by rw [if_neg (by omega)])
  have hv : (if (if i < 0 then (strI i).drop 1 else strI i) = strI i then (i.natAbs : Int) else -(i.natAbs : Int)) = i := by
    by_cases hi : 0 ≤ i
    · rw [if_pos (by rw [if_neg (by omega)])]
      omega
    · rw [if_neg (fun e => hi (of_decide_eq_true (q7 ▸ decide_eq_true e)))]
      omega
  rw [hv] at g
  exact g
theorem number_semi (G : Gs) : F_number_in [.str [59], .int (-99), .int 99] G = .ok .non G := by
  have comp : compL (gN 5) (eC (.bl true)) C1_number_in [some (.str [59]), some (.int (-99)), some (.int 99), some (.str [59]), none, none] [W.str [59]] [] G = .ok (.lst [.bl false]) G := by
    simp [compL, C1_number_in, dOf, SZ]
  have s : Txt.startswith ⟨#[59]⟩ ⟨#[45]⟩ = false := by decide +kernel
  simp [F_number_in, B_number_in, s, comp]
theorem take_number {ws : List (List Nat)} {k : Nat} {i : Int} {r : List (List Nat)} (h : ws.drop k = strI i :: r) (h0 : -99 ≤ i) (h1 : i ≤ 99) {a b : Int} (ha : a ≤ i) (hb : i ≤ b) (hz : ws.length ≤ 16777216) (o : O) (L : Gs) :
    F_Words_take_number [.ref 1, .int a, .int b] (o :: st ws k :: L) = .ok (.int i) (o :: st ws (k + 1) :: L) := by
  have e := here_ok h hz o L
  have t := take_ok h hz o L
  have n := number_ok h0 h1 a b (o :: st ws k :: L)
  rw [if_pos ⟨ha, hb⟩] at n
  simp [F_Words_take_number, B_Words_take_number, cls_st, -clsOf_ref, List.lookup_cons, e, n, t]
abbrev sLATE : List Nat := [108, 97, 116, 101]
theorem drop_add {α : Type} {ws xs r : List α} {k : Nat} (h : ws.drop k = xs ++ r) : ws.drop (k + xs.length) = r := by
  rw [← List.drop_drop, h]
  simp
theorem take_term {ws : List (List Nat)} {k : Nat} {t : W} {y : List Nat} {r : List (List Nat)} (ht : TermW t) (h : ws.drop k = twW t ++ y :: r) (hy : y ≠ sLATE) (hz : ws.length ≤ 16777216) (o : O) (L : Gs) :
    F_Words_take_term [.ref 1] (o :: st ws k :: L) = .ok t (o :: st ws (k + (twW t).length) :: L) := by
  cases ht with
  | mk f d w f0 f1 d0 d1 hw =>
    by_cases hd : 0 < d
    · have h : ws.drop k = strI f :: w :: sLATE :: strI d :: y :: r := by simpa [twW, hd] using h
      have e1 := take_number h f0 f1 (a := -99) (b := 99) f0 f1 hz o L
      have h2 := (drop_at h).2.2
      have e2 := take_name h2 hw hz o L
      have h3 := (drop_at h2).2.2
      have e3 := here_ok h3 hz o L
      have e4 := take_ok h3 hz o L
      have h4 := (drop_at h3).2.2
      have e5 := take_number h4 (by omega) (by omega) (a := 1) (b := 4) (by omega) (by omega) hz o L
      simp [F_Words_take_term, B_Words_take_term, cls_st, -clsOf_ref, List.lookup_cons, e1, e2, e3, e4, e5, twW, hd]
    · have h : ws.drop k = strI f :: w :: y :: r := by simpa [twW, hd] using h
      obtain rfl : d = 0 := by omega
      have e1 := take_number h f0 f1 (a := -99) (b := 99) f0 f1 hz o L
      have h2 := (drop_at h).2.2
      have e2 := take_name h2 hw hz o L
      have h3 := (drop_at h2).2.2
      have e3 := here_ok h3 hz o L
      simp [F_Words_take_term, B_Words_take_term, cls_st, -clsOf_ref, List.lookup_cons, e1, e2, e3, hy, twW]
def tailW : List W → List (List Nat)
  | [] => []
  | t :: ts => [44] :: (twW t ++ tailW ts)
def mixW : List W → List (List Nat)
  | [] => []
  | t :: ts => twW t ++ tailW ts
theorem terms_loop {ws : List (List Nat)} (hz : ws.length ≤ 16777216) (o : O) (L : Gs) {r : List (List Nat)} : ∀ (ts acc : List W) (k fuel : Nat), ws.drop k = tailW ts ++ [59] :: r → (∀ t ∈ ts, TermW t) → acc.length + ts.length ≤ 6 → ts.length < fuel →
    whileL T1_Words_take_terms L1_Words_take_terms fuel [some (.ref 1), some (.ref (L.length + 1 + 1))] (o :: st ws k :: (L ++ [.lst acc])) = .nx [some (.ref 1), some (.ref (L.length + 1 + 1))] (o :: st ws (k + (tailW ts).length) :: (L ++ [.lst (acc ++ ts)]))
  | [], acc, k, f + 1, hd, hx, hl, hf => by
    have e := here_ok (ws := ws) (k := k) (x := [59]) (r := r) hd hz o (L ++ [.lst acc])
    simp [whileL, T1_Words_take_terms, cls_st, -clsOf_ref, List.lookup_cons, e, tailW]
  | t :: ts, acc, k, f + 1, hd, hx, hl, hf => by
    have hl' : acc.length + (ts.length + 1) ≤ 6 := by simpa using hl
    have h1 : (acc.length : Int) < 6 := by omega
    have lz : acc.length ≤ 16777216 := by omega
    have lz' : acc.length < 16777216 := by omega
    have hd1 : ws.drop k = [44] :: (twW t ++ (tailW ts ++ [59] :: r)) := by simpa [tailW] using hd
    have e := here_ok hd1 hz o (L ++ [.lst acc])
    have e2 := take_ok hd1 hz o (L ++ [.lst acc])
    have hd2 := (drop_at hd1).2.2
    obtain ⟨y, q, hy, hyl⟩ : ∃ y q, tailW ts ++ [59] :: r = y :: q ∧ y ≠ sLATE := by
      cases ts with
      | nil => exact ⟨[59], r, rfl, by decide⟩
      | cons a b => exact ⟨[44], _, rfl, by decide⟩
    have e3 := take_term (hx t List.mem_cons_self) (by rw [hd2, hy]) hyl hz o (L ++ [.lst acc])
    have hd3 := drop_add hd2
    have ih := terms_loop hz o L (r := r) ts (acc ++ [t]) _ f hd3 (fun y hy => hx y (List.mem_cons_of_mem _ hy)) (by simp; omega) (by simpa using hf)
    rw [whileL]
    simp only [T1_Words_take_terms, L1_Words_take_terms]
    simp [h1, lz, lz', cls_st, -clsOf_ref, List.lookup_cons, e, e2, e3]
    simp at ih
    rw [show k + (tailW (t :: ts)).length = k + 1 + (twW t).length + (tailW ts).length by simp [tailW]; omega]
    exact ih
  | _, _, _, 0, _, _, _, hf => absurd hf (Nat.not_lt_zero _)
theorem tw_head {t : W} (ht : TermW t) : ∃ (f : Int) (r : List (List Nat)), twW t = strI f :: r ∧ -99 ≤ f ∧ f ≤ 99 := by
  cases ht with
  | mk f d w f0 f1 d0 d1 hw => exact ⟨f, _, rfl, f0, f1⟩
theorem take_terms {ws : List (List Nat)} (hz : ws.length ≤ 16777216) {o : O} (ho : ∀ n, lowO n o = true) {L : Gs} (hL : LowL L) {ts : List W} {r : List (List Nat)} {k : Nat} (hd : ws.drop k = mixW ts ++ [59] :: r) (hx : ∀ t ∈ ts, TermW t) (hl : ts.length ≤ 6) :
    F_Words_take_terms [.ref 1] (o :: st ws k :: L) = .ok (.tup ts) (o :: st ws (k + (mixW ts).length) :: L) := by
  cases ts with
  | nil =>
    have e := here_ok (ws := ws) (k := k) (x := [59]) (r := r) hd hz o L
    have n := number_semi (o :: st ws k :: L)
    refine pur_st (M := []) ?_ ho hL rfl
    simp [B_Words_take_terms, cls_st, -clsOf_ref, List.lookup_cons, e, n, mixW]
  | cons t ts =>
    have ht := hx t List.mem_cons_self
    obtain ⟨f, q, hf, f0, f1⟩ := tw_head ht
    have hd1 : ws.drop k = twW t ++ (tailW ts ++ [59] :: r) := by simpa [mixW] using hd
    have hd0 : ws.drop k = strI f :: (q ++ (tailW ts ++ [59] :: r)) := by rw [hd1, hf]; rfl
    have e := here_ok hd0 hz o L
    have n := number_ok f0 f1 (-99) 99 (o :: st ws k :: L)
    rw [if_pos ⟨f0, f1⟩] at n
    obtain ⟨y, q', hy, hyl⟩ : ∃ y q, tailW ts ++ [59] :: r = y :: q ∧ y ≠ sLATE := by
      cases ts with
      | nil => exact ⟨[59], r, rfl, by decide⟩
      | cons a b => exact ⟨[44], _, rfl, by decide⟩
    have e3 := take_term ht (by rw [hd1, hy]) hyl hz o L
    have hd3 := drop_add hd1
    have hl' : ts.length + 1 ≤ 6 := by simpa using hl
    have lp := terms_loop hz o L (r := r) ts [t] _ 1000000 hd3 (fun y hy => hx y (List.mem_cons_of_mem _ hy)) (by simp; omega) (by omega)
    refine pur_st (M := [.lst (t :: ts)]) ?_ ho hL ?_
    · simp only [List.cons_append, List.nil_append] at lp
      have z : ts.length + 1 ≤ 16777216 := by omega
      simp [B_Words_take_terms, cls_st, -clsOf_ref, List.lookup_cons, e, n, e3, lp, R1_Words_take_terms, z]
      simp [mixW, Nat.add_assoc]
    · show pureW.pureWs (t :: ts) = true
      rw [pureWs_all, List.all_eq_true]
      exact fun x h => pure_term (hx x h)
/-! ### the words of a part -/
theorem accW_mix (w : List Nat) (ts : List W) : accW w ts ts.length = [w, sMIX] ++ mixW ts := by
  have snoc : ∀ (ts : List W) (t : W), tailW (ts ++ [t]) = tailW ts ++ [44] :: twW t := by
    intro ts t
    induction ts with
    | nil => simp [tailW]
    | cons a b ih => simp [tailW, ih]
  have snocM : ∀ (ts : List W) (t : W), mixW (ts ++ [t]) = mixW ts ++ ((if 0 < ts.length then [[44]] else []) ++ twW t) := by
    intro ts t
    cases ts with
    | nil => simp [mixW, tailW]
    | cons a b => simp [mixW, snoc]
  have go : ∀ k ≤ ts.length, accW w ts k = [w, sMIX] ++ mixW (ts.take k) := by
    intro k
    induction k with
    | zero => intro _; simp [accW, mixW]
    | succ k ih =>
      intro hk
      have hk' : k < ts.length := hk
      have e := List.getElem?_eq_getElem hk'
      rw [accW, ih (by omega), e, List.take_succ, e, Option.toList_some, snocM, List.length_take, Nat.min_eq_left (by omega)]
      simp
  have := go ts.length (Nat.le_refl _)
  rwa [List.take_length] at this
theorem wOf_of {p : W} {ws : List (List Nat)} (e : F_part_words [p] [] = .ok (.lst (ws.map .str)) []) : wOf p = ws := by
  unfold wOf
  rw [e]
  simp [strs_map]
theorem wOf_src (w : List Nat) : wOf (.tup [.str sSOURCE, .str w]) = [w, sSOURCE] := wOf_of (by simp [F_part_words, B_part_words])
theorem wOf_box {k w n : List Nat} {ends : List (List Nat)} (hk : k ∈ KINDS) (hl : ends.length ≤ 50) : wOf (.tup (.str k :: .str w :: .str n :: ends.map .str)) = w :: k :: n :: ends := by
  have k1 : ¬ k = [117, 115, 101] := fun e => by subst e; revert hk; decide
  have k2 : ¬ k = [109, 105, 120] := fun e => by subst e; revert hk; decide
  have z1 : ends.length + 1 + 1 + 1 ≤ 16777216 := by omega
  exact wOf_of (by simp [F_part_words, B_part_words, k1, k2, z1])
theorem wOf_mix {w : List Nat} {ts : List W} (hw : NameW w) (hl : ts.length ≤ 6) (ht : ∀ t ∈ ts, TermW t) : wOf (.tup [.str sMIX, .str w, .tup ts]) = [w, sMIX] ++ mixW ts := by
  rw [← accW_mix]
  refine wOf_of ?_
  obtain ⟨x5, x6, e⟩ := mix_loop1 hw ht (by omega) (some (.tup [.str sMIX, .str w, .tup ts])) (some (.str sMIX)) (some (.str w)) (some (.lst [.tup ts])) []
  have e0 : accW w ts 0 = [w, sMIX] := rfl
  rw [e0] at e
  simp only [List.map_cons, List.map_nil] at e
  simp [F_part_words, B_part_words, atI, ixN, e, R1_part_words]
theorem wOf_use {w n : List Nat} {ends : List (List Nat)} (hl : ends.length ≤ 50) : wOf (.tup [.str sUSE, .str w, .str n, .tup (ends.map .str)]) = w :: sUSE :: n :: ends := by
  have z1 : ends.length + 1 + 1 + 1 ≤ 16777216 := by omega
  exact wOf_of (by simp [F_part_words, B_part_words, atI, ixN, z1])
/-! ### a part read -/
theorem take_part {ws : List (List Nat)} (hz : ws.length ≤ 16777216) {o : O} (ho : ∀ n, lowO n o = true) {L : Gs} (hL : LowL L) {p : W} (hp : PartW p) {r : List (List Nat)} {k : Nat} (hd : ws.drop k = wOf p ++ [59] :: r) :
    F_Words_take_part [.ref 1] (o :: st ws k :: L) = .ok p (o :: st ws (k + (wOf p).length) :: L) := by
  cases hp with
  | src w hw =>
    rw [wOf_src] at hd ⊢
    have h1 : ws.drop k = w :: sSOURCE :: [59] :: r := hd
    have e1 := take_name h1 hw hz o L
    have h2 := (drop_at h1).2.2
    have e2 := here_ok h2 hz o L
    have e3 := take_ok h2 hz o L
    simp [F_Words_take_part, B_Words_take_part, cls_st, -clsOf_ref, List.lookup_cons, e1, e2, e3, dOf]
  | box k' w n ends hk hw hn he hc =>
    rw [wOf_box hk he.1] at hd ⊢
    have h1 : ws.drop k = w :: k' :: n :: (ends ++ [59] :: r) := hd
    have e1 := take_name h1 hw hz o L
    have h2 := (drop_at h1).2.2
    have e2 := here_ok h2 hz o L
    have e3 := take_ok h2 hz o L
    have h3 := (drop_at h2).2.2
    have e4 := take_name h3 hn hz o L
    have h4 := (drop_at h3).2.2
    have one : ∀ (x : List Nat), ends = [x] → compL (gN 5) (eC (.bl true)) C1_Words_take_part [some (.ref 1), some (.str w), some (.str k'), some (.str n), none, none] (rngL 0 1) [] (o :: st ws (k + 1 + 1 + 1) :: L) = .ok (.lst [.str x]) (o :: st ws (k + 1 + 1 + 1 + 1) :: L) := by
      rintro x rfl
      have e5 := take_name h4 (he.2 x (by simp)) hz o L
      simp [compL, rngL, List.range_succ, C1_Words_take_part, cls_st, -clsOf_ref, List.lookup_cons, e5, SZ]
    have two : ∀ (x y : List Nat), ends = [x, y] → compL (gN 5) (eC (.bl true)) C1_Words_take_part [some (.ref 1), some (.str w), some (.str k'), some (.str n), none, none] (rngL 0 2) [] (o :: st ws (k + 1 + 1 + 1) :: L) = .ok (.lst [.str x, .str y]) (o :: st ws (k + 1 + 1 + 1 + 1 + 1) :: L) := by
      rintro x y rfl
      have e5 := take_name h4 (he.2 x (by simp)) hz o L
      have h5 := (drop_at h4).2.2
      have e6 := take_name h5 (he.2 y (by simp)) hz o L
      simp [compL, rngL, List.range_succ, C1_Words_take_part, cls_st, -clsOf_ref, List.lookup_cons, e5, e6, SZ]
    have b1 : bigI 1 = true := rfl
    have b2 : bigI 2 = true := rfl
    by_cases hq : k' = sPAIR
    · subst hq
      rw [cntK, if_pos rfl] at hc
      match ends, hc with
      | [x, y], _ =>
        have c := two x y rfl
        simp [F_Words_take_part, B_Words_take_part, cls_st, -clsOf_ref, List.lookup_cons, e1, e2, e3, e4, dOf, kLook, b2, c]
    · rw [cntK, if_neg hq] at hc
      match ends, hc with
      | [x], _ =>
        have c := one x rfl
        have kk : kLook [([112, 108, 97, 105, 110], 1), ([111, 100, 100], 1), ([107, 101, 101, 112], 1), ([112, 97, 105, 114], 2)] k' = some 1 ∧ ¬ k' = [115, 111, 117, 114, 99, 101] ∧ ¬ k' = [109, 105, 120] ∧ ¬ k' = [117, 115, 101] := by
          simp only [KINDS, List.mem_cons, List.not_mem_nil, or_false] at hk
          rcases hk with rfl | rfl | rfl | rfl
          · decide
          · decide
          · decide
          · exact absurd rfl hq
        obtain ⟨k1, k2, k3, k4⟩ := kk
        simp [F_Words_take_part, B_Words_take_part, cls_st, -clsOf_ref, List.lookup_cons, e1, e2, e3, e4, dOf, k1, k2, k3, k4, b1, c]
  | mix w ts hw hl ht =>
    rw [wOf_mix hw hl ht] at hd ⊢
    have h1 : ws.drop k = w :: sMIX :: (mixW ts ++ [59] :: r) := by simpa using hd
    have e1 := take_name h1 hw hz o L
    have h2 := (drop_at h1).2.2
    have e2 := here_ok h2 hz o L
    have e3 := take_ok h2 hz o L
    have h3 := (drop_at h2).2.2
    have e4 := take_terms hz ho hL h3 ht hl
    simp [F_Words_take_part, B_Words_take_part, cls_st, -clsOf_ref, List.lookup_cons, e1, e2, e3, e4, dOf]
    simp [Nat.add_comm, Nat.add_left_comm, Nat.add_assoc]
  | use w n ends hw hn he hu =>
    rw [wOf_use he.1] at hd ⊢
    have h1 : ws.drop k = w :: sUSE :: n :: (ends ++ [59] :: r) := hd
    have e1 := take_name h1 hw hz o L
    have h2 := (drop_at h1).2.2
    have e2 := here_ok h2 hz o L
    have e3 := take_ok h2 hz o L
    have h3 := (drop_at h2).2.2
    have e4 := take_name h3 hn hz o L
    have h4 := (drop_at h3).2.2
    have e5 := take_names hz (m := 4) (by decide) ho hL h4 he.2 hu (.inr (.inr ⟨_, _, rfl, by decide, by decide⟩))
    simp at e5
    simp [F_Words_take_part, B_Words_take_part, cls_st, -clsOf_ref, List.lookup_cons, e1, e2, e3, e4, e5, dOf]
    simp [Nat.add_comm, Nat.add_left_comm, Nat.add_assoc]
def netP : List W → List (List Nat)
  | [] => []
  | p :: ps => wOf p ++ [59] :: netP ps
theorem accT_net (ps : List W) : accT ps ps.length = netP ps := by
  have snoc : ∀ (ps : List W) (p : W), netP (ps ++ [p]) = netP ps ++ (wOf p ++ [[59]]) := by
    intro ps p
    induction ps with
    | nil => simp [netP]
    | cons a b ih => simp [netP, ih]
  have go : ∀ k ≤ ps.length, accT ps k = netP (ps.take k) := by
    intro k
    induction k with
    | zero => intro _; simp [accT, netP]
    | succ k ih =>
      intro hk
      have hk' : k < ps.length := hk
      have e := List.getElem?_eq_getElem hk'
      rw [accT, ih (by omega), e, List.take_succ, e, Option.toList_some, snoc]
      simp
  have := go ps.length (Nat.le_refl _)
  rwa [List.take_length] at this
theorem part_head {p : W} (hp : PartW p) : ∃ (w : List Nat) (r : List (List Nat)), wOf p = w :: r ∧ NameW w := by
  cases hp with
  | src w hw => exact ⟨w, _, wOf_src w, hw⟩
  | box k w n ends hk hw hn he hc => exact ⟨w, _, wOf_box hk he.1, hw⟩
  | mix w ts hw hl ht => exact ⟨w, _, wOf_mix hw hl ht, hw⟩
  | use w n ends hw hn he hu => exact ⟨w, _, wOf_use he.1, hw⟩
theorem low_lst {ps : List W} (h : ∀ p ∈ ps, PartW p) (n : Nat) : lowO n (.lst ps) = true := by
  unfold lowO
  refine low_pures _ ?_
  rw [pureWs_all]
  exact List.all_eq_true.mpr fun p hp => pure_part (h p hp)
theorem LowL.snoc {L : Gs} (hL : LowL L) {ps : List W} (h : ∀ p ∈ ps, PartW p) : LowL (L ++ [.lst ps]) := fun x hx n => by
  rcases List.mem_append.mp hx with hx | hx
  · exact hL x hx n
  · rw [List.mem_singleton.mp hx]; exact low_lst h n
theorem net_loop {ws : List (List Nat)} (hz : ws.length ≤ 16777216) {o : O} (ho : ∀ n, lowO n o = true) {L : Gs} (hL : LowL L) {r : List (List Nat)} (x2 : Option W) : ∀ (ps acc : List W) (k fuel : Nat), ws.drop k = netP ps ++ [62] :: r → (∀ p ∈ ps, PartW p) → (∀ p ∈ acc, PartW p) → acc.length + ps.length ≤ 100 → ps.length < fuel →
    whileL T1_Words_take_net L1_Words_take_net fuel [some (.ref 1), some (.ref (L.length + 1 + 1)), x2] (o :: st ws k :: (L ++ [.lst acc])) = .nx [some (.ref 1), some (.ref (L.length + 1 + 1)), x2] (o :: st ws (k + (netP ps).length) :: (L ++ [.lst (acc ++ ps)]))
  | [], acc, k, f + 1, hd, hx, ha, hl, hf => by
    have e := here_ok (ws := ws) (k := k) (x := [62]) (r := r) hd hz o (L ++ [.lst acc])
    simp [whileL, T1_Words_take_net, cls_st, -clsOf_ref, List.lookup_cons, e, netP]
  | p :: ps, acc, k, f + 1, hd, hx, ha, hl, hf => by
    have hl' : acc.length + (ps.length + 1) ≤ 100 := by simpa using hl
    have lz' : acc.length < 16777216 := by omega
    have hp := hx p List.mem_cons_self
    have hd1 : ws.drop k = wOf p ++ [59] :: (netP ps ++ [62] :: r) := by simpa [netP] using hd
    obtain ⟨w, q, hw, hwn⟩ := part_head hp
    have e := here_ok (ws := ws) (k := k) (x := w) (r := q ++ [59] :: (netP ps ++ [62] :: r)) (by rw [hd1, hw]; rfl) hz o (L ++ [.lst acc])
    have hne : ¬ w = [62] := fun h => by rw [h] at hwn; exact absurd (show nameB [62] = true from hwn) (by decide)
    have e2 := take_part hz ho (hL.snoc ha) hp hd1
    have hd2 := drop_add hd1
    have e3 := here_ok hd2 hz o (L ++ [.lst (acc ++ [p])])
    have e4 := take_ok hd2 hz o (L ++ [.lst (acc ++ [p])])
    have ih := net_loop hz ho hL (r := r) x2 ps (acc ++ [p]) _ f (drop_at hd2).2.2 (fun y hy => hx y (List.mem_cons_of_mem _ hy)) (fun y hy => by
      rcases List.mem_append.mp hy with hy | hy
      · exact ha y hy
      · rw [List.mem_singleton.mp hy]; exact hp) (by simp; omega) (by simpa using hf)
    rw [whileL]
    simp only [T1_Words_take_net, L1_Words_take_net]
    simp [lz', cls_st, -clsOf_ref, List.lookup_cons, e, hne, e2, e3, e4]
    simp at ih
    rw [show k + (netP (p :: ps)).length = k + (wOf p).length + 1 + (netP ps).length by simp [netP]; omega]
    exact ih
  | _, _, _, 0, _, _, _, _, hf => absurd hf (Nat.not_lt_zero _)
theorem take_net {ps : List W} {outs : List (List Nat)} (h : ∀ p ∈ ps, PartW p) (hl : ps.length ≤ 100) (ho : ∀ w ∈ outs, NameW w) (hn : 1 ≤ outs.length ∧ outs.length ≤ 4) (hz : (netW ps outs).length ≤ 16777216) {o : O} (hlow : ∀ n, lowO n o = true) :
    ∃ k, F_Words_take_net [.ref 1] [o, st (netW ps outs) 0] = .ok (.tup [.tup ps, .tup (outs.map .str)]) [o, st (netW ps outs) k] := by
  have hd : (netW ps outs).drop 0 = netP ps ++ [62] :: outs := by simp [netW, accT_net]
  have e := net_loop hz hlow (L := []) (fun _ h => absurd h List.not_mem_nil) none ps [] 0 1000000 hd h (fun _ h => absurd h List.not_mem_nil) (by simpa using hl) (by omega)
  have hd1 := drop_add hd
  match outs, hn with
  | x :: outs, hn =>
    have hL : LowL [.lst ps] := fun y hy n => by rw [List.mem_singleton.mp hy]; exact low_lst h n
    have e1 := take_ok hd1 hz o [.lst ps]
    have hd2 := (drop_at hd1).2.2
    have e2 := take_name hd2 (ho x List.mem_cons_self) hz o [.lst ps]
    have hd3 := (drop_at hd2).2.2
    have hn' : outs.length + 1 ≤ 4 := by simpa using hn.2
    have e3 := take_names hz (m := 3) (by decide) hlow hL (xs := outs) (r := []) (by simpa using hd3) (fun y hy => ho y (List.mem_cons_of_mem _ hy)) (by omega) (.inr (.inl rfl))
    have hd4 : (netW ps (x :: outs)).drop (0 + (netP ps).length + 1 + 1 + outs.length) = [] := drop_add (r := []) (by simpa using hd3)
    have e4 := here_end hd4 hz o [.lst ps]
    refine ⟨0 + (netP ps).length + 1 + 1 + outs.length, ?_⟩
    simp only [List.length_nil, List.nil_append] at e
    have z1 : outs.length + 1 ≤ 16777216 := by omega
    have z2 : outs.length ≤ 16777216 := by omega
    have z3 : ps.length ≤ 16777216 := by omega
    refine pur_st (L := []) (M := [.lst ps]) ?_ hlow (fun _ h => absurd h List.not_mem_nil) ?_
    · rw [show ((3 : Nat) : Int) = 3 from rfl] at e3
      simp only [Nat.zero_add] at e e1 e2 e3 e4 ⊢
      simp [B_Words_take_net, e, R1_Words_take_net, cls_st, -clsOf_ref, List.lookup_cons, e1, e2, e3, e4, z1, z2, z3]
      done
    · show (pureW.pureWs ps && (pureW.pureWs ((x :: outs).map .str) && true)) = true
      rw [pure_strs, pureWs_all, List.all_eq_true.mpr fun p hp => pure_part (h p hp)]
      rfl
/-! ### no word has a space -/
def NoSp (w : List Nat) : Prop := 32 ∉ w
theorem NameW.noSp {w : List Nat} (h : NameW w) : NoSp w := fun m => by have := h.sp.2.2 32 m; omega
theorem kind_noSp {k : List Nat} (h : k ∈ KINDS) : NoSp k := by
  have : ∀ k ∈ KINDS, 32 ∉ k := by decide
  exact this k h
theorem num_noSp : ∀ n < 100, 32 ∉ strI (n : Nat) ∧ 32 ∉ strI (-(n : Nat)) := by decide +kernel
theorem strI_noSp {i : Int} (h1 : -99 ≤ i) (h2 : i ≤ 99) : NoSp (strI i) := by
  rcases Int.le_total 0 i with h | h
  · have := (num_noSp i.toNat (by omega)).1
    rwa [show ((i.toNat : Nat) : Int) = i by omega] at this
  · have := (num_noSp (-i).toNat (by omega)).2
    rwa [show -(((-i).toNat : Nat) : Int) = i by omega] at this
theorem tw_noSp {t : W} (h : TermW t) : ∀ x ∈ twW t, NoSp x := by
  cases h with
  | mk f d w f0 f1 d0 d1 hw =>
    have l1 := strI_noSp f0 f1
    have l2 := strI_noSp (i := d) (by omega) (by omega)
    have l3 : NoSp sLATE := by unfold NoSp; decide
    intro x hx
    simp only [twW] at hx
    rcases List.mem_append.mp hx with hx | hx
    · simp at hx
      rcases hx with rfl | rfl
      · exact l1
      · exact NameW.noSp hw
    · split at hx
      · simp at hx
        rcases hx with rfl | rfl
        · exact l3
        · exact l2
      · simp at hx
theorem tail_noSp : ∀ {ts : List W}, (∀ t ∈ ts, TermW t) → ∀ x ∈ tailW ts, NoSp x
  | [], _, _, h => absurd h List.not_mem_nil
  | t :: ts, ht, x, h => by
    simp only [tailW, List.mem_cons, List.mem_append] at h
    rcases h with rfl | h | h
    · unfold NoSp; decide
    · exact tw_noSp (ht t List.mem_cons_self) x h
    · exact tail_noSp (fun y hy => ht y (List.mem_cons_of_mem _ hy)) x h
theorem mix_noSp {ts : List W} (ht : ∀ t ∈ ts, TermW t) : ∀ x ∈ mixW ts, NoSp x := by
  cases ts with
  | nil => exact fun _ h => absurd h List.not_mem_nil
  | cons t ts =>
    intro x h
    simp only [mixW, List.mem_append] at h
    rcases h with h | h
    · exact tw_noSp (ht t List.mem_cons_self) x h
    · exact tail_noSp (fun y hy => ht y (List.mem_cons_of_mem _ hy)) x h
theorem part_noSp {p : W} (hp : PartW p) : ∀ x ∈ wOf p, NoSp x := by
  cases hp with
  | src w hw =>
    rw [wOf_src]
    intro x h
    simp at h
    rcases h with rfl | rfl
    · exact NameW.noSp hw
    · unfold NoSp; decide
  | box k w n ends hk hw hn he hc =>
    rw [wOf_box hk he.1]
    intro x h
    simp at h
    rcases h with rfl | rfl | rfl | h
    · exact NameW.noSp hw
    · exact kind_noSp hk
    · exact NameW.noSp hn
    · exact NameW.noSp (he.2 x h)
  | mix w ts hw hl ht =>
    rw [wOf_mix hw hl ht]
    intro x h
    simp at h
    rcases h with rfl | rfl | h
    · exact NameW.noSp hw
    · unfold NoSp; decide
    · exact mix_noSp ht x h
  | use w n ends hw hn he hu =>
    rw [wOf_use he.1]
    intro x h
    simp at h
    rcases h with rfl | rfl | rfl | h
    · exact NameW.noSp hw
    · unfold NoSp; decide
    · exact NameW.noSp hn
    · exact NameW.noSp (he.2 x h)
theorem netP_noSp : ∀ {ps : List W}, (∀ p ∈ ps, PartW p) → ∀ x ∈ netP ps, NoSp x
  | [], _, _, h => absurd h List.not_mem_nil
  | p :: ps, hp, x, h => by
    simp only [netP, List.mem_append, List.mem_cons] at h
    rcases h with h | rfl | h
    · exact part_noSp (hp p List.mem_cons_self) x h
    · unfold NoSp; decide
    · exact netP_noSp (fun y hy => hp y (List.mem_cons_of_mem _ hy)) x h
theorem netW_noSp {ps : List W} {outs : List (List Nat)} (hp : ∀ p ∈ ps, PartW p) (ho : ∀ w ∈ outs, NameW w) : ∀ x ∈ netW ps outs, NoSp x := by
  intro x h
  simp only [netW, accT_net, List.mem_append, List.mem_singleton] at h
  rcases h with (h | rfl) | h
  · exact netP_noSp hp x h
  · unfold NoSp; decide
  · exact NameW.noSp (ho x h)
/-! ### the text cut -/
theorem split_joinL {ws : List (List Nat)} (hne : ws ≠ []) (h : ∀ w ∈ ws, NoSp w) : splitL (TL.joinL [32] ws) [32] = ws.map .str := by
  have tlS : ∀ x : List Nat, TL.tl ⟨x.toArray⟩ = x := fun x => TL.tl_mk x
  have e := TL.split_join (y := ⟨[32].toArray⟩) (s := 32) (S := []) rfl (by decide +kernel) (parts := ws.map fun x => ⟨x.toArray⟩) (by simpa using hne) (fun p hp => by
    obtain ⟨x, hx, rfl⟩ := List.mem_map.mp hp
    rw [tlS]
    exact h x hx)
  have j : Txt.join ⟨[32].toArray⟩ (ws.map fun x => (⟨x.toArray⟩ : Str)) = ⟨(TL.joinL [32] ws).toArray⟩ := by
    refine TL.ext_tl ?_
    rw [TL.join_eq, TL.tl_join, tlS, tlS, List.map_map]
    congr 1
    exact (List.map_congr_left fun x _ => tlS x).trans (List.map_id _)
  rw [j] at e
  unfold splitL
  rw [e, List.map_map]
  rfl
theorem joinL_len : ∀ {ws : List (List Nat)}, (∀ w ∈ ws, w.length ≤ 30) → (TL.joinL [32] ws).length ≤ 31 * ws.length
  | [], _ => by simp [TL.joinL]
  | [x], h => by have := h x (by simp); simp [TL.joinL]; omega
  | x :: y :: r, h => by
    have ih := joinL_len (ws := y :: r) fun w hw => h w (List.mem_cons_of_mem _ hw)
    have := h x (by simp)
    simp only [TL.joinL, List.length_append, List.length_cons, List.length_nil] at ih ⊢
    omega
theorem pur_o {F : Fn} {args : List W} {o : O} {M : Gs} {w : W} (e : F args [o] = .ok w (o :: M)) (ho : ∀ n, lowO n o = true) (hw : pureW w = true) : purF F args [o] = .ok w [o] := by
  unfold purF
  rw [e]
  have hm : mixG [o].length [o] (o :: M) = true := by
    show ((beqO _ _ || lowO _ _) && true) = true
    rw [ho]
    simp
  simp only [hm, if_true, rs_pure w hw]
  simp
theorem pure_net {ps : List W} (outs : List (List Nat)) (h : ∀ p ∈ ps, PartW p) : pureW (.tup [.tup ps, .tup (outs.map .str)]) = true := by
  show (pureW.pureWs ps && (pureW.pureWs (outs.map .str) && true)) = true
  rw [pure_strs, pureWs_all, List.all_eq_true.mpr fun p hp => pure_part (h p hp)]
  rfl
theorem read_ok {ps : List W} {outs : List (List Nat)} (h : ∀ p ∈ ps, PartW p) (hl : ps.length ≤ 100) (ho : ShortL outs) (hn : 1 ≤ outs.length ∧ outs.length ≤ 4) {o : O} (hlow : ∀ n, lowO n o = true) :
    F_read_net [.str (netT ps outs)] [o] = .ok (.tup [.tup ps, .tup (outs.map .str)]) [o] := by
  obtain ⟨l1, l2⟩ := netW_ok h hl ho
  obtain ⟨k, e⟩ := take_net h hl ho.2 hn (by omega) hlow
  have sl := joinL_len l2
  have hs : splitL (netT ps outs) [32] = (netW ps outs).map .str := split_joinL (by simp [netW]) (netW_noSp h ho.2)
  have z : (netT ps outs).length + 2 ≤ 16777216 := by unfold netT; omega
  have ini : F_Words___init [.ref 1, .str (netT ps outs)] [o, .ins 0 []] = .ok .non [o, st (netW ps outs) 0] := by
    have z' : (netT ps outs).length ≤ 16777214 := by omega
    simp [F_Words___init, B_Words___init, List.lookup_cons, hs, z', st]
  refine pur_o (M := [st (netW ps outs) k]) ?_ hlow (pure_net outs h)
  simp [B_read_net, mkI, ini, cls_st, -clsOf_ref, List.lookup_cons, e]
theorem dat_strs (n : Nat) (ss : List (List Nat)) : (ss.map W.str).all (datW (n + 1)) = true := by
  rw [List.all_map]
  exact List.all_eq_true.mpr fun _ _ => rfl
theorem datW_tup (n : Nat) (xs : List W) : datW (n + 1) (.tup xs) = (xs.all (datW n) && decide (xs.length ≤ SZ)) := rfl
theorem datW_str (n : Nat) (s : List Nat) : datW (n + 1) (.str s) = true := rfl
theorem dat_term {n : Nat} {t : W} (h : TermW t) : datW (n + 2) t = true := by cases h; rfl
theorem dat_part {n : Nat} {p : W} (h : PartW p) : datW (n + 4) p = true := by
  cases h with
  | src w _ => rfl
  | box k w n' ends hk hw hn he hc =>
    have z : ends.length + 1 + 1 + 1 ≤ SZ := by have := he.1; unfold SZ; omega
    rw [datW_tup, List.all_cons, List.all_cons, List.all_cons, datW_str, datW_str, datW_str, dat_strs]
    simpa using z
  | mix w ts hw hl h =>
    have z : ts.length ≤ SZ := by unfold SZ; omega
    have : ts.all (datW (n + 2)) = true := List.all_eq_true.mpr fun t ht => dat_term (h t ht)
    rw [datW_tup, List.all_cons, List.all_cons, List.all_cons, datW_str, datW_str, datW_tup, this, decide_eq_true z]
    rfl
  | use w n' ends hw hn he hu =>
    have z : ends.length ≤ SZ := by unfold SZ; omega
    rw [datW_tup, List.all_cons, List.all_cons, List.all_cons, List.all_cons, datW_str, datW_str, datW_str, datW_tup, dat_strs, List.length_map, decide_eq_true z]
    rfl
theorem dat_net {ps : List W} {outs : List (List Nat)} (h : ∀ p ∈ ps, PartW p) (hl : ps.length ≤ 100) (hn : outs.length ≤ 4) : datW 8 (.tup [.tup ps, .tup (outs.map .str)]) = true := by
  have z1 : ps.length ≤ SZ := by unfold SZ; omega
  have z2 : outs.length ≤ SZ := by unfold SZ; omega
  have h1 : ps.all (datW 6) = true := List.all_eq_true.mpr fun t ht => dat_part (n := 2) (h t ht)
  rw [datW_tup, List.all_cons, List.all_cons, datW_tup, datW_tup, h1, dat_strs, List.length_map, decide_eq_true z1, decide_eq_true z2]
  rfl
theorem text_lt {ps : List W} {outs : List (List Nat)} (h : ∀ p ∈ ps, PartW p) (hl : ps.length ≤ 100) (ho : ShortL outs) (G : Gs) :
    F_text_of [.lst ps, .tup (outs.map .str)] G = .ok (.str (netT ps outs)) G := by
  obtain ⟨la, _⟩ := accT_ok h ps.length
  have := ho.1
  have z1 : (accT ps ps.length).length + (outs.length + 1) ≤ 16777216 := by omega
  have j := join_net h hl ho G
  have z2 : (netW ps outs).length ≤ 16777216 := by have := (netW_ok h hl ho).1; omega
  have ej : (accT ps ps.length).map W.str ++ W.str [62] :: outs.map W.str = (netW ps outs).map .str := by simp [netW]
  obtain ⟨x3, e⟩ := text_loop h hl (some (.lst ps)) (some (.tup (outs.map .str))) G
  simp [F_text_of, B_text_of, e, R1_text_of, z1, z2, -joinW, ej, -List.map_append, j]
theorem name_at {stem : List Nat} {p q k : Nat} (hl : stem.length ≤ 3) (hs : ∀ x ∈ stem, isLet x = true) : NameW (nmAt stem p q k) := by
  have l : (nmAt stem p q k).length = stem.length + 1 := by simp [nmAt]; omega
  unfold NameW nameB
  simp only [Bool.and_eq_true, decide_eq_true_eq, List.all_eq_true]
  refine ⟨⟨by omega, by omega⟩, fun c hc => ?_⟩
  simp only [nmAt] at hc
  rcases List.mem_append.mp hc with hc | hc
  · exact hs c (List.mem_of_mem_take hc)
  · rcases List.mem_append.mp hc with hc | hc
    · rw [List.mem_singleton.mp hc]
      exact decide_eq_true ((let_mem _).mpr (by omega))
    · exact hs c (List.mem_of_mem_drop hc)
/-- twelve shuffled words -/
theorem words12 {c : Nat} {o : O} (h : BagOk c o) (hc : c ≤ 400000) : ∃ (ws : List (List Nat)) (o1 o2 : O) (xs : List W), F_law_names [.ref 0, .int 9] [o] = .ok (.lst xs) [o1] ∧ xs.length = 9 ∧ F_law_mixed [.ref 0, .lst (xs ++ [.str sLATE, .str sMIX, .str sUSE])] [o1] = .ok (.lst (ws.map .str)) [o2] ∧ BagOk (c + 20) o2 ∧ ShortL ws ∧ ws.length = 12 := by
  obtain ⟨stem, p, q, o1, e1, b1, hl, hs, hp, hq⟩ := names_ok h (by omega) 9 (by decide) []
  have e1 : F_law_names [.ref 0, .int 9] [o] = _ := e1
  have hx : ((List.range 9).map fun k => W.str (nmAt stem p q k)) = ((List.range 9).map fun k => nmAt stem p q k).map .str := by simp [List.map_map, Function.comp_def]
  rw [hx] at e1
  have hx2 : ((List.range 9).map fun k => nmAt stem p q k).map W.str ++ [.str sLATE, .str sMIX, .str sUSE] = (((List.range 9).map fun k => nmAt stem p q k) ++ [sLATE, sMIX, sUSE]).map .str := by simp [-List.map_map]
  obtain ⟨ys, o2, e2, b2, hperm⟩ := mixed_ok b1 ((((List.range 9).map fun k => nmAt stem p q k) ++ [sLATE, sMIX, sUSE]).map .str) (pure_strs _) (by simp) (by simp; omega)
  obtain ⟨ws, rfl, hws⟩ := strs_of (ts := ys) (vs := ((List.range 9).map fun k => nmAt stem p q k) ++ [sLATE, sMIX, sUSE]) (fun t ht => by
    obtain ⟨s, hs, rfl⟩ := List.mem_map.mp (hperm.mem_iff.mp ht)
    exact ⟨s, rfl, hs⟩)
  have hlen : ws.length = 12 := by have := hperm.length_eq; simpa using this
  refine ⟨ws, o1, o2, _, e1, by simp, by rw [hx2]; exact e2, b2.mono (by simp), ⟨by omega, fun w hw => ?_⟩, hlen⟩
  rcases List.mem_append.mp (hws w hw) with h | h
  · obtain ⟨k, _, rfl⟩ := List.mem_map.mp h
    exact name_at hl hs
  · have : ∀ x ∈ [sLATE, sMIX, sUSE], nameB x = true := by decide
    exact this w h
theorem use_ok {c : Nat} {o : O} (h : BagOk c o) (hc : c ≤ 400000) {wire : List Nat} {ws : List (List Nat)} (hw : NameW wire) (hws : ShortL ws) (hne : 0 < ws.length) (R : Gs) :
    ∃ (t : W) (o' : O), F_law_use [.ref 0, .str wire, .lst (ws.map .str)] (o :: R) = .ok t (o' :: R) ∧ BagOk (c + 8) o' ∧ PartW t := by
  obtain ⟨n, o1, e1, b1, _, hn⟩ := any_names h (by omega) hws hne R
  obtain ⟨m, o2, e2, b2, m0, m1⟩ := pull_ok b1 (by omega) (many := 5) (by decide) (by decide) R
  obtain ⟨ts, o3, e3, b3, l3, p3⟩ := draws_ok (k := 1) (fun t => ∃ s, t = .str s ∧ s ∈ ws) (gN 3) C1_law_use [some (.ref 0), some (.str wire), some (.lst (ws.map .str)), none] (rngL 0 m.toNat) R b2 (by rw [rngL_len]; omega) (by rw [rngL_len]; omega) (fun w hw c o hb hc => by
    obtain ⟨t, o', e, b, mm, _⟩ := any_names hb (by omega) hws hne R
    exact ⟨[some (.ref 0), some (.str wire), some (.lst (ws.map .str)), some w], .str t, o', by simp, by simp [C1_law_use, e], b, t, rfl, mm⟩)
  rw [rngL_len] at b3 l3
  obtain ⟨ss, rfl, hss⟩ := strs_of p3
  have hb : bigI m = true := decide_eq_true (by omega)
  refine ⟨_, o3, ?_, b3.le, .use wire n ss hw hn ⟨by simp at l3; omega, fun w hw => hws.2 w (hss w hw)⟩ (by simp at l3; omega)⟩
  simp [F_law_use, B_law_use, e1, e2, hb, e3]
theorem part_wire {p : W} (h : PartW p) (G : Gs) : ∃ wire, ixD p (.int 1) G = .ok (.str wire) G ∧ NameW wire := by
  cases h with
  | src w hw => exact ⟨w, by simp [dOf, atI, ixN], hw⟩
  | box k w n ends hk hw hn he hc =>
    have i1 : (1 : Int) < (ends.length : Int) + 1 + 1 + 1 := by omega
    exact ⟨w, by simp [dOf, atI, ixN, i1], hw⟩
  | mix w ts hw hl ht => exact ⟨w, by simp [dOf, atI, ixN], hw⟩
  | use w n ends hw hn he hu => exact ⟨w, by simp [dOf, atI, ixN], hw⟩
theorem cut_25 {ws : List (List Nat)} (h : ws.length = 12) : cut (ws.map W.str) (some 2) (some 5) = ((ws.drop 2).take 3).map W.str := by
  unfold cut
  rw [List.length_map, h, ← List.map_drop, ← List.map_take]
  rfl
theorem low_ok {c : Nat} {o : O} (h : BagOk c o) (n : Nat) : lowO n o = true := h.low
theorem boxes_v : F_law_boxes_v = F_law_boxes := rfl
theorem turn_ok {c : Nat} {ls : Ls} {G : Gs} (hc : c ≤ 200000) (hI : Inv 10 c ls G) : ∃ ls' G', L1_law ls G = .nx ls' G' ∧ Inv 10 (c + 10000) ls' G' := by
  obtain ⟨o, rfl, h, hlen, h1⟩ := hI
  match ls, hlen, h1 with
  | [x0, some (.ref 0), x2, x3, x4, x5, x6, x7, x8, x9], _, rfl => ?_
  obtain ⟨ws, o1, o2, xs, e1, lx, e2, b2, hws, hwl⟩ := words12 h (by omega)
  obtain ⟨n, o3, e3, b3, n0, n1⟩ := pull_ok b2 (by omega) (many := 11) (by decide) (by decide) []
  obtain ⟨s, o4, e4, b4, s0, s1⟩ := pull_ok b3 (by omega) (many := 3) (by decide) (by decide) []
  have hws3 : ShortL ((ws.drop 2).take 3) := ⟨by rw [List.length_take]; omega, fun w hw => hws.2 w (List.mem_of_mem_drop (List.mem_of_mem_take hw))⟩
  obtain ⟨bs, o5, e5, b5, hbs⟩ := boxes_ok b4 (by omega) hws3 []
  obtain ⟨ps, o6, e6, b6, lps, hps⟩ := parts_ok b5 (by omega) (hws.take n.toNat) hbs s s0 (by omega)
  have hz : 0 < ws.length := by omega
  obtain ⟨qs, o7, e7, b7, lqs, hqs⟩ := draws_okB 300000 (k := 10) PartW (gN 8) C1_law [x0, some (.ref 0), x2, some (.lst (ws.map .str)), some (.lst ps), x5, x6, x7, none, x9] ps [] b6 (by omega) (by omega) (fun p hp c o hb hc => by
    obtain ⟨r, oa, ea, ba, r0, r1⟩ := pull_ok hb (by omega) (many := 5) (by decide) (by decide) []
    have hP := hps p hp
    by_cases hr : r = 0
    · obtain ⟨wire, ew, hw⟩ := part_wire hP [oa]
      obtain ⟨t, ob, eb, bb, pt⟩ := use_ok ba (by omega) hw hws hz []
      refine ⟨[x0, some (.ref 0), x2, some (.lst (ws.map .str)), some (.lst ps), x5, x6, x7, some p, x9], t, ob, by simp, ?_, bb.le, pt⟩
      simp [C1_law, ea, hr, ew, -ixD_e, eb]
    · refine ⟨[x0, some (.ref 0), x2, some (.lst (ws.map .str)), some (.lst ps), x5, x6, x7, some p, x9], p, oa, by simp, ?_, ba.le, hP⟩
      simp [C1_law, ea, hr])
  obtain ⟨r, o8, e8, b8, r0, r1⟩ := pull_ok b7 (by omega) (many := 4) (by decide) (by decide) []
  obtain ⟨ts, o9, e9, b9, l9, p9⟩ := draws_ok (k := 1) (fun t => ∃ s, t = .str s ∧ s ∈ ws) (gN 9) C2_law [x0, some (.ref 0), x2, some (.lst (ws.map .str)), some (.lst qs), x5, x6, x7, x8, none] (rngL 0 (1 + r).toNat) [] b8 (by rw [rngL_len]; omega) (by rw [rngL_len]; omega) (fun w hw c o hb hc => by
    obtain ⟨t, o', e, b, mm, _⟩ := any_names hb (by omega) hws hz []
    exact ⟨[x0, some (.ref 0), x2, some (.lst (ws.map .str)), some (.lst qs), x5, x6, x7, x8, some w], .str t, o', by simp, by simp [C2_law, e], b, t, rfl, mm⟩)
  rw [rngL_len] at b9 l9
  obtain ⟨outs, rfl, houts⟩ := strs_of p9
  have lo : 1 ≤ outs.length ∧ outs.length ≤ 4 := by simp at l9; omega
  have hso : ShortL outs := ⟨by omega, fun w hw => hws.2 w (houts w hw)⟩
  have lq : qs.length ≤ 100 := by omega
  have hb : bigI (1 + r) = true := decide_eq_true (by omega)
  have t1 := fun G => text_lt hqs lq hso G
  have t2 := fun G => (text_of_ok hqs lq hso G).2
  have t3 := read_ok hqs lq hso lo (low_ok b9)
  have hd := dat_net hqs lq lo.2
  have sm1 := fun G => same_refl 8 (.tup [.tup qs, .tup (outs.map .str)]) G hd
  have sm2 := fun s G => same_refl 8 (.str s) G rfl
  have c1 := cut_strs_i ws n n0
  have c2 := cut_25 hwl
  have zx : xs.length ≤ 1000 := by omega
  have zx2 : xs.length + 3 ≤ 16777216 := by omega
  have zo : outs.length ≤ 16777216 := by omega
  have zq : qs.length ≤ 16777216 := by omega
  rw [← boxes_v] at e5
  simp [L1_law, e1, zx2, e2, e3, e4, c1, c2, e5, -List.map_take, -List.map_drop, e6, e7, e8, hb, e9, t1, t2, t3, perm, sm1, sm2, dOf, atI, ixN, zo, zq]
  exact ⟨_, _, ⟨rfl, rfl⟩, o9, rfl, b9.le, rfl, rfl⟩
theorem law_ok (ns : List Int) (hl : ns.length ≤ 63) : ∃ G, F_law [.fz (ns.map .int)] [] = .ok (.bl true) G := by
  obtain ⟨o, e0, b0⟩ := bag_ok ns hl
  obtain ⟨ls', G', e1, hI⟩ := forL_inv (gN 2) L1_law (fun k ls G => Inv 10 (10000 * k) ls G) (rngL 0 4) 0 [some (.fz (ns.map .int)), some (.ref 0), none, none, none, none, none, none, none, none] [o] (fun j w ls G hw hI => by
    obtain ⟨hj, rfl⟩ := rngL_get hw
    obtain ⟨o, rfl, h, hlen, h1⟩ := hI
    match ls, hlen, h1 with
    | [x0, some (.ref 0), x2, x3, x4, x5, x6, x7, x8, x9], _, rfl =>
      obtain ⟨ls2, G2, e, i2⟩ := turn_ok (c := 10000 * (0 + j)) (ls := [x0, some (.ref 0), some (.int j), x3, x4, x5, x6, x7, x8, x9]) (G := [o]) (by omega) ⟨o, rfl, h, rfl, rfl⟩
      exact ⟨_, _, ls2, G2, by simp, .inl e, i2⟩) ⟨o, rfl, b0, rfl, rfl⟩
  obtain ⟨o', rfl, h', hlen, h1⟩ := hI
  match ls', hlen, h1 with
  | [x0, some (.ref 0), x2, x3, x4, x5, x6, x7, x8, x9], _, rfl =>
    have r : R1_law [x0, some (.ref 0), x2, x3, x4, x5, x6, x7, x8, x9] [o'] = .rt (.bl true) [o'] := by rfl
    simp [F_law, B_law, e0, e1, show bigI 4 = true from rfl]
    rw [r]
    simp
end K09

namespace K09
open PySem
open L2
open U
def topS (i : Nat) : Stmt := PySem.Challenge.pw_unopened_k09_whole_texts_read_back.main.body.getD i (.Pass ⟨0, 0, 0, 0⟩)
abbrev s_law_pull : Stmt := topS 18
theorem sc_law_pull : FnScope ["_law_bag_here", "_law_many", "_law_cell", "_law_digit", "_law_seed"] ["_law_bag_here", "_law_many"] (defScope s_law_pull) := ⟨rfl, rfl, rfl, by decide +kernel, rfl, by decide +kernel, by decide +kernel⟩
abbrev s_law_any : Stmt := topS 19
theorem sc_law_any : FnScope ["_law_bag_here", "_law_things"] ["_law_bag_here", "_law_things"] (defScope s_law_any) := ⟨rfl, rfl, rfl, by decide +kernel, rfl, by decide +kernel, by decide +kernel⟩
abbrev s_law_bag : Stmt := topS 17
theorem sc_law_bag : FnScope ["_law_script"] ["_law_script"] (defScope s_law_bag) := ⟨rfl, rfl, rfl, by decide +kernel, rfl, by decide +kernel, by decide +kernel⟩
abbrev s_law_boxes_v : Stmt := topS 26
theorem sc_law_boxes_v : FnScope ["_law_bag_here", "_law_words", "_law_word"] ["_law_bag_here", "_law_words"] (defScope s_law_boxes_v) := ⟨rfl, rfl, rfl, by decide +kernel, rfl, by decide +kernel, by decide +kernel⟩
abbrev s_law_mixed : Stmt := topS 22
theorem sc_law_mixed : FnScope ["_law_bag_here", "_law_things", "_law_found", "_law_thing"] ["_law_bag_here", "_law_things"] (defScope s_law_mixed) := ⟨rfl, rfl, rfl, by decide +kernel, rfl, by decide +kernel, by decide +kernel⟩
abbrev s_law_names : Stmt := topS 21
theorem sc_law_names : FnScope ["_law_bag_here", "_law_many", "_law_letters", "_law_stem", "_law_at", "_law_first", "_law_k"] ["_law_bag_here", "_law_many"] (defScope s_law_names) := ⟨rfl, rfl, rfl, by decide +kernel, rfl, by decide +kernel, by decide +kernel⟩
abbrev s_law_term : Stmt := topS 23
theorem sc_law_term : FnScope ["_law_bag_here", "_law_earlier", "_law_every", "_law_factor", "_law_delay"] ["_law_bag_here", "_law_earlier", "_law_every"] (defScope s_law_term) := ⟨rfl, rfl, rfl, by decide +kernel, rfl, by decide +kernel, by decide +kernel⟩
abbrev s_law_part : Stmt := topS 24
theorem sc_law_part : FnScope ["_law_bag_here", "_law_wire", "_law_earlier", "_law_every", "_law_boxes_here", "_law_kind", "_law_name", "_law_ends", "_law_k"] ["_law_bag_here", "_law_wire", "_law_earlier", "_law_every", "_law_boxes_here"] (defScope s_law_part) := ⟨rfl, rfl, rfl, by decide +kernel, rfl, by decide +kernel, by decide +kernel⟩
abbrev s_law_parts : Stmt := topS 25
theorem sc_law_parts : FnScope ["_law_bag_here", "_law_wires", "_law_sources", "_law_boxes_here", "_law_found", "_law_k", "_law_wire"] ["_law_bag_here", "_law_wires", "_law_sources", "_law_boxes_here"] (defScope s_law_parts) := ⟨rfl, rfl, rfl, by decide +kernel, rfl, by decide +kernel, by decide +kernel⟩
abbrev s_law_same : Stmt := topS 20
theorem sc_law_same : FnScope ["_law_found", "_law_due", "_law_one", "_law_two"] ["_law_found", "_law_due"] (defScope s_law_same) := ⟨rfl, rfl, rfl, by decide +kernel, rfl, by decide +kernel, by decide +kernel⟩
abbrev s_law_use : Stmt := topS 27
theorem sc_law_use : FnScope ["_law_bag_here", "_law_wire", "_law_words", "_law_k"] ["_law_bag_here", "_law_wire", "_law_words"] (defScope s_law_use) := ⟨rfl, rfl, rfl, by decide +kernel, rfl, by decide +kernel, by decide +kernel⟩
abbrev s_Words___init : Stmt := inClass (topS 11) 0
theorem sc_Words___init : FnScope ["self", "text"] ["self", "text"] (defScope s_Words___init) := ⟨rfl, rfl, rfl, by decide +kernel, rfl, by decide +kernel, by decide +kernel⟩
abbrev s_Words_here : Stmt := inClass (topS 11) 1
theorem sc_Words_here : FnScope ["self"] ["self"] (defScope s_Words_here) := ⟨rfl, rfl, rfl, by decide +kernel, rfl, by decide +kernel, by decide +kernel⟩
abbrev s_Words_take : Stmt := inClass (topS 11) 2
theorem sc_Words_take : FnScope ["self", "good", "word"] ["self", "good"] (defScope s_Words_take) := ⟨rfl, rfl, rfl, by decide +kernel, rfl, by decide +kernel, by decide +kernel⟩
abbrev s_is_name : Stmt := topS 5
theorem sc_is_name : FnScope ["value", "letter"] ["value"] (defScope s_is_name) := ⟨rfl, rfl, rfl, by decide +kernel, rfl, by decide +kernel, by decide +kernel⟩
abbrev s_Words_take_name : Stmt := inClass (topS 11) 3
theorem sc_Words_take_name : FnScope ["self"] ["self"] (defScope s_Words_take_name) := ⟨rfl, rfl, rfl, by decide +kernel, rfl, by decide +kernel, by decide +kernel⟩
abbrev s_Words_take_names : Stmt := inClass (topS 11) 4
theorem sc_Words_take_names : FnScope ["self", "most", "found"] ["self", "most"] (defScope s_Words_take_names) := ⟨rfl, rfl, rfl, by decide +kernel, rfl, by decide +kernel, by decide +kernel⟩
abbrev s_number_in : Stmt := topS 10
theorem sc_number_in : FnScope ["word", "least", "most", "digits", "number", "digit"] ["word", "least", "most"] (defScope s_number_in) := ⟨rfl, rfl, rfl, by decide +kernel, rfl, by decide +kernel, by decide +kernel⟩
abbrev s_Words_take_number : Stmt := inClass (topS 11) 5
theorem sc_Words_take_number : FnScope ["self", "least", "most", "word", "number"] ["self", "least", "most"] (defScope s_Words_take_number) := ⟨rfl, rfl, rfl, by decide +kernel, rfl, by decide +kernel, by decide +kernel⟩
abbrev s_Words_take_term : Stmt := inClass (topS 11) 6
theorem sc_Words_take_term : FnScope ["self", "factor", "wire"] ["self"] (defScope s_Words_take_term) := ⟨rfl, rfl, rfl, by decide +kernel, rfl, by decide +kernel, by decide +kernel⟩
abbrev s_Words_take_terms : Stmt := inClass (topS 11) 7
theorem sc_Words_take_terms : FnScope ["self", "found"] ["self"] (defScope s_Words_take_terms) := ⟨rfl, rfl, rfl, by decide +kernel, rfl, by decide +kernel, by decide +kernel⟩
abbrev s_Words_take_part : Stmt := inClass (topS 11) 8
theorem sc_Words_take_part : FnScope ["self", "wire", "word", "name", "ends", "_"] ["self"] (defScope s_Words_take_part) := ⟨rfl, rfl, rfl, by decide +kernel, rfl, by decide +kernel, by decide +kernel⟩
abbrev s_Words_take_net : Stmt := inClass (topS 11) 9
theorem sc_Words_take_net : FnScope ["self", "parts", "outs"] ["self"] (defScope s_Words_take_net) := ⟨rfl, rfl, rfl, by decide +kernel, rfl, by decide +kernel, by decide +kernel⟩
abbrev s_read_net : Stmt := topS 12
theorem sc_read_net : FnScope ["text"] ["text"] (defScope s_read_net) := ⟨rfl, rfl, rfl, by decide +kernel, rfl, by decide +kernel, by decide +kernel⟩
abbrev s_term_words : Stmt := topS 13
theorem sc_term_words : FnScope ["term", "factor", "delay", "wire"] ["term"] (defScope s_term_words) := ⟨rfl, rfl, rfl, by decide +kernel, rfl, by decide +kernel, by decide +kernel⟩
abbrev s_part_words : Stmt := topS 14
theorem sc_part_words : FnScope ["part", "word", "wire", "rest", "found", "at", "term"] ["part"] (defScope s_part_words) := ⟨rfl, rfl, rfl, by decide +kernel, rfl, by decide +kernel, by decide +kernel⟩
abbrev s_text_of : Stmt := topS 15
theorem sc_text_of : FnScope ["parts", "outs", "found", "part"] ["parts", "outs"] (defScope s_text_of) := ⟨rfl, rfl, rfl, by decide +kernel, rfl, by decide +kernel, by decide +kernel⟩
abbrev s_law : Stmt := topS 28
theorem sc_law : FnScope ["_law_script", "_law_bag_here", "_law_turn", "_law_words", "_law_parts_here", "_law_outs", "_law_text_z", "_law_found", "_law_part_here", "_law_k"] ["_law_script"] (defScope s_law) := ⟨rfl, rfl, rfl, by decide +kernel, rfl, by decide +kernel, by decide +kernel⟩
section
variable {P : Program} {w : World} {mg : Str → Option Value} {base : Heap} {T : Tx}
theorem ok_law_pull {f : Addr} {fd : FuncData} (F : Fun T.K "_law_pull" "_law_pull" s_law_pull f fd) (n_int : mg "int" = none) (n_len : mg "len" = none) : FnOk P w T.K mg base (L2.CX P w) 1 f fd ["_law_bag_here", "_law_many"] (spF T 2 F_law_pull) := by
  have q : FnOk P w T.K mg base (L2.CX P w) (0 + 1) f fd ["_law_bag_here", "_law_many"] (spF T 2 (mkFn 2 5 B_law_pull)) := by
    refine fn_def F sc_law_pull rfl fun cdv A outer s H E hr c => ?_
    unfold B_law_pull
    exact (fss_cons (fs_if (ft_w (fw_and (ft_cmp (or_eqU c.hu) io_eq (fe_ix c (fe_var 0) fe_int) fe_int) (fw_and1 (ft_cmp or_lt io_cmp (fe_ix c (fe_var 0) fe_int) (fe_blt call_len ib_len n_len (fa_cons (fe_ix c (fe_var 0) fe_int) fa_nil)))))) (fss_cons (fs_set 2 c (fe_ix c (fe_ix c (fe_var 0) fe_int) (fe_ix c (fe_var 0) fe_int)))
    (fss_cons (fs_asg (fe_op or_addU io_add (fe_ix c (fe_var 0) fe_int) fe_int) (fg_set c (fe_var 0) fe_int) sto_set)
    (fss_one (fs_if (ft_cmp or_ge io_cmp (fe_var 2) (fe_op op_pow io_pow fe_int fe_int)) (fss_one (fs_asg (fe_var 2) (fg_set c (fe_var 0) fe_int) sto_set)) (fss_one (fs_asg (fe_op op_mod io_mod (fe_bty call_int1 ib_int n_int (fa_cons (fe_op or_addU io_add (fe_op or_addU io_add (fe_op or_mulU io_mul (fe_ix c (fe_var 0) fe_int) fe_int) (fe_op or_mulU io_mul (fe_op op_mod io_mod (fe_bty call_int1 ib_int n_int (fa_cons (fe_var 2) fa_nil)) fe_int) fe_int)) fe_int) fa_nil)) fe_int) (fg_set c (fe_var 0) fe_int) sto_set)))))) fss_nil)
    (fss_cons (fs_if (ft_cmp or_gt io_cmp (fe_ix c (fe_var 0) fe_int) fe_int) (fss_cons (fs_set 3 c (fe_op op_mod io_mod (fe_bty call_int1 ib_int n_int (fa_cons (fe_ix c (fe_var 0) fe_int) fa_nil)) (fe_var 1)))
    (fss_cons (fs_asg (fe_op op_fdivW io_div (fe_ix c (fe_var 0) fe_int) (fe_var 1)) (fg_set c (fe_var 0) fe_int) sto_set)
    (fss_one (fs_ret (fe_var 3))))) fss_nil)
    (fss_cons (fs_asg (fe_op or_addU io_add (fe_ix c (fe_var 0) fe_int) fe_int) (fg_set c (fe_var 0) fe_int) sto_set)
    (fss_cons (fs_set 4 c (fe_ix c (fe_var 0) fe_int))
    (fss_cons (fs_asg (fe_op op_mod io_mod (fe_bty call_int1 ib_int n_int (fa_cons (fe_op or_addU io_add (fe_op or_addU io_add (fe_op or_addU io_add (fe_op or_mulU io_mul (fe_op or_mulU io_mul (fe_var 4) (fe_var 4)) fe_int) (fe_op or_mulU io_mul (fe_var 4) fe_int)) (fe_op or_mulU io_mul (fe_ix c (fe_var 0) fe_int) fe_int)) fe_int) fa_nil)) fe_int) (fg_set c (fe_var 0) fe_int) sto_set)
    (fss_one (fs_ret (fe_op op_mod io_mod (fe_bty call_int1 ib_int n_int (fa_cons (fe_op or_addU io_add (fe_op op_fdivW io_div (fe_ix c (fe_var 0) fe_int) fe_int) (fe_op or_mulU io_mul (fe_op op_mod io_mod (fe_bty call_int1 ib_int n_int (fa_cons (fe_ix c (fe_var 0) fe_int) fa_nil)) fe_int) fe_int)) fa_nil)) (fe_var 1)))))))))
  exact q
theorem ok_law_any {f : Addr} {fd : FuncData} (F : Fun T.K "_law_any" "_law_any" s_law_any f fd) (n_len : mg "len" = none) {f_law_pull : Addr} {fd_law_pull : FuncData} (O_law_pull : FnOk P w T.K mg base (L2.CX P w) 1 f_law_pull fd_law_pull ["_law_bag_here", "_law_many"] (spF T 2 F_law_pull)) (m_law_pull : mg "_law_pull" = some (.ref f_law_pull)) (k_law_pull : PySem.W.keepIn T.K (.ref f_law_pull) = true) (b_law_pull : Binds T.K fd_law_pull ["_law_bag_here", "_law_many"] []) : FnOk P w T.K mg base (L2.CX P w) 2 f fd ["_law_bag_here", "_law_things"] (spF T 2 F_law_any) := by
  have q : FnOk P w T.K mg base (L2.CX P w) (1 + 1) f fd ["_law_bag_here", "_law_things"] (spF T 2 (mkFn 2 2 B_law_any)) := by
    refine fn_def F sc_law_any rfl fun cdv A outer s H E hr c => ?_
    unfold B_law_any
    exact (fss_one (fs_ret (fe_ix c (fe_var 1) (fe_call c O_law_pull (hr.mono (by decide)) m_law_pull k_law_pull b_law_pull dfl0 rfl (fa_cons (fe_var 0) (fa_cons (fe_blt call_len ib_len n_len (fa_cons (fe_var 1) fa_nil)) fa_nil)) (al1 (al1 al0))))))
  exact q
theorem ok_law_bag {f : Addr} {fd : FuncData} (F : Fun T.K "_law_bag" "_law_bag" s_law_bag f fd) (n_len : mg "len" = none) (n_list : mg "list" = none) : FnOk P w T.K mg base (L2.CX P w) 1 f fd ["_law_script"] (spF T 1 F_law_bag) := by
  have q : FnOk P w T.K mg base (L2.CX P w) (0 + 1) f fd ["_law_script"] (spF T 1 (mkFn 1 1 B_law_bag)) := by
    refine fn_def F sc_law_bag rfl fun cdv A outer s H E hr c => ?_
    unfold B_law_bag
    exact (fss_one (fs_ret (fe_lstM (fa_cons (fe_bty call_list_of ib_list n_list (fa_cons (fe_sl c (fe_var 0) fp_no (fp_some fe_int)) fa_nil)) (fa_cons fe_int (fa_cons fe_int (fa_cons (fe_op or_addU io_add fe_int (fe_blt call_len ib_len n_len (fa_cons (fe_var 0) fa_nil))) (fa_cons fe_int fa_nil))))))))
  exact q
theorem ok_law_boxes_v {f : Addr} {fd : FuncData} (F : Fun T.K "_law_boxes" "_law_boxes" s_law_boxes_v f fd) {f_law_any : Addr} {fd_law_any : FuncData} (O_law_any : FnOk P w T.K mg base (L2.CX P w) 2 f_law_any fd_law_any ["_law_bag_here", "_law_things"] (spF T 2 F_law_any)) (m_law_any : mg "_law_any" = some (.ref f_law_any)) (k_law_any : PySem.W.keepIn T.K (.ref f_law_any) = true) (b_law_any : Binds T.K fd_law_any ["_law_bag_here", "_law_things"] []) : FnOk P w T.K mg base (L2.CX P w) 3 f fd ["_law_bag_here", "_law_words"] (spF T 2 F_law_boxes_v) := by
  have q : FnOk P w T.K mg base (L2.CX P w) (2 + 1) f fd ["_law_bag_here", "_law_words"] (spF T 2 (mkFn 2 3 B_law_boxes_v)) := by
    refine fn_def F sc_law_boxes_v rfl fun cdv A outer s H E hr c => ?_
    unfold B_law_boxes_v
    exact (fss_one (fs_ret (fe_comp [("_law_word", 2)] c (fi_seq c (fe_var 1)) (fun q c1 => (fg_name 2 c1)) (fun q c1 => fts_nil) (fun q c1 => (fe_tup (fa_cons (fe_call c1 O_law_any (hr.mono (by decide)) m_law_any k_law_any b_law_any dfl0 rfl (fa_cons (fe_var 0) (fa_cons (fe_lst (fa_cons (fe_str [112, 108, 97, 105, 110]) (fa_cons (fe_str [111, 100, 100]) (fa_cons (fe_str [107, 101, 101, 112]) (fa_cons (fe_str [112, 97, 105, 114]) fa_nil))))) fa_nil)) (al1 (al1 al0))) (fa_cons (fe_var 2) fa_nil)))))))
  exact q
theorem ok_law_mixed {f : Addr} {fd : FuncData} (F : Fun T.K "_law_mixed" "_law_mixed" s_law_mixed f fd) (n_len : mg "len" = none) {f_law_pull : Addr} {fd_law_pull : FuncData} (O_law_pull : FnOk P w T.K mg base (L2.CX P w) 1 f_law_pull fd_law_pull ["_law_bag_here", "_law_many"] (spF T 2 F_law_pull)) (m_law_pull : mg "_law_pull" = some (.ref f_law_pull)) (k_law_pull : PySem.W.keepIn T.K (.ref f_law_pull) = true) (b_law_pull : Binds T.K fd_law_pull ["_law_bag_here", "_law_many"] []) : FnOk P w T.K mg base (L2.CX P w) 2 f fd ["_law_bag_here", "_law_things"] (spF T 2 F_law_mixed) := by
  have q : FnOk P w T.K mg base (L2.CX P w) (1 + 1) f fd ["_law_bag_here", "_law_things"] (spF T 2 (mkFn 2 4 B_law_mixed)) := by
    refine fn_def F sc_law_mixed rfl fun cdv A outer s H E hr c => ?_
    unfold B_law_mixed
    exact (fss_cons (fs_set 2 c (fe_lstM fa_nil))
    (fss_cons (fs_for c (fi_seq c (fe_var 1)) (fg_name 3 c) (fss_one (fs_exp (fe_ins c (fe_var 2) (fa_cons (fe_call c O_law_pull (hr.mono (by decide)) m_law_pull k_law_pull b_law_pull dfl0 rfl (fa_cons (fe_var 0) (fa_cons (fe_op or_addU io_add (fe_blt call_len ib_len n_len (fa_cons (fe_var 2) fa_nil)) fe_int) fa_nil)) (al1 (al1 al0))) (fa_cons (fe_var 3) fa_nil))))))
    (fss_one (fs_ret (fe_var 2)))))
  exact fn_pur q
theorem ok_law_names {f : Addr} {fd : FuncData} (F : Fun T.K "_law_names" "_law_names" s_law_names f fd) (n_int : mg "int" = none) (n_len : mg "len" = none) (n_range : mg "range" = none) {f_law_any : Addr} {fd_law_any : FuncData} (O_law_any : FnOk P w T.K mg base (L2.CX P w) 2 f_law_any fd_law_any ["_law_bag_here", "_law_things"] (spF T 2 F_law_any)) (m_law_any : mg "_law_any" = some (.ref f_law_any)) (k_law_any : PySem.W.keepIn T.K (.ref f_law_any) = true) (b_law_any : Binds T.K fd_law_any ["_law_bag_here", "_law_things"] []) {f_law_pull : Addr} {fd_law_pull : FuncData} (O_law_pull : FnOk P w T.K mg base (L2.CX P w) 1 f_law_pull fd_law_pull ["_law_bag_here", "_law_many"] (spF T 2 F_law_pull)) (m_law_pull : mg "_law_pull" = some (.ref f_law_pull)) (k_law_pull : PySem.W.keepIn T.K (.ref f_law_pull) = true) (b_law_pull : Binds T.K fd_law_pull ["_law_bag_here", "_law_many"] []) : FnOk P w T.K mg base (L2.CX P w) 3 f fd ["_law_bag_here", "_law_many"] (spF T 2 F_law_names) := by
  have q : FnOk P w T.K mg base (L2.CX P w) (2 + 1) f fd ["_law_bag_here", "_law_many"] (spF T 2 (mkFn 2 7 B_law_names)) := by
    refine fn_def F sc_law_names rfl fun cdv A outer s H E hr c => ?_
    unfold B_law_names
    exact (fss_cons (fs_set 2 c (fe_str [97, 98, 99, 100, 101, 102, 103, 104, 105, 106, 107, 108, 109, 110, 111, 112, 113, 114, 115, 116, 117, 118, 119, 120, 121, 122]))
    (fss_cons (fs_set 3 c (fe_join c (fe_str []) (fe_comp [("_law_k", 6)] c (fi_range1 n_range (fa_cons (fe_call c O_law_pull (hr.mono (by decide)) m_law_pull k_law_pull b_law_pull dfl0 rfl (fa_cons (fe_var 0) (fa_cons fe_int fa_nil)) (al1 (al1 al0))) fa_nil)) (fun q c2 => (fg_name 6 c2)) (fun q c2 => fts_nil) (fun q c2 => (fe_call c2 O_law_any (hr.mono (by decide)) m_law_any k_law_any b_law_any dfl0 rfl (fa_cons (fe_var 0) (fa_cons (fe_var 2) fa_nil)) (al1 (al1 al0)))))))
    (fss_cons (fs_asg (fe_tup (fa_cons (fe_call c O_law_pull (hr.mono (by decide)) m_law_pull k_law_pull b_law_pull dfl0 rfl (fa_cons (fe_var 0) (fa_cons (fe_op or_addU io_add (fe_blt call_len ib_len n_len (fa_cons (fe_var 3) fa_nil)) fe_int) fa_nil)) (al1 (al1 al0))) (fa_cons (fe_call c O_law_pull (hr.mono (by decide)) m_law_pull k_law_pull b_law_pull dfl0 rfl (fa_cons (fe_var 0) (fa_cons fe_int fa_nil)) (al1 (al1 al0))) fa_nil))) (fg_tup c (fgs_cons (fg_name 4 c) (fgs_cons (fg_name 5 c) fgs_nil))) (sto_t (stos_1 sto_n (stos_1 sto_n stos_0))))
    (fss_one (fs_ret (fe_comp [("_law_k", 6)] c (fi_range1 n_range (fa_cons (fe_var 1) fa_nil)) (fun q c3 => (fg_name 6 c3)) (fun q c3 => fts_nil) (fun q c3 => (fe_op or_addU io_add (fe_op or_addU io_add (fe_sl c3 (fe_var 3) fp_no (fp_some (fe_var 4))) (fe_ix c3 (fe_var 2) (fe_op op_mod io_mod (fe_bty call_int1 ib_int n_int (fa_cons (fe_op or_addU io_add (fe_var 5) (fe_op or_mulU io_mul fe_int (fe_var 6))) fa_nil)) fe_int))) (fe_sl c3 (fe_var 3) (fp_some (fe_var 4)) fp_no)))))))))
  exact q
theorem ok_law_term {f : Addr} {fd : FuncData} (F : Fun T.K "_law_term" "_law_term" s_law_term f fd) (n_max : mg "max" = none) {f_law_any : Addr} {fd_law_any : FuncData} (O_law_any : FnOk P w T.K mg base (L2.CX P w) 2 f_law_any fd_law_any ["_law_bag_here", "_law_things"] (spF T 2 F_law_any)) (m_law_any : mg "_law_any" = some (.ref f_law_any)) (k_law_any : PySem.W.keepIn T.K (.ref f_law_any) = true) (b_law_any : Binds T.K fd_law_any ["_law_bag_here", "_law_things"] []) {f_law_pull : Addr} {fd_law_pull : FuncData} (O_law_pull : FnOk P w T.K mg base (L2.CX P w) 1 f_law_pull fd_law_pull ["_law_bag_here", "_law_many"] (spF T 2 F_law_pull)) (m_law_pull : mg "_law_pull" = some (.ref f_law_pull)) (k_law_pull : PySem.W.keepIn T.K (.ref f_law_pull) = true) (b_law_pull : Binds T.K fd_law_pull ["_law_bag_here", "_law_many"] []) : FnOk P w T.K mg base (L2.CX P w) 3 f fd ["_law_bag_here", "_law_earlier", "_law_every"] (spF T 3 F_law_term) := by
  have q : FnOk P w T.K mg base (L2.CX P w) (2 + 1) f fd ["_law_bag_here", "_law_earlier", "_law_every"] (spF T 3 (mkFn 3 5 B_law_term)) := by
    refine fn_def F sc_law_term rfl fun cdv A outer s H E hr c => ?_
    unfold B_law_term
    exact (fss_cons (fs_set 3 c (fe_if (ft_cmp or_gt io_cmp (fe_call c O_law_pull (hr.mono (by decide)) m_law_pull k_law_pull b_law_pull dfl0 rfl (fa_cons (fe_var 0) (fa_cons fe_int fa_nil)) (al1 (al1 al0))) fe_int) (fe_op op_sub io_sub (fe_call c O_law_pull (hr.mono (by decide)) m_law_pull k_law_pull b_law_pull dfl0 rfl (fa_cons (fe_var 0) (fa_cons fe_int fa_nil)) (al1 (al1 al0))) fe_int) (fe_call c O_law_any (hr.mono (by decide)) m_law_any k_law_any b_law_any dfl0 rfl (fa_cons (fe_var 0) (fa_cons (fe_lst (fa_cons (fe_neg fe_int) (fa_cons fe_int (fa_cons (fe_neg fe_int) (fa_cons fe_int fa_nil))))) fa_nil)) (al1 (al1 al0)))))
    (fss_cons (fs_set 4 c (fe_call c O_law_any (hr.mono (by decide)) m_law_any k_law_any b_law_any dfl0 rfl (fa_cons (fe_var 0) (fa_cons (fe_lst (fa_cons fe_int (fa_cons fe_int (fa_cons fe_int (fa_cons fe_int (fa_cons fe_int (fa_cons fe_int (fa_cons fe_int (fa_cons fe_int fa_nil))))))))) fa_nil)) (al1 (al1 al0))))
    (fss_cons (fs_if (ft_w (fw_and (ft_cmp (or_eqU c.hu) io_eq (fe_var 4) fe_int) (fw_and1 (ft_cmp (or_neU c.hu) io_ne (fe_var 1) (fe_lst fa_nil))))) (fss_one (fs_ret (fe_tup (fa_cons (fe_var 3) (fa_cons fe_int (fa_cons (fe_call c O_law_any (hr.mono (by decide)) m_law_any k_law_any b_law_any dfl0 rfl (fa_cons (fe_var 0) (fa_cons (fe_var 1) fa_nil)) (al1 (al1 al0))) fa_nil)))))) fss_nil)
    (fss_one (fs_ret (fe_tup (fa_cons (fe_var 3) (fa_cons (fe_blt (cr_max c.calm) ib_max n_max (fa_cons (fe_lst (fa_cons (fe_var 4) (fa_cons fe_int fa_nil))) fa_nil)) (fa_cons (fe_call c O_law_any (hr.mono (by decide)) m_law_any k_law_any b_law_any dfl0 rfl (fa_cons (fe_var 0) (fa_cons (fe_var 2) fa_nil)) (al1 (al1 al0))) fa_nil)))))))))
  exact q
theorem ok_law_part {f : Addr} {fd : FuncData} (F : Fun T.K "_law_part" "_law_part" s_law_part f fd) (n_range : mg "range" = none) (n_tuple : mg "tuple" = none) {f_law_any : Addr} {fd_law_any : FuncData} (O_law_any : FnOk P w T.K mg base (L2.CX P w) 2 f_law_any fd_law_any ["_law_bag_here", "_law_things"] (spF T 2 F_law_any)) (m_law_any : mg "_law_any" = some (.ref f_law_any)) (k_law_any : PySem.W.keepIn T.K (.ref f_law_any) = true) (b_law_any : Binds T.K fd_law_any ["_law_bag_here", "_law_things"] []) {f_law_pull : Addr} {fd_law_pull : FuncData} (O_law_pull : FnOk P w T.K mg base (L2.CX P w) 1 f_law_pull fd_law_pull ["_law_bag_here", "_law_many"] (spF T 2 F_law_pull)) (m_law_pull : mg "_law_pull" = some (.ref f_law_pull)) (k_law_pull : PySem.W.keepIn T.K (.ref f_law_pull) = true) (b_law_pull : Binds T.K fd_law_pull ["_law_bag_here", "_law_many"] []) {f_law_term : Addr} {fd_law_term : FuncData} (O_law_term : FnOk P w T.K mg base (L2.CX P w) 3 f_law_term fd_law_term ["_law_bag_here", "_law_earlier", "_law_every"] (spF T 3 F_law_term)) (m_law_term : mg "_law_term" = some (.ref f_law_term)) (k_law_term : PySem.W.keepIn T.K (.ref f_law_term) = true) (b_law_term : Binds T.K fd_law_term ["_law_bag_here", "_law_earlier", "_law_every"] []) : FnOk P w T.K mg base (L2.CX P w) 4 f fd ["_law_bag_here", "_law_wire", "_law_earlier", "_law_every", "_law_boxes_here"] (spF T 5 F_law_part) := by
  have q : FnOk P w T.K mg base (L2.CX P w) (3 + 1) f fd ["_law_bag_here", "_law_wire", "_law_earlier", "_law_every", "_law_boxes_here"] (spF T 5 (mkFn 5 9 B_law_part)) := by
    refine fn_def F sc_law_part rfl fun cdv A outer s H E hr c => ?_
    unfold B_law_part
    exact (fss_cons (fs_if (ft_w (fw_and (ft_cmp (or_neU c.hu) io_ne (fe_var 4) (fe_lst fa_nil)) (fw_and (ft_cmp (or_neU c.hu) io_ne (fe_var 2) (fe_lst fa_nil)) (fw_and1 (ft_cmp (or_eqU c.hu) io_eq (fe_call c O_law_pull (hr.mono (by decide)) m_law_pull k_law_pull b_law_pull dfl0 rfl (fa_cons (fe_var 0) (fa_cons fe_int fa_nil)) (al1 (al1 al0))) fe_int))))) (fss_cons (fs_asg (fe_call c O_law_any (hr.mono (by decide)) m_law_any k_law_any b_law_any dfl0 rfl (fa_cons (fe_var 0) (fa_cons (fe_var 4) fa_nil)) (al1 (al1 al0))) (fg_tup c (fgs_cons (fg_name 5 c) (fgs_cons (fg_name 6 c) fgs_nil))) (sto_t (stos_1 sto_n (stos_1 sto_n stos_0))))
    (fss_cons (fs_setLc 7 [("_law_k", 8)] c (fi_range1 n_range (fa_cons (fe_if (ft_cmp (or_eqU c.hu) io_eq (fe_var 5) (fe_str [112, 97, 105, 114])) fe_int fe_int) fa_nil)) (fun q c4 => (fg_name 8 c4)) (fun q c4 => fts_nil) (fun q c4 => (fe_call c4 O_law_any (hr.mono (by decide)) m_law_any k_law_any b_law_any dfl0 rfl (fa_cons (fe_var 0) (fa_cons (fe_var 2) fa_nil)) (al1 (al1 al0)))))
    (fss_one (fs_ret (fe_bty call_tuple_of ib_tuple n_tuple (fa_cons (fe_op or_addU io_add (fe_lst (fa_cons (fe_var 5) (fa_cons (fe_var 1) (fa_cons (fe_var 6) fa_nil)))) (fe_var 7)) fa_nil)))))) fss_nil)
    (fss_one (fs_ret (fe_tup (fa_cons (fe_str [109, 105, 120]) (fa_cons (fe_var 1) (fa_cons (fe_bty call_tuple_of ib_tuple n_tuple (fa_cons (fe_comp [("_law_k", 8)] c (fi_range1 n_range (fa_cons (fe_call c O_law_pull (hr.mono (by decide)) m_law_pull k_law_pull b_law_pull dfl0 rfl (fa_cons (fe_var 0) (fa_cons fe_int fa_nil)) (al1 (al1 al0))) fa_nil)) (fun q c5 => (fg_name 8 c5)) (fun q c5 => fts_nil) (fun q c5 => (fe_call c5 O_law_term (hr.mono (by decide)) m_law_term k_law_term b_law_term dfl0 rfl (fa_cons (fe_var 0) (fa_cons (fe_var 2) (fa_cons (fe_var 3) fa_nil))) (al1 (al1 (al1 al0)))))) fa_nil)) fa_nil)))))))
  exact q
theorem ok_law_parts {f : Addr} {fd : FuncData} (F : Fun T.K "_law_parts" "_law_parts" s_law_parts f fd) (n_len : mg "len" = none) (n_range : mg "range" = none) {f_law_part : Addr} {fd_law_part : FuncData} (O_law_part : FnOk P w T.K mg base (L2.CX P w) 4 f_law_part fd_law_part ["_law_bag_here", "_law_wire", "_law_earlier", "_law_every", "_law_boxes_here"] (spF T 5 F_law_part)) (m_law_part : mg "_law_part" = some (.ref f_law_part)) (k_law_part : PySem.W.keepIn T.K (.ref f_law_part) = true) (b_law_part : Binds T.K fd_law_part ["_law_bag_here", "_law_wire", "_law_earlier", "_law_every", "_law_boxes_here"] []) : FnOk P w T.K mg base (L2.CX P w) 5 f fd ["_law_bag_here", "_law_wires", "_law_sources", "_law_boxes_here"] (spF T 4 F_law_parts) := by
  have q : FnOk P w T.K mg base (L2.CX P w) (4 + 1) f fd ["_law_bag_here", "_law_wires", "_law_sources", "_law_boxes_here"] (spF T 4 (mkFn 4 7 B_law_parts)) := by
    refine fn_def F sc_law_parts rfl fun cdv A outer s H E hr c => ?_
    unfold B_law_parts
    exact (fss_cons (fs_setLcM 4 [("_law_wire", 6)] c (fi_seq c (fe_sl c (fe_var 1) fp_no (fp_some (fe_var 2)))) (fun q c6 => (fg_name 6 c6)) (fun q c6 => fts_nil) (fun q c6 => (fe_tup (fa_cons (fe_str [115, 111, 117, 114, 99, 101]) (fa_cons (fe_var 6) fa_nil)))))
    (fss_cons (fs_for c (fi_range2 n_range (fa_cons (fe_var 2) (fa_cons (fe_blt call_len ib_len n_len (fa_cons (fe_var 1) fa_nil)) fa_nil))) (fg_name 5 c) (fss_one (fs_exp (fe_app c (fe_var 4) (fa_cons (fe_call c O_law_part (hr.mono (by decide)) m_law_part k_law_part b_law_part dfl0 rfl (fa_cons (fe_var 0) (fa_cons (fe_ix c (fe_var 1) (fe_var 5)) (fa_cons (fe_sl c (fe_var 1) fp_no (fp_some (fe_var 5))) (fa_cons (fe_var 1) (fa_cons (fe_var 3) fa_nil))))) (al1 (al1 (al1 (al1 (al1 al0)))))) fa_nil)))))
    (fss_one (fs_ret (fe_var 4)))))
  exact fn_pur q
theorem ok_law_same {f : Addr} {fd : FuncData} (F : Fun T.K "_law_same" "_law_same" s_law_same f fd) (n_all : mg "all" = none) (n_bool : mg "bool" = none) (n_int : mg "int" = none) (n_isinstance : mg "isinstance" = none) (n_len : mg "len" = none) (n_list : mg "list" = none) (n_str : mg "str" = none) (n_tuple : mg "tuple" = none) (n_zip : mg "zip" = none) (m_law_same : mg "_law_same" = some (.ref f)) (k_law_same : PySem.W.keepIn T.K (.ref f) = true) (b_law_same : Binds T.K fd ["_law_found", "_law_due"] []) : ∀ n, FnOk P w T.K mg base (L2.CX P w) (1 + n) f fd ["_law_found", "_law_due"] (spF T 2 (F_law_same n))
  | 0 => fn_stuck rfl
  | n + 1 => by
    have ih := ok_law_same F n_all n_bool n_int n_isinstance n_len n_list n_str n_tuple n_zip m_law_same k_law_same b_law_same n
    have q : FnOk P w T.K mg base (L2.CX P w) ((1 + n) + 1) f fd ["_law_found", "_law_due"] (spF T 2 (mkFn 2 4 (B_law_same (F_law_same n)))) := by
      refine fn_def F sc_law_same rfl fun cdv A outer s H E hr c => ?_
      unfold B_law_same
      exact (fss_cons (fs_if (ft_val (fe_blt cr_isiU ib_isi n_isinstance (fa_cons (fe_var 1) (fa_cons (fe_tup (fa_cons (fe_ty .list n_list) (fa_cons (fe_ty .tuple n_tuple) fa_nil))) fa_nil)))) (fss_cons (fs_if (ft_w (fw_or (ft_cmp (or_neU c.hu) io_ne (fe_blt cr_isiU ib_isi n_isinstance (fa_cons (fe_var 0) (fa_cons (fe_ty .list n_list) fa_nil))) (fe_blt cr_isiU ib_isi n_isinstance (fa_cons (fe_var 1) (fa_cons (fe_ty .list n_list) fa_nil)))) (fw_or1 (ft_cmp (or_neU c.hu) io_ne (fe_blt cr_isiU ib_isi n_isinstance (fa_cons (fe_var 0) (fa_cons (fe_ty .tuple n_tuple) fa_nil))) (fe_blt cr_isiU ib_isi n_isinstance (fa_cons (fe_var 1) (fa_cons (fe_ty .tuple n_tuple) fa_nil))))))) (fss_one (fs_ret fe_bl)) fss_nil)
    (fss_one (fs_ret (fe_and (fe_cmp (or_eqU c.hu) io_eq (fe_blt call_len ib_len n_len (fa_cons (fe_var 0) fa_nil)) (fe_blt call_len ib_len n_len (fa_cons (fe_var 1) fa_nil))) (fe_one (fe_blt (cr_all c.calm) ib_all n_all (fa_cons (fe_comp [("_law_one", 2), ("_law_two", 3)] c (fi_zip c n_zip (fa_cons (fe_var 0) (fa_cons (fe_var 1) fa_nil))) (fun q c7 => (fg_tup c7 (fgs_cons (fg_name 2 c7) (fgs_cons (fg_name 3 c7) fgs_nil)))) (fun q c7 => fts_nil) (fun q c7 => (fe_call c7 ih (hr.mono (by omega)) m_law_same k_law_same b_law_same dfl0 rfl (fa_cons (fe_var 2) (fa_cons (fe_var 3) fa_nil)) (al1 (al1 al0))))) fa_nil))))))) fss_nil)
    (fss_cons (fs_if (ft_w (fw_or (ft_cmp op_isN io_is (fe_var 1) fe_non) (fw_or1 (ft_cmp op_isN io_is (fe_var 0) fe_non)))) (fss_one (fs_ret (fe_and (fe_cmp op_isN io_is (fe_var 1) fe_non) (fe_one (fe_cmp op_isN io_is (fe_var 0) fe_non))))) fss_nil)
    (fss_cons (fs_if (ft_w (fw_or (ft_cmp (or_neU c.hu) io_ne (fe_blt cr_isiU ib_isi n_isinstance (fa_cons (fe_var 0) (fa_cons (fe_ty .bool n_bool) fa_nil))) (fe_blt cr_isiU ib_isi n_isinstance (fa_cons (fe_var 1) (fa_cons (fe_ty .bool n_bool) fa_nil)))) (fw_or1 (ft_cmp (or_neU c.hu) io_ne (fe_blt cr_isiU ib_isi n_isinstance (fa_cons (fe_var 0) (fa_cons (fe_ty .int n_int) fa_nil))) (fe_blt cr_isiU ib_isi n_isinstance (fa_cons (fe_var 1) (fa_cons (fe_ty .int n_int) fa_nil))))))) (fss_one (fs_ret fe_bl)) fss_nil)
    (fss_one (fs_ret (fe_and (fe_cmp (or_eqU c.hu) io_eq (fe_blt cr_isiU ib_isi n_isinstance (fa_cons (fe_var 0) (fa_cons (fe_ty .str n_str) fa_nil))) (fe_blt cr_isiU ib_isi n_isinstance (fa_cons (fe_var 1) (fa_cons (fe_ty .str n_str) fa_nil)))) (fe_one (fe_cmp (or_eqU c.hu) io_eq (fe_var 0) (fe_var 1)))))))))
    exact q
theorem ok_law_use {f : Addr} {fd : FuncData} (F : Fun T.K "_law_use" "_law_use" s_law_use f fd) (n_range : mg "range" = none) (n_tuple : mg "tuple" = none) {f_law_any : Addr} {fd_law_any : FuncData} (O_law_any : FnOk P w T.K mg base (L2.CX P w) 2 f_law_any fd_law_any ["_law_bag_here", "_law_things"] (spF T 2 F_law_any)) (m_law_any : mg "_law_any" = some (.ref f_law_any)) (k_law_any : PySem.W.keepIn T.K (.ref f_law_any) = true) (b_law_any : Binds T.K fd_law_any ["_law_bag_here", "_law_things"] []) {f_law_pull : Addr} {fd_law_pull : FuncData} (O_law_pull : FnOk P w T.K mg base (L2.CX P w) 1 f_law_pull fd_law_pull ["_law_bag_here", "_law_many"] (spF T 2 F_law_pull)) (m_law_pull : mg "_law_pull" = some (.ref f_law_pull)) (k_law_pull : PySem.W.keepIn T.K (.ref f_law_pull) = true) (b_law_pull : Binds T.K fd_law_pull ["_law_bag_here", "_law_many"] []) : FnOk P w T.K mg base (L2.CX P w) 3 f fd ["_law_bag_here", "_law_wire", "_law_words"] (spF T 3 F_law_use) := by
  have q : FnOk P w T.K mg base (L2.CX P w) (2 + 1) f fd ["_law_bag_here", "_law_wire", "_law_words"] (spF T 3 (mkFn 3 4 B_law_use)) := by
    refine fn_def F sc_law_use rfl fun cdv A outer s H E hr c => ?_
    unfold B_law_use
    exact (fss_one (fs_ret (fe_tup (fa_cons (fe_str [117, 115, 101]) (fa_cons (fe_var 1) (fa_cons (fe_call c O_law_any (hr.mono (by decide)) m_law_any k_law_any b_law_any dfl0 rfl (fa_cons (fe_var 0) (fa_cons (fe_var 2) fa_nil)) (al1 (al1 al0))) (fa_cons (fe_bty call_tuple_of ib_tuple n_tuple (fa_cons (fe_comp [("_law_k", 3)] c (fi_range1 n_range (fa_cons (fe_call c O_law_pull (hr.mono (by decide)) m_law_pull k_law_pull b_law_pull dfl0 rfl (fa_cons (fe_var 0) (fa_cons fe_int fa_nil)) (al1 (al1 al0))) fa_nil)) (fun q c8 => (fg_name 3 c8)) (fun q c8 => fts_nil) (fun q c8 => (fe_call c8 O_law_any (hr.mono (by decide)) m_law_any k_law_any b_law_any dfl0 rfl (fa_cons (fe_var 0) (fa_cons (fe_var 2) fa_nil)) (al1 (al1 al0))))) fa_nil)) fa_nil)))))))
  exact q
theorem ok_Words___init {f : Addr} {fd : FuncData} (F : Fun T.K "__init__" "Words.__init__" s_Words___init f fd)
    (sf_spot : ∀ p ∈ ([(0, 1)] : List (Nat × Nat)), FldOk T "spot" p.1 p.2 ∧ (T.lay p.1).length < 1000)
    (sf_words : ∀ p ∈ ([(0, 0)] : List (Nat × Nat)), FldOk T "words" p.1 p.2 ∧ (T.lay p.1).length < 1000) : FnOk P w T.K mg base (L2.CX P w) 1 f fd ["self", "text"] (spF T 2 F_Words___init) := by
  have q : FnOk P w T.K mg base (L2.CX P w) (0 + 1) f fd ["self", "text"] (spF T 2 (mkFn 2 2 B_Words___init)) := by
    refine fn_def F sc_Words___init rfl fun cdv A outer s H E hr c => ?_
    unfold B_Words___init
    exact (fss_cons (fs_fld c (fe_var 0) (fe_split c (fe_var 1) (fe_str [32])) sf_words)
    (fss_one (fs_fld c (fe_var 0) fe_int sf_spot)))
  exact q
theorem ok_Words_here {f : Addr} {fd : FuncData} (F : Fun T.K "here" "Words.here" s_Words_here f fd) (n_len : mg "len" = none)
    (fo_spot : ∀ p ∈ ([(0, 1)] : List (Nat × Nat)), FldOk T "spot" p.1 p.2)
    (fo_words : ∀ p ∈ ([(0, 0)] : List (Nat × Nat)), FldOk T "words" p.1 p.2) : FnOk P w T.K mg base (L2.CX P w) 1 f fd ["self"] (spF T 1 F_Words_here) := by
  have q : FnOk P w T.K mg base (L2.CX P w) (0 + 1) f fd ["self"] (spF T 1 (mkFn 1 1 B_Words_here)) := by
    refine fn_def F sc_Words_here rfl fun cdv A outer s H E hr c => ?_
    unfold B_Words_here
    exact (fss_one (fs_ret (fe_if (ft_cmp or_lt io_cmp (fe_fld c (fe_var 0) fo_spot) (fe_blt call_len ib_len n_len (fa_cons (fe_fld c (fe_var 0) fo_words) fa_nil))) (fe_ixD c (fe_fld c (fe_var 0) fo_words) (fe_fld c (fe_var 0) fo_spot)) fe_non)))
  exact q
theorem ok_Words_take {f : Addr} {fd : FuncData} (F : Fun T.K "take" "Words.take" s_Words_take f fd)
    (M_0_here : MethOk T P w mg base 1 "here" 0 1 F_Words_here [])
    (sf_spot : ∀ p ∈ ([(0, 1)] : List (Nat × Nat)), FldOk T "spot" p.1 p.2 ∧ (T.lay p.1).length < 1000) : FnOk P w T.K mg base (L2.CX P w) 2 f fd ["self", "good"] (spF T 2 F_Words_take) := by
  have q : FnOk P w T.K mg base (L2.CX P w) (1 + 1) f fd ["self", "good"] (spF T 2 (mkFn 2 3 B_Words_take)) := by
    refine fn_def F sc_Words_take rfl fun cdv A outer s H E hr c => ?_
    unfold B_Words_take
    exact (fss_cons (fs_set 2 c (fe_methT (row_cons (fe_meth10 c (fe_var 0) M_0_here (hr.mono (by decide)) rfl) row_nil) (by simp)))
    (fss_cons (fs_if (ft_w (fw_or (ft_cmp op_isN io_is (fe_var 2) fe_non) (fw_or1 (ft_not (ft_val (fe_var 1)))))) (fss_one fs_stuck) fss_nil)
    (fss_cons (fs_fldaug c (fe_var 0) fe_int sf_spot)
    (fss_one (fs_ret (fe_var 2))))))
  exact q
theorem ok_is_name {f : Addr} {fd : FuncData} (F : Fun T.K "is_name" "is_name" s_is_name f fd) {t_LETTERS : Tok} (m_LETTERS : mg "LETTERS" = some (.str "abcdefghijklmnopqrstuvwxyz" t_LETTERS)) (n_all : mg "all" = none) (n_isinstance : mg "isinstance" = none) (n_len : mg "len" = none) (n_str : mg "str" = none) : FnOk P w T.K mg base (L2.CX P w) 1 f fd ["value"] (spF T 1 F_is_name) := by
  have q : FnOk P w T.K mg base (L2.CX P w) (0 + 1) f fd ["value"] (spF T 1 (mkFn 1 2 B_is_name)) := by
    refine fn_def F sc_is_name rfl fun cdv A outer s H E hr c => ?_
    unfold B_is_name
    exact (fss_cons (fs_if (ft_not (ft_val (fe_blt cr_isiU ib_isi n_isinstance (fa_cons (fe_var 0) (fa_cons (fe_ty .str n_str) fa_nil))))) (fss_one (fs_ret fe_bl)) fss_nil)
    (fss_one (fs_ret (fe_and (fe_chain or_le or_le io_cmp io_cmp fe_int (fe_blt call_len ib_len n_len (fa_cons (fe_var 0) fa_nil)) fe_int) (fe_one (fe_blt (cr_all c.calm) ib_all n_all (fa_cons (fe_comp [("letter", 1)] c (fi_seq c (fe_var 0)) (fun q c9 => (fg_name 1 c9)) (fun q c9 => fts_nil) (fun q c9 => (fe_cmp or_inU io_in (fe_var 1) (fe_const m_LETTERS [97, 98, 99, 100, 101, 102, 103, 104, 105, 106, 107, 108, 109, 110, 111, 112, 113, 114, 115, 116, 117, 118, 119, 120, 121, 122])))) fa_nil)))))))
  exact q
theorem ok_Words_take_name {f : Addr} {fd : FuncData} (F : Fun T.K "take_name" "Words.take_name" s_Words_take_name f fd) {f_is_name : Addr} {fd_is_name : FuncData} (O_is_name : FnOk P w T.K mg base (L2.CX P w) 1 f_is_name fd_is_name ["value"] (spF T 1 F_is_name)) (m_is_name : mg "is_name" = some (.ref f_is_name)) (k_is_name : PySem.W.keepIn T.K (.ref f_is_name) = true) (b_is_name : Binds T.K fd_is_name ["value"] [])
    (M_0_here : MethOk T P w mg base 1 "here" 0 1 F_Words_here [])
    (M_0_take : MethOk T P w mg base 2 "take" 0 2 F_Words_take []) : FnOk P w T.K mg base (L2.CX P w) 3 f fd ["self"] (spF T 1 F_Words_take_name) := by
  have q : FnOk P w T.K mg base (L2.CX P w) (2 + 1) f fd ["self"] (spF T 1 (mkFn 1 1 B_Words_take_name)) := by
    refine fn_def F sc_Words_take_name rfl fun cdv A outer s H E hr c => ?_
    unfold B_Words_take_name
    exact (fss_one (fs_ret (fe_methT (row_cons (fe_meth1 c (fe_var 0) M_0_take (hr.mono (by decide)) (fa_cons (fe_call c O_is_name (hr.mono (by decide)) m_is_name k_is_name b_is_name dfl0 rfl (fa_cons (fe_methT (row_cons (fe_meth10 c (fe_var 0) M_0_here (hr.mono (by decide)) rfl) row_nil) (by simp)) fa_nil) (al1 al0)) fa_nil) (hl_m (al1 al0) rfl)) row_nil) (by simp))))
  exact q
theorem ok_Words_take_names {f : Addr} {fd : FuncData} (F : Fun T.K "take_names" "Words.take_names" s_Words_take_names f fd) (n_len : mg "len" = none) (n_tuple : mg "tuple" = none) {f_is_name : Addr} {fd_is_name : FuncData} (O_is_name : FnOk P w T.K mg base (L2.CX P w) 1 f_is_name fd_is_name ["value"] (spF T 1 F_is_name)) (m_is_name : mg "is_name" = some (.ref f_is_name)) (k_is_name : PySem.W.keepIn T.K (.ref f_is_name) = true) (b_is_name : Binds T.K fd_is_name ["value"] [])
    (M_0_here : MethOk T P w mg base 1 "here" 0 1 F_Words_here [])
    (M_0_take : MethOk T P w mg base 2 "take" 0 2 F_Words_take []) : FnOk P w T.K mg base (L2.CX P w) 3 f fd ["self", "most"] (spF T 2 F_Words_take_names) := by
  have q : FnOk P w T.K mg base (L2.CX P w) (2 + 1) f fd ["self", "most"] (spF T 2 (mkFn 2 3 B_Words_take_names)) := by
    refine fn_def F sc_Words_take_names rfl fun cdv A outer s H E hr c => ?_
    unfold B_Words_take_names
    exact (fss_cons (fs_set 2 c (fe_lstM fa_nil))
    (fss_cons (fs_while 1000000 c (ft_w (fw_and (ft_cmp or_lt io_cmp (fe_blt call_len ib_len n_len (fa_cons (fe_var 2) fa_nil)) (fe_var 1)) (fw_and1 (ft_val (fe_call c O_is_name (hr.mono (by decide)) m_is_name k_is_name b_is_name dfl0 rfl (fa_cons (fe_methT (row_cons (fe_meth10 c (fe_var 0) M_0_here (hr.mono (by decide)) rfl) row_nil) (by simp)) fa_nil) (al1 al0)))))) (fss_one (fs_exp (fe_app c (fe_var 2) (fa_cons (fe_methT (row_cons (fe_meth1 c (fe_var 0) M_0_take (hr.mono (by decide)) (fa_cons fe_bl fa_nil) (hl_m (al1 al0) rfl)) row_nil) (by simp)) fa_nil)))))
    (fss_one (fs_ret (fe_bty call_tuple_of ib_tuple n_tuple (fa_cons (fe_var 2) fa_nil))))))
  exact fn_pur q
theorem ok_number_in {f : Addr} {fd : FuncData} (F : Fun T.K "number_in" "number_in" s_number_in f fd) (n_all : mg "all" = none) (n_int : mg "int" = none) (n_len : mg "len" = none) (n_str : mg "str" = none) : FnOk P w T.K mg base (L2.CX P w) 1 f fd ["word", "least", "most"] (spF T 3 F_number_in) := by
  have q : FnOk P w T.K mg base (L2.CX P w) (0 + 1) f fd ["word", "least", "most"] (spF T 3 (mkFn 3 6 B_number_in)) := by
    refine fn_def F sc_number_in rfl fun cdv A outer s H E hr c => ?_
    unfold B_number_in
    exact (fss_cons (fs_set 3 c (fe_if (ft_val (fe_starts c (fe_var 0) (fe_str [45]))) (fe_sl c (fe_var 0) (fp_some fe_int) fp_no) (fe_var 0)))
    (fss_cons (fs_if (ft_w (fw_or (ft_cmp (or_eqU c.hu) io_eq (fe_blt call_len ib_len n_len (fa_cons (fe_var 3) fa_nil)) fe_int) (fw_or (ft_cmp or_gt io_cmp (fe_blt call_len ib_len n_len (fa_cons (fe_var 3) fa_nil)) fe_int) (fw_or1 (ft_not (ft_val (fe_blt (cr_all c.calm) ib_all n_all (fa_cons (fe_comp [("digit", 5)] c (fi_seq c (fe_var 3)) (fun q c10 => (fg_name 5 c10)) (fun q c10 => fts_nil) (fun q c10 => (fe_cmp (or_inD c10.hu) io_inD (fe_var 5) (fe_str [48, 49, 50, 51, 52, 53, 54, 55, 56, 57])))) fa_nil)))))))) (fss_one (fs_ret fe_non)) fss_nil)
    (fss_cons (fs_set 4 c (fe_bty (call_int1.or call_int_str) ib_intD n_int (fa_cons (fe_var 3) fa_nil)))
    (fss_cons (fs_if (ft_w (fw_or (ft_cmp (or_neU c.hu) io_ne (fe_bty cr_str ib_str n_str (fa_cons (fe_var 4) fa_nil)) (fe_var 3)) (fw_or1 (ft_w (fw_and (ft_cmp (or_eqU c.hu) io_eq (fe_var 4) fe_int) (fw_and1 (ft_cmp (or_neU c.hu) io_ne (fe_var 3) (fe_var 0)))))))) (fss_one (fs_ret fe_non)) fss_nil)
    (fss_cons (fs_set 4 c (fe_if (ft_cmp (or_eqU c.hu) io_eq (fe_var 3) (fe_var 0)) (fe_var 4) (fe_neg (fe_var 4))))
    (fss_one (fs_ret (fe_if (ft_chain or_le or_le io_cmp io_cmp (fe_var 1) (fe_var 4) (fe_var 2)) (fe_var 4) fe_non))))))))
  exact q
theorem ok_Words_take_number {f : Addr} {fd : FuncData} (F : Fun T.K "take_number" "Words.take_number" s_Words_take_number f fd) {f_number_in : Addr} {fd_number_in : FuncData} (O_number_in : FnOk P w T.K mg base (L2.CX P w) 1 f_number_in fd_number_in ["word", "least", "most"] (spF T 3 F_number_in)) (m_number_in : mg "number_in" = some (.ref f_number_in)) (k_number_in : PySem.W.keepIn T.K (.ref f_number_in) = true) (b_number_in : Binds T.K fd_number_in ["word", "least", "most"] [])
    (M_0_here : MethOk T P w mg base 1 "here" 0 1 F_Words_here [])
    (M_0_take : MethOk T P w mg base 2 "take" 0 2 F_Words_take []) : FnOk P w T.K mg base (L2.CX P w) 3 f fd ["self", "least", "most"] (spF T 3 F_Words_take_number) := by
  have q : FnOk P w T.K mg base (L2.CX P w) (2 + 1) f fd ["self", "least", "most"] (spF T 3 (mkFn 3 5 B_Words_take_number)) := by
    refine fn_def F sc_Words_take_number rfl fun cdv A outer s H E hr c => ?_
    unfold B_Words_take_number
    exact (fss_cons (fs_set 3 c (fe_methT (row_cons (fe_meth10 c (fe_var 0) M_0_here (hr.mono (by decide)) rfl) row_nil) (by simp)))
    (fss_cons (fs_set 4 c (fe_if (ft_cmp op_isN io_is (fe_var 3) fe_non) fe_non (fe_call c O_number_in (hr.mono (by decide)) m_number_in k_number_in b_number_in dfl0 rfl (fa_cons (fe_var 3) (fa_cons (fe_var 1) (fa_cons (fe_var 2) fa_nil))) (al1 (al1 (al1 al0))))))
    (fss_cons (fs_exp (fe_methT (row_cons (fe_meth1 c (fe_var 0) M_0_take (hr.mono (by decide)) (fa_cons (fe_cmp op_notN io_isn (fe_var 4) fe_non) fa_nil) (hl_m (al1 al0) rfl)) row_nil) (by simp)))
    (fss_one (fs_ret (fe_var 4))))))
  exact q
theorem ok_Words_take_term {f : Addr} {fd : FuncData} (F : Fun T.K "take_term" "Words.take_term" s_Words_take_term f fd) {t_DELAY : Tok} (m_DELAY : mg "DELAY" = some (.int 4 t_DELAY)) {t_FACTOR : Tok} (m_FACTOR : mg "FACTOR" = some (.int 99 t_FACTOR))
    (M_0_here : MethOk T P w mg base 1 "here" 0 1 F_Words_here [])
    (M_0_take : MethOk T P w mg base 2 "take" 0 2 F_Words_take [])
    (M_0_take_name : MethOk T P w mg base 3 "take_name" 0 1 F_Words_take_name [])
    (M_0_take_number : MethOk T P w mg base 3 "take_number" 0 3 F_Words_take_number []) : FnOk P w T.K mg base (L2.CX P w) 4 f fd ["self"] (spF T 1 F_Words_take_term) := by
  have q : FnOk P w T.K mg base (L2.CX P w) (3 + 1) f fd ["self"] (spF T 1 (mkFn 1 3 B_Words_take_term)) := by
    refine fn_def F sc_Words_take_term rfl fun cdv A outer s H E hr c => ?_
    unfold B_Words_take_term
    exact (fss_cons (fs_set 1 c (fe_methT (row_cons (fe_meth1 c (fe_var 0) M_0_take_number (hr.mono (by decide)) (fa_cons (fe_neg (fe_constI m_FACTOR)) (fa_cons (fe_constI m_FACTOR) fa_nil)) (hl_m (al1 (al1 al0)) rfl)) row_nil) (by simp)))
    (fss_cons (fs_set 2 c (fe_methT (row_cons (fe_meth10 c (fe_var 0) M_0_take_name (hr.mono (by decide)) rfl) row_nil) (by simp)))
    (fss_cons (fs_if (ft_cmp (or_neU c.hu) io_ne (fe_methT (row_cons (fe_meth10 c (fe_var 0) M_0_here (hr.mono (by decide)) rfl) row_nil) (by simp)) (fe_str [108, 97, 116, 101])) (fss_one (fs_ret (fe_tup (fa_cons (fe_var 1) (fa_cons fe_int (fa_cons (fe_var 2) fa_nil)))))) fss_nil)
    (fss_cons (fs_exp (fe_methT (row_cons (fe_meth1 c (fe_var 0) M_0_take (hr.mono (by decide)) (fa_cons fe_bl fa_nil) (hl_m (al1 al0) rfl)) row_nil) (by simp)))
    (fss_one (fs_ret (fe_tup (fa_cons (fe_var 1) (fa_cons (fe_methT (row_cons (fe_meth1 c (fe_var 0) M_0_take_number (hr.mono (by decide)) (fa_cons fe_int (fa_cons (fe_constI m_DELAY) fa_nil)) (hl_m (al1 (al1 al0)) rfl)) row_nil) (by simp)) (fa_cons (fe_var 2) fa_nil))))))))))
  exact q
theorem ok_Words_take_terms {f : Addr} {fd : FuncData} (F : Fun T.K "take_terms" "Words.take_terms" s_Words_take_terms f fd) {t_FACTOR : Tok} (m_FACTOR : mg "FACTOR" = some (.int 99 t_FACTOR)) (n_len : mg "len" = none) (n_tuple : mg "tuple" = none) {f_number_in : Addr} {fd_number_in : FuncData} (O_number_in : FnOk P w T.K mg base (L2.CX P w) 1 f_number_in fd_number_in ["word", "least", "most"] (spF T 3 F_number_in)) (m_number_in : mg "number_in" = some (.ref f_number_in)) (k_number_in : PySem.W.keepIn T.K (.ref f_number_in) = true) (b_number_in : Binds T.K fd_number_in ["word", "least", "most"] [])
    (M_0_here : MethOk T P w mg base 1 "here" 0 1 F_Words_here [])
    (M_0_take : MethOk T P w mg base 2 "take" 0 2 F_Words_take [])
    (M_0_take_term : MethOk T P w mg base 4 "take_term" 0 1 F_Words_take_term []) : FnOk P w T.K mg base (L2.CX P w) 5 f fd ["self"] (spF T 1 F_Words_take_terms) := by
  have q : FnOk P w T.K mg base (L2.CX P w) (4 + 1) f fd ["self"] (spF T 1 (mkFn 1 2 B_Words_take_terms)) := by
    refine fn_def F sc_Words_take_terms rfl fun cdv A outer s H E hr c => ?_
    unfold B_Words_take_terms
    exact (fss_cons (fs_if (ft_w (fw_or (ft_cmp op_isN io_is (fe_methT (row_cons (fe_meth10 c (fe_var 0) M_0_here (hr.mono (by decide)) rfl) row_nil) (by simp)) fe_non) (fw_or1 (ft_cmp op_isN io_is (fe_call c O_number_in (hr.mono (by decide)) m_number_in k_number_in b_number_in dfl0 rfl (fa_cons (fe_methT (row_cons (fe_meth10 c (fe_var 0) M_0_here (hr.mono (by decide)) rfl) row_nil) (by simp)) (fa_cons (fe_neg (fe_constI m_FACTOR)) (fa_cons (fe_constI m_FACTOR) fa_nil))) (al1 (al1 (al1 al0)))) fe_non)))) (fss_one (fs_ret (fe_tup fa_nil))) fss_nil)
    (fss_cons (fs_set 1 c (fe_lstM (fa_cons (fe_methT (row_cons (fe_meth10 c (fe_var 0) M_0_take_term (hr.mono (by decide)) rfl) row_nil) (by simp)) fa_nil)))
    (fss_cons (fs_while 1000000 c (ft_w (fw_and (ft_cmp (or_eqU c.hu) io_eq (fe_methT (row_cons (fe_meth10 c (fe_var 0) M_0_here (hr.mono (by decide)) rfl) row_nil) (by simp)) (fe_str [44])) (fw_and1 (ft_cmp or_lt io_cmp (fe_blt call_len ib_len n_len (fa_cons (fe_var 1) fa_nil)) fe_int)))) (fss_cons (fs_exp (fe_methT (row_cons (fe_meth1 c (fe_var 0) M_0_take (hr.mono (by decide)) (fa_cons fe_bl fa_nil) (hl_m (al1 al0) rfl)) row_nil) (by simp)))
    (fss_one (fs_exp (fe_app c (fe_var 1) (fa_cons (fe_methT (row_cons (fe_meth10 c (fe_var 0) M_0_take_term (hr.mono (by decide)) rfl) row_nil) (by simp)) fa_nil))))))
    (fss_one (fs_ret (fe_bty call_tuple_of ib_tuple n_tuple (fa_cons (fe_var 1) fa_nil)))))))
  exact fn_pur q
theorem ok_Words_take_part {f : Addr} {fd : FuncData} (F : Fun T.K "take_part" "Words.take_part" s_Words_take_part f fd) {E_ENDS : Addr} (m_ENDS : mg "ENDS" = some (.ref E_ENDS)) (s_ENDS : (E_ENDS == sysModules) = false) (kd_ENDS : ∀ q ∈ ([([112, 108, 97, 105, 110], 1), ([111, 100, 100], 1), ([107, 101, 101, 112], 1), ([112, 97, 105, 114], 2)] : List (List Nat × Int)), KDct T.K w E_ENDS ⟨q.1.toArray⟩ (.int q.2)) (n_range : mg "range" = none)
    (M_0_here : MethOk T P w mg base 1 "here" 0 1 F_Words_here [])
    (M_0_take : MethOk T P w mg base 2 "take" 0 2 F_Words_take [])
    (M_0_take_name : MethOk T P w mg base 3 "take_name" 0 1 F_Words_take_name [])
    (M_0_take_names : MethOk T P w mg base 3 "take_names" 0 2 F_Words_take_names [])
    (M_0_take_terms : MethOk T P w mg base 5 "take_terms" 0 1 F_Words_take_terms []) : FnOk P w T.K mg base (L2.CX P w) 6 f fd ["self"] (spF T 1 F_Words_take_part) := by
  have q : FnOk P w T.K mg base (L2.CX P w) (5 + 1) f fd ["self"] (spF T 1 (mkFn 1 6 B_Words_take_part)) := by
    refine fn_def F sc_Words_take_part rfl fun cdv A outer s H E hr c => ?_
    unfold B_Words_take_part
    exact (fss_cons (fs_par 1 2 c (fa_cons (fe_methT (row_cons (fe_meth10 c (fe_var 0) M_0_take_name (hr.mono (by decide)) rfl) row_nil) (by simp)) (fa_cons (fe_methT (row_cons (fe_meth10 c (fe_var 0) M_0_here (hr.mono (by decide)) rfl) row_nil) (by simp)) fa_nil)))
    (fss_cons (fs_exp (fe_methT (row_cons (fe_meth1 c (fe_var 0) M_0_take (hr.mono (by decide)) (fa_cons (fe_or (fe_cmp (or_inD c.hu) io_inD (fe_var 2) (fe_tup (fa_cons (fe_str [115, 111, 117, 114, 99, 101]) (fa_cons (fe_str [109, 105, 120]) (fa_cons (fe_str [117, 115, 101]) fa_nil))))) (fe_one (fe_kin c m_ENDS s_ENDS kd_ENDS (fe_var 2)))) fa_nil) (hl_m (al1 al0) rfl)) row_nil) (by simp)))
    (fss_cons (fs_if (ft_cmp (or_eqU c.hu) io_eq (fe_var 2) (fe_str [115, 111, 117, 114, 99, 101])) (fss_one (fs_ret (fe_tup (fa_cons (fe_str [115, 111, 117, 114, 99, 101]) (fa_cons (fe_var 1) fa_nil))))) fss_nil)
    (fss_cons (fs_if (ft_cmp (or_eqU c.hu) io_eq (fe_var 2) (fe_str [109, 105, 120])) (fss_one (fs_ret (fe_tup (fa_cons (fe_str [109, 105, 120]) (fa_cons (fe_var 1) (fa_cons (fe_methT (row_cons (fe_meth10 c (fe_var 0) M_0_take_terms (hr.mono (by decide)) rfl) row_nil) (by simp)) fa_nil)))))) fss_nil)
    (fss_cons (fs_set 3 c (fe_methT (row_cons (fe_meth10 c (fe_var 0) M_0_take_name (hr.mono (by decide)) rfl) row_nil) (by simp)))
    (fss_cons (fs_if (ft_cmp (or_eqU c.hu) io_eq (fe_var 2) (fe_str [117, 115, 101])) (fss_one (fs_ret (fe_tup (fa_cons (fe_str [117, 115, 101]) (fa_cons (fe_var 1) (fa_cons (fe_var 3) (fa_cons (fe_methT (row_cons (fe_meth1 c (fe_var 0) M_0_take_names (hr.mono (by decide)) (fa_cons fe_int fa_nil) (hl_m (al1 al0) rfl)) row_nil) (by simp)) fa_nil))))))) fss_nil)
    (fss_cons (fs_setLc 4 [("_", 5)] c (fi_range1 n_range (fa_cons (fe_kix c m_ENDS kd_ENDS (fe_var 2)) fa_nil)) (fun q c11 => (fg_name 5 c11)) (fun q c11 => fts_nil) (fun q c11 => (fe_methT (row_cons (fe_meth10 c11 (fe_var 0) M_0_take_name (hr.mono (by decide)) rfl) row_nil) (by simp))))
    (fss_one (fs_ret (fe_tup (fa_cons (fe_var 2) (fa_cons (fe_var 1) (fa_cons (fe_var 3) (fa_star c (fe_var 4) fa_nil))))))))))))))
  exact q
theorem ok_Words_take_net {f : Addr} {fd : FuncData} (F : Fun T.K "take_net" "Words.take_net" s_Words_take_net f fd) (n_tuple : mg "tuple" = none)
    (M_0_here : MethOk T P w mg base 1 "here" 0 1 F_Words_here [])
    (M_0_take : MethOk T P w mg base 2 "take" 0 2 F_Words_take [])
    (M_0_take_name : MethOk T P w mg base 3 "take_name" 0 1 F_Words_take_name [])
    (M_0_take_names : MethOk T P w mg base 3 "take_names" 0 2 F_Words_take_names [])
    (M_0_take_part : MethOk T P w mg base 6 "take_part" 0 1 F_Words_take_part []) : FnOk P w T.K mg base (L2.CX P w) 7 f fd ["self"] (spF T 1 F_Words_take_net) := by
  have q : FnOk P w T.K mg base (L2.CX P w) (6 + 1) f fd ["self"] (spF T 1 (mkFn 1 3 B_Words_take_net)) := by
    refine fn_def F sc_Words_take_net rfl fun cdv A outer s H E hr c => ?_
    unfold B_Words_take_net
    exact (fss_cons (fs_set 1 c (fe_lstM fa_nil))
    (fss_cons (fs_while 1000000 c (ft_cmp (or_neU c.hu) io_ne (fe_methT (row_cons (fe_meth10 c (fe_var 0) M_0_here (hr.mono (by decide)) rfl) row_nil) (by simp)) (fe_str [62])) (fss_cons (fs_exp (fe_app c (fe_var 1) (fa_cons (fe_methT (row_cons (fe_meth10 c (fe_var 0) M_0_take_part (hr.mono (by decide)) rfl) row_nil) (by simp)) fa_nil)))
    (fss_one (fs_exp (fe_methT (row_cons (fe_meth1 c (fe_var 0) M_0_take (hr.mono (by decide)) (fa_cons (fe_cmp (or_eqU c.hu) io_eq (fe_methT (row_cons (fe_meth10 c (fe_var 0) M_0_here (hr.mono (by decide)) rfl) row_nil) (by simp)) (fe_str [59])) fa_nil) (hl_m (al1 al0) rfl)) row_nil) (by simp))))))
    (fss_cons (fs_exp (fe_methT (row_cons (fe_meth1 c (fe_var 0) M_0_take (hr.mono (by decide)) (fa_cons fe_bl fa_nil) (hl_m (al1 al0) rfl)) row_nil) (by simp)))
    (fss_cons (fs_set 2 c (fe_tup (fa_cons (fe_methT (row_cons (fe_meth10 c (fe_var 0) M_0_take_name (hr.mono (by decide)) rfl) row_nil) (by simp)) (fa_star c (fe_methT (row_cons (fe_meth1 c (fe_var 0) M_0_take_names (hr.mono (by decide)) (fa_cons fe_int fa_nil) (hl_m (al1 al0) rfl)) row_nil) (by simp)) fa_nil))))
    (fss_cons (fs_if (ft_cmp op_notN io_isn (fe_methT (row_cons (fe_meth10 c (fe_var 0) M_0_here (hr.mono (by decide)) rfl) row_nil) (by simp)) fe_non) (fss_one fs_stuck) fss_nil)
    (fss_one (fs_ret (fe_tup (fa_cons (fe_bty call_tuple_of ib_tuple n_tuple (fa_cons (fe_var 1) fa_nil)) (fa_cons (fe_var 2) fa_nil))))))))))
  exact fn_pur q
theorem ok_read_net {f : Addr} {fd : FuncData} (F : Fun T.K "read_net" "read_net" s_read_net f fd) (n_isinstance : mg "isinstance" = none) (n_str : mg "str" = none)
    (L_Words : MakeOk T P w mg base 1 "Words" 0 2 F_Words___init [])
    (M_0_take_net : MethOk T P w mg base 7 "take_net" 0 1 F_Words_take_net []) : FnOk P w T.K mg base (L2.CX P w) 8 f fd ["text"] (spF T 1 F_read_net) := by
  have q : FnOk P w T.K mg base (L2.CX P w) (7 + 1) f fd ["text"] (spF T 1 (mkFn 1 1 B_read_net)) := by
    refine fn_def F sc_read_net rfl fun cdv A outer s H E hr c => ?_
    unfold B_read_net
    exact (fss_cons (fs_if (ft_not (ft_val (fe_blt cr_isiU ib_isi n_isinstance (fa_cons (fe_var 0) (fa_cons (fe_ty .str n_str) fa_nil))))) (fss_one fs_stuck) fss_nil)
    (fss_one (fs_ret (fe_methT (row_cons (fe_meth10 c (fe_makeL c L_Words (hr.mono (by decide)) (fa_cons (fe_var 0) fa_nil) (hl_l (al1 al0) rfl)) M_0_take_net (hr.mono (by decide)) rfl) row_nil) (by simp)))))
  exact fn_pur q
theorem ok_term_words {f : Addr} {fd : FuncData} (F : Fun T.K "term_words" "term_words" s_term_words f fd) (n_str : mg "str" = none) : FnOk P w T.K mg base (L2.CX P w) 1 f fd ["term"] (spF T 1 F_term_words) := by
  have q : FnOk P w T.K mg base (L2.CX P w) (0 + 1) f fd ["term"] (spF T 1 (mkFn 1 4 B_term_words)) := by
    refine fn_def F sc_term_words rfl fun cdv A outer s H E hr c => ?_
    unfold B_term_words
    exact (fss_cons (fs_asg (fe_var 0) (fg_tup c (fgs_cons (fg_name 1 c) (fgs_cons (fg_name 2 c) (fgs_cons (fg_name 3 c) fgs_nil)))) (sto_t (stos_1 sto_n (stos_1 sto_n (stos_1 sto_n stos_0)))))
    (fss_one (fs_ret (fe_op or_addU io_add (fe_lst (fa_cons (fe_bty cr_str ib_str n_str (fa_cons (fe_var 1) fa_nil)) (fa_cons (fe_var 3) fa_nil))) (fe_if (ft_cmp or_gt io_cmp (fe_var 2) fe_int) (fe_lst (fa_cons (fe_str [108, 97, 116, 101]) (fa_cons (fe_bty cr_str ib_str n_str (fa_cons (fe_var 2) fa_nil)) fa_nil))) (fe_lst fa_nil))))))
  exact q
theorem ok_part_words {f : Addr} {fd : FuncData} (F : Fun T.K "part_words" "part_words" s_part_words f fd) (n_enumerate : mg "enumerate" = none) {f_term_words : Addr} {fd_term_words : FuncData} (O_term_words : FnOk P w T.K mg base (L2.CX P w) 1 f_term_words fd_term_words ["term"] (spF T 1 F_term_words)) (m_term_words : mg "term_words" = some (.ref f_term_words)) (k_term_words : PySem.W.keepIn T.K (.ref f_term_words) = true) (b_term_words : Binds T.K fd_term_words ["term"] []) : FnOk P w T.K mg base (L2.CX P w) 2 f fd ["part"] (spF T 1 F_part_words) := by
  have q : FnOk P w T.K mg base (L2.CX P w) (1 + 1) f fd ["part"] (spF T 1 (mkFn 1 7 B_part_words)) := by
    refine fn_def F sc_part_words rfl fun cdv A outer s H E hr c => ?_
    unfold B_part_words
    exact (fss_cons (fs_asg (fe_var 0) (fg_star c (fgs_cons (fg_name 1 c) (fgs_cons (fg_name 2 c) (fgs_star (fg_name 3 c) fgs_nil)))) (sto_s (stos_1 sto_n (stos_1 sto_n (stos_1 sto_n stos_0)))))
    (fss_cons (fs_if (ft_cmp (or_eqU c.hu) io_eq (fe_var 1) (fe_str [117, 115, 101])) (fss_one (fs_ret (fe_lst (fa_cons (fe_var 2) (fa_cons (fe_str [117, 115, 101]) (fa_cons (fe_ix c (fe_var 3) fe_int) (fa_star c (fe_ix c (fe_var 3) fe_int) fa_nil))))))) fss_nil)
    (fss_cons (fs_if (ft_cmp (or_neU c.hu) io_ne (fe_var 1) (fe_str [109, 105, 120])) (fss_one (fs_ret (fe_lst (fa_cons (fe_var 2) (fa_cons (fe_var 1) (fa_star c (fe_var 3) fa_nil)))))) fss_nil)
    (fss_cons (fs_set 4 c (fe_lst (fa_cons (fe_var 2) (fa_cons (fe_str [109, 105, 120]) fa_nil))))
    (fss_cons (fs_for c (fi_enumA c n_enumerate (fa_cons (fe_ix c (fe_var 3) fe_int) fa_nil)) (fg_tup c (fgs_cons (fg_name 5 c) (fgs_cons (fg_name 6 c) fgs_nil))) (fss_one (fs_set 4 c (fe_op or_addU io_add (fe_op or_addU io_add (fe_var 4) (fe_if (ft_cmp or_gt io_cmp (fe_var 5) fe_int) (fe_lst (fa_cons (fe_str [44]) fa_nil)) (fe_lst fa_nil))) (fe_call c O_term_words (hr.mono (by decide)) m_term_words k_term_words b_term_words dfl0 rfl (fa_cons (fe_var 6) fa_nil) (al1 al0))))))
    (fss_one (fs_ret (fe_var 4))))))))
  exact q
theorem ok_text_of {f : Addr} {fd : FuncData} (F : Fun T.K "text_of" "text_of" s_text_of f fd) {f_part_words : Addr} {fd_part_words : FuncData} (O_part_words : FnOk P w T.K mg base (L2.CX P w) 2 f_part_words fd_part_words ["part"] (spF T 1 F_part_words)) (m_part_words : mg "part_words" = some (.ref f_part_words)) (k_part_words : PySem.W.keepIn T.K (.ref f_part_words) = true) (b_part_words : Binds T.K fd_part_words ["part"] []) : FnOk P w T.K mg base (L2.CX P w) 3 f fd ["parts", "outs"] (spF T 2 F_text_of) := by
  have q : FnOk P w T.K mg base (L2.CX P w) (2 + 1) f fd ["parts", "outs"] (spF T 2 (mkFn 2 4 B_text_of)) := by
    refine fn_def F sc_text_of rfl fun cdv A outer s H E hr c => ?_
    unfold B_text_of
    exact (fss_cons (fs_set 2 c (fe_lst fa_nil))
    (fss_cons (fs_for c (fi_seq c (fe_var 0)) (fg_name 3 c) (fss_one (fs_set 2 c (fe_op or_addU io_add (fe_op or_addU io_add (fe_var 2) (fe_call c O_part_words (hr.mono (by decide)) m_part_words k_part_words b_part_words dfl0 rfl (fa_cons (fe_var 3) fa_nil) (al1 al0))) (fe_lst (fa_cons (fe_str [59]) fa_nil))))))
    (fss_one (fs_ret (fe_join c (fe_str [32]) (fe_lst (fa_star c (fe_var 2) (fa_cons (fe_str [62]) (fa_star c (fe_var 1) fa_nil)))))))))
  exact q
theorem ok_law {f : Addr} {fd : FuncData} (F : Fun T.K "law" "law" s_law f fd) (n_range : mg "range" = none) (n_tuple : mg "tuple" = none) {f_law_any : Addr} {fd_law_any : FuncData} (O_law_any : FnOk P w T.K mg base (L2.CX P w) 2 f_law_any fd_law_any ["_law_bag_here", "_law_things"] (spF T 2 F_law_any)) (m_law_any : mg "_law_any" = some (.ref f_law_any)) (k_law_any : PySem.W.keepIn T.K (.ref f_law_any) = true) (b_law_any : Binds T.K fd_law_any ["_law_bag_here", "_law_things"] []) {f_law_bag : Addr} {fd_law_bag : FuncData} (O_law_bag : FnOk P w T.K mg base (L2.CX P w) 1 f_law_bag fd_law_bag ["_law_script"] (spF T 1 F_law_bag)) (m_law_bag : mg "_law_bag" = some (.ref f_law_bag)) (k_law_bag : PySem.W.keepIn T.K (.ref f_law_bag) = true) (b_law_bag : Binds T.K fd_law_bag ["_law_script"] []) {f_law_boxes_v : Addr} {fd_law_boxes_v : FuncData} (O_law_boxes_v : FnOk P w T.K mg base (L2.CX P w) 3 f_law_boxes_v fd_law_boxes_v ["_law_bag_here", "_law_words"] (spF T 2 F_law_boxes_v)) (m_law_boxes_v : mg "_law_boxes" = some (.ref f_law_boxes_v)) (k_law_boxes_v : PySem.W.keepIn T.K (.ref f_law_boxes_v) = true) (b_law_boxes_v : Binds T.K fd_law_boxes_v ["_law_bag_here", "_law_words"] []) {f_law_mixed : Addr} {fd_law_mixed : FuncData} (O_law_mixed : FnOk P w T.K mg base (L2.CX P w) 2 f_law_mixed fd_law_mixed ["_law_bag_here", "_law_things"] (spF T 2 F_law_mixed)) (m_law_mixed : mg "_law_mixed" = some (.ref f_law_mixed)) (k_law_mixed : PySem.W.keepIn T.K (.ref f_law_mixed) = true) (b_law_mixed : Binds T.K fd_law_mixed ["_law_bag_here", "_law_things"] []) {f_law_names : Addr} {fd_law_names : FuncData} (O_law_names : FnOk P w T.K mg base (L2.CX P w) 3 f_law_names fd_law_names ["_law_bag_here", "_law_many"] (spF T 2 F_law_names)) (m_law_names : mg "_law_names" = some (.ref f_law_names)) (k_law_names : PySem.W.keepIn T.K (.ref f_law_names) = true) (b_law_names : Binds T.K fd_law_names ["_law_bag_here", "_law_many"] []) {f_law_parts : Addr} {fd_law_parts : FuncData} (O_law_parts : FnOk P w T.K mg base (L2.CX P w) 5 f_law_parts fd_law_parts ["_law_bag_here", "_law_wires", "_law_sources", "_law_boxes_here"] (spF T 4 F_law_parts)) (m_law_parts : mg "_law_parts" = some (.ref f_law_parts)) (k_law_parts : PySem.W.keepIn T.K (.ref f_law_parts) = true) (b_law_parts : Binds T.K fd_law_parts ["_law_bag_here", "_law_wires", "_law_sources", "_law_boxes_here"] []) {f_law_pull : Addr} {fd_law_pull : FuncData} (O_law_pull : FnOk P w T.K mg base (L2.CX P w) 1 f_law_pull fd_law_pull ["_law_bag_here", "_law_many"] (spF T 2 F_law_pull)) (m_law_pull : mg "_law_pull" = some (.ref f_law_pull)) (k_law_pull : PySem.W.keepIn T.K (.ref f_law_pull) = true) (b_law_pull : Binds T.K fd_law_pull ["_law_bag_here", "_law_many"] []) {f_law_same : Addr} {fd_law_same : FuncData} (O_law_same : ∀ n, FnOk P w T.K mg base (L2.CX P w) (1 + n) f_law_same fd_law_same ["_law_found", "_law_due"] (spF T 2 (F_law_same n))) (m_law_same : mg "_law_same" = some (.ref f_law_same)) (k_law_same : PySem.W.keepIn T.K (.ref f_law_same) = true) (b_law_same : Binds T.K fd_law_same ["_law_found", "_law_due"] []) {f_law_use : Addr} {fd_law_use : FuncData} (O_law_use : FnOk P w T.K mg base (L2.CX P w) 3 f_law_use fd_law_use ["_law_bag_here", "_law_wire", "_law_words"] (spF T 3 F_law_use)) (m_law_use : mg "_law_use" = some (.ref f_law_use)) (k_law_use : PySem.W.keepIn T.K (.ref f_law_use) = true) (b_law_use : Binds T.K fd_law_use ["_law_bag_here", "_law_wire", "_law_words"] []) {f_read_net : Addr} {fd_read_net : FuncData} (O_read_net : FnOk P w T.K mg base (L2.CX P w) 8 f_read_net fd_read_net ["text"] (spF T 1 F_read_net)) (m_read_net : mg "read_net" = some (.ref f_read_net)) (k_read_net : PySem.W.keepIn T.K (.ref f_read_net) = true) (b_read_net : Binds T.K fd_read_net ["text"] []) {f_text_of : Addr} {fd_text_of : FuncData} (O_text_of : FnOk P w T.K mg base (L2.CX P w) 3 f_text_of fd_text_of ["parts", "outs"] (spF T 2 F_text_of)) (m_text_of : mg "text_of" = some (.ref f_text_of)) (k_text_of : PySem.W.keepIn T.K (.ref f_text_of) = true) (b_text_of : Binds T.K fd_text_of ["parts", "outs"] []) (kb_read_net_0 : KB T.K fd_read_net ["text"] 0 ["text"] [] [0]) : FnOk P w T.K mg base (L2.CX P w) 10 f fd ["_law_script"] (spF T 1 F_law) := by
  have q : FnOk P w T.K mg base (L2.CX P w) (9 + 1) f fd ["_law_script"] (spF T 1 (mkFn 1 10 B_law)) := by
    refine fn_def F sc_law rfl fun cdv A outer s H E hr c => ?_
    unfold B_law
    exact (fss_cons (fs_set 1 c (fe_call c O_law_bag (hr.mono (by decide)) m_law_bag k_law_bag b_law_bag dfl0 rfl (fa_cons (fe_var 0) fa_nil) (al1 al0)))
    (fss_cons (fs_for c (fi_range1 n_range (fa_cons fe_int fa_nil)) (fg_name 2 c) (fss_cons (fs_set 3 c (fe_call c O_law_mixed (hr.mono (by decide)) m_law_mixed k_law_mixed b_law_mixed dfl0 rfl (fa_cons (fe_var 1) (fa_cons (fe_op or_addU io_add (fe_call c O_law_names (hr.mono (by decide)) m_law_names k_law_names b_law_names dfl0 rfl (fa_cons (fe_var 1) (fa_cons fe_int fa_nil)) (al1 (al1 al0))) (fe_lst (fa_cons (fe_str [108, 97, 116, 101]) (fa_cons (fe_str [109, 105, 120]) (fa_cons (fe_str [117, 115, 101]) fa_nil))))) fa_nil)) (al1 (al1 al0))))
    (fss_cons (fs_set 4 c (fe_call c O_law_parts (hr.mono (by decide)) m_law_parts k_law_parts b_law_parts dfl0 rfl (fa_cons (fe_var 1) (fa_cons (fe_sl c (fe_var 3) fp_no (fp_some (fe_call c O_law_pull (hr.mono (by decide)) m_law_pull k_law_pull b_law_pull dfl0 rfl (fa_cons (fe_var 1) (fa_cons fe_int fa_nil)) (al1 (al1 al0))))) (fa_cons (fe_call c O_law_pull (hr.mono (by decide)) m_law_pull k_law_pull b_law_pull dfl0 rfl (fa_cons (fe_var 1) (fa_cons fe_int fa_nil)) (al1 (al1 al0))) (fa_cons (fe_call c O_law_boxes_v (hr.mono (by decide)) m_law_boxes_v k_law_boxes_v b_law_boxes_v dfl0 rfl (fa_cons (fe_var 1) (fa_cons (fe_sl c (fe_var 3) (fp_some fe_int) (fp_some fe_int)) fa_nil)) (al1 (al1 al0))) fa_nil)))) (al1 (al1 (al1 (al1 al0))))))
    (fss_cons (fs_setLc 4 [("_law_part_here", 8)] c (fi_seq c (fe_var 4)) (fun q c12 => (fg_name 8 c12)) (fun q c12 => fts_nil) (fun q c12 => (fe_if (ft_cmp (or_eqU c12.hu) io_eq (fe_call c12 O_law_pull (hr.mono (by decide)) m_law_pull k_law_pull b_law_pull dfl0 rfl (fa_cons (fe_var 1) (fa_cons fe_int fa_nil)) (al1 (al1 al0))) fe_int) (fe_call c12 O_law_use (hr.mono (by decide)) m_law_use k_law_use b_law_use dfl0 rfl (fa_cons (fe_var 1) (fa_cons (fe_ixD c12 (fe_var 8) fe_int) (fa_cons (fe_var 3) fa_nil))) (al1 (al1 (al1 al0)))) (fe_var 8))))
    (fss_cons (fs_set 5 c (fe_bty call_tuple_of ib_tuple n_tuple (fa_cons (fe_comp [("_law_k", 9)] c (fi_range1 n_range (fa_cons (fe_op or_addU io_add fe_int (fe_call c O_law_pull (hr.mono (by decide)) m_law_pull k_law_pull b_law_pull dfl0 rfl (fa_cons (fe_var 1) (fa_cons fe_int fa_nil)) (al1 (al1 al0)))) fa_nil)) (fun q c13 => (fg_name 9 c13)) (fun q c13 => fts_nil) (fun q c13 => (fe_call c13 O_law_any (hr.mono (by decide)) m_law_any k_law_any b_law_any dfl0 rfl (fa_cons (fe_var 1) (fa_cons (fe_var 3) fa_nil)) (al1 (al1 al0))))) fa_nil)))
    (fss_cons (fs_set 6 c (fe_call c O_text_of (hr.mono (by decide)) m_text_of k_text_of b_text_of dfl0 rfl (fa_cons (fe_var 4) (fa_cons (fe_var 5) fa_nil)) (al1 (al1 al0))))
    (fss_cons (fs_set 7 c (fe_call c O_read_net (hr.mono (by decide)) m_read_net k_read_net b_read_net dfl0 rfl (fa_cons (fe_var 6) fa_nil) (al1 al0)))
    (fss_cons (fs_if (ft_w (fw_or (ft_not (ft_val (fe_call c (O_law_same 8) (hr.mono (by decide)) m_law_same k_law_same b_law_same dfl0 rfl (fa_cons (fe_var 7) (fa_cons (fe_tup (fa_cons (fe_bty call_tuple_of ib_tuple n_tuple (fa_cons (fe_var 4) fa_nil)) (fa_cons (fe_var 5) fa_nil))) fa_nil)) (al1 (al1 al0))))) (fw_or1 (ft_not (ft_val (fe_call c (O_law_same 8) (hr.mono (by decide)) m_law_same k_law_same b_law_same dfl0 rfl (fa_cons (fe_callKO (ks := ["text"]) (pm := [0]) c O_read_net (hr.mono (by decide)) m_read_net k_read_net kb_read_net_0 dfl0 (fk_cons (fe_var 6) fk_nil) (al1 al0) (fun zs hz => match zs, hz with | [_], _ => rfl)) (fa_cons (fe_var 7) fa_nil)) (al1 (al1 al0)))))))) (fss_one (fs_ret fe_bl)) fss_nil)
    (fss_one (fs_if (ft_not (ft_val (fe_call c (O_law_same 8) (hr.mono (by decide)) m_law_same k_law_same b_law_same dfl0 rfl (fa_cons (fe_call c O_text_of (hr.mono (by decide)) m_text_of k_text_of b_text_of dfl0 rfl (fa_cons (fe_ixD c (fe_var 7) fe_int) (fa_cons (fe_ixD c (fe_var 7) fe_int) fa_nil)) (al1 (al1 al0))) (fa_cons (fe_var 6) fa_nil)) (al1 (al1 al0))))) (fss_one (fs_ret fe_bl)) fss_nil))))))))))
    (fss_one (fs_ret fe_bl))))
  exact q
end
end K09

open PySem
open L2
open U
open K09
set_option maxHeartbeats 0 in
theorem all_mk {l : PySem.W.OpenLaw} {w : World} {K : PySem.W.Frag} {h : Heap} {mg : Str → Option Value} {fa : Addr} (X : K.In h) (G : h.Ns mainGlobals mg) (hfa : mg "law" = some (.ref fa)) {C_Words : Addr} {od0 an0 : Option Addr} {sl0 : Array (Option Value)} {oc0 kV0 dc0 pm0 cd0 ct0 : Value} {f_law_pull : Addr} {od1 an1 : Option Addr} {sl1 : Array (Option Value)} {oc1 kV1 dc1 pm1 cd1 ct1 : Value} {f_law_any : Addr} {od2 an2 : Option Addr} {sl2 : Array (Option Value)} {oc2 kV2 dc2 pm2 cd2 ct2 : Value} {f_law_bag : Addr} {od3 an3 : Option Addr} {sl3 : Array (Option Value)} {oc3 kV3 dc3 pm3 cd3 ct3 : Value} {f_law_boxes_v : Addr} {od4 an4 : Option Addr} {sl4 : Array (Option Value)} {oc4 kV4 dc4 pm4 cd4 ct4 : Value} {f_law_mixed : Addr} {od5 an5 : Option Addr} {sl5 : Array (Option Value)} {oc5 kV5 dc5 pm5 cd5 ct5 : Value} {f_law_names : Addr} {od6 an6 : Option Addr} {sl6 : Array (Option Value)} {oc6 kV6 dc6 pm6 cd6 ct6 : Value} {f_law_term : Addr} {od7 an7 : Option Addr} {sl7 : Array (Option Value)} {oc7 kV7 dc7 pm7 cd7 ct7 : Value} {f_law_part : Addr} {od8 an8 : Option Addr} {sl8 : Array (Option Value)} {oc8 kV8 dc8 pm8 cd8 ct8 : Value} {f_law_parts : Addr} {od9 an9 : Option Addr} {sl9 : Array (Option Value)} {oc9 kV9 dc9 pm9 cd9 ct9 : Value} {f_law_same : Addr} {od10 an10 : Option Addr} {sl10 : Array (Option Value)} {oc10 kV10 dc10 pm10 cd10 ct10 : Value} {f_law_use : Addr} {od11 an11 : Option Addr} {sl11 : Array (Option Value)} {oc11 kV11 dc11 pm11 cd11 ct11 : Value} {f_Words___init : Addr} {od12 an12 : Option Addr} {sl12 : Array (Option Value)} {oc12 kV12 dc12 pm12 cd12 ct12 : Value} {f_Words_here : Addr} {od13 an13 : Option Addr} {sl13 : Array (Option Value)} {oc13 kV13 dc13 pm13 cd13 ct13 : Value} {f_Words_take : Addr} {od14 an14 : Option Addr} {sl14 : Array (Option Value)} {oc14 kV14 dc14 pm14 cd14 ct14 : Value} {f_is_name : Addr} {od15 an15 : Option Addr} {sl15 : Array (Option Value)} {oc15 kV15 dc15 pm15 cd15 ct15 : Value} {f_Words_take_name : Addr} {od16 an16 : Option Addr} {sl16 : Array (Option Value)} {oc16 kV16 dc16 pm16 cd16 ct16 : Value} {f_Words_take_names : Addr} {od17 an17 : Option Addr} {sl17 : Array (Option Value)} {oc17 kV17 dc17 pm17 cd17 ct17 : Value} {f_number_in : Addr} {od18 an18 : Option Addr} {sl18 : Array (Option Value)} {oc18 kV18 dc18 pm18 cd18 ct18 : Value} {f_Words_take_number : Addr} {od19 an19 : Option Addr} {sl19 : Array (Option Value)} {oc19 kV19 dc19 pm19 cd19 ct19 : Value} {f_Words_take_term : Addr} {od20 an20 : Option Addr} {sl20 : Array (Option Value)} {oc20 kV20 dc20 pm20 cd20 ct20 : Value} {f_Words_take_terms : Addr} {od21 an21 : Option Addr} {sl21 : Array (Option Value)} {oc21 kV21 dc21 pm21 cd21 ct21 : Value} {f_Words_take_part : Addr} {od22 an22 : Option Addr} {sl22 : Array (Option Value)} {oc22 kV22 dc22 pm22 cd22 ct22 : Value} {f_Words_take_net : Addr} {od23 an23 : Option Addr} {sl23 : Array (Option Value)} {oc23 kV23 dc23 pm23 cd23 ct23 : Value} {f_read_net : Addr} {od24 an24 : Option Addr} {sl24 : Array (Option Value)} {oc24 kV24 dc24 pm24 cd24 ct24 : Value} {f_term_words : Addr} {od25 an25 : Option Addr} {sl25 : Array (Option Value)} {oc25 kV25 dc25 pm25 cd25 ct25 : Value} {f_part_words : Addr} {od26 an26 : Option Addr} {sl26 : Array (Option Value)} {oc26 kV26 dc26 pm26 cd26 ct26 : Value} {f_text_of : Addr} {od27 an27 : Option Addr} {sl27 : Array (Option Value)} {oc27 kV27 dc27 pm27 cd27 ct27 : Value} {f_law : Addr} {t_DELAY : Tok} {t_FACTOR : Tok} {t_LETTERS : Tok} {E_ENDS : Addr} {es_ENDS : Array DictEntry} {nn_ENDS : Nat} {t_ENDS_0 : Tok} {t_ENDS_1 : Tok} {t_ENDS_2 : Tok} {t_ENDS_3 : Tok}
    (aC_Words : PySem.W.nsIn K mainGlobals "Words" = some (some (.ref C_Words)))
    (pg_Words : PySem.W.plainGet K C_Words Str.empty = true)
    (hd_Words : PySem.W.hasDictIn K C_Words = true)
    (po_Words : PySem.W.plainOver K C_Words = true)
    (sa_Words : PySem.W.findIn K (.ref C_Words) "__setattr__" = some (some (.builtin "object.__setattr__")))
    (mk_Words : PySem.W.makesIn K C_Words = true)
    (kc_Words : PySem.W.keepIn K (.ref C_Words) = true)
    (nf_Words_spot : PySem.W.findIn K (.ref C_Words) "spot" = some none)
    (nf_Words_words : PySem.W.findIn K (.ref C_Words) "words" = some none)
    (a0 : PySem.W.nsIn K mainGlobals "_law_pull" = some (some (.ref f_law_pull)))
    (l0 : K.lookup f_law_pull = some ⟨oc0, od0, .func (PySem.W.fnOf "_law_pull" "_law_pull" (defArgs s_law_pull) (defBody s_law_pull) (defScope s_law_pull) .none kV0 dc0 pm0 an0 cd0 ct0), sl0⟩)
    (c0 : PySem.W.codeIn K cd0 "_law_pull" = true)
    (k0 : PySem.W.keepIn K (.ref f_law_pull) = true)
    (a1 : PySem.W.nsIn K mainGlobals "_law_any" = some (some (.ref f_law_any)))
    (l1 : K.lookup f_law_any = some ⟨oc1, od1, .func (PySem.W.fnOf "_law_any" "_law_any" (defArgs s_law_any) (defBody s_law_any) (defScope s_law_any) .none kV1 dc1 pm1 an1 cd1 ct1), sl1⟩)
    (c1 : PySem.W.codeIn K cd1 "_law_any" = true)
    (k1 : PySem.W.keepIn K (.ref f_law_any) = true)
    (a2 : PySem.W.nsIn K mainGlobals "_law_bag" = some (some (.ref f_law_bag)))
    (l2 : K.lookup f_law_bag = some ⟨oc2, od2, .func (PySem.W.fnOf "_law_bag" "_law_bag" (defArgs s_law_bag) (defBody s_law_bag) (defScope s_law_bag) .none kV2 dc2 pm2 an2 cd2 ct2), sl2⟩)
    (c2 : PySem.W.codeIn K cd2 "_law_bag" = true)
    (k2 : PySem.W.keepIn K (.ref f_law_bag) = true)
    (a3 : PySem.W.nsIn K mainGlobals "_law_boxes" = some (some (.ref f_law_boxes_v)))
    (l3 : K.lookup f_law_boxes_v = some ⟨oc3, od3, .func (PySem.W.fnOf "_law_boxes" "_law_boxes" (defArgs s_law_boxes_v) (defBody s_law_boxes_v) (defScope s_law_boxes_v) .none kV3 dc3 pm3 an3 cd3 ct3), sl3⟩)
    (c3 : PySem.W.codeIn K cd3 "_law_boxes" = true)
    (k3 : PySem.W.keepIn K (.ref f_law_boxes_v) = true)
    (a4 : PySem.W.nsIn K mainGlobals "_law_mixed" = some (some (.ref f_law_mixed)))
    (l4 : K.lookup f_law_mixed = some ⟨oc4, od4, .func (PySem.W.fnOf "_law_mixed" "_law_mixed" (defArgs s_law_mixed) (defBody s_law_mixed) (defScope s_law_mixed) .none kV4 dc4 pm4 an4 cd4 ct4), sl4⟩)
    (c4 : PySem.W.codeIn K cd4 "_law_mixed" = true)
    (k4 : PySem.W.keepIn K (.ref f_law_mixed) = true)
    (a5 : PySem.W.nsIn K mainGlobals "_law_names" = some (some (.ref f_law_names)))
    (l5 : K.lookup f_law_names = some ⟨oc5, od5, .func (PySem.W.fnOf "_law_names" "_law_names" (defArgs s_law_names) (defBody s_law_names) (defScope s_law_names) .none kV5 dc5 pm5 an5 cd5 ct5), sl5⟩)
    (c5 : PySem.W.codeIn K cd5 "_law_names" = true)
    (k5 : PySem.W.keepIn K (.ref f_law_names) = true)
    (a6 : PySem.W.nsIn K mainGlobals "_law_term" = some (some (.ref f_law_term)))
    (l6 : K.lookup f_law_term = some ⟨oc6, od6, .func (PySem.W.fnOf "_law_term" "_law_term" (defArgs s_law_term) (defBody s_law_term) (defScope s_law_term) .none kV6 dc6 pm6 an6 cd6 ct6), sl6⟩)
    (c6 : PySem.W.codeIn K cd6 "_law_term" = true)
    (k6 : PySem.W.keepIn K (.ref f_law_term) = true)
    (a7 : PySem.W.nsIn K mainGlobals "_law_part" = some (some (.ref f_law_part)))
    (l7 : K.lookup f_law_part = some ⟨oc7, od7, .func (PySem.W.fnOf "_law_part" "_law_part" (defArgs s_law_part) (defBody s_law_part) (defScope s_law_part) .none kV7 dc7 pm7 an7 cd7 ct7), sl7⟩)
    (c7 : PySem.W.codeIn K cd7 "_law_part" = true)
    (k7 : PySem.W.keepIn K (.ref f_law_part) = true)
    (a8 : PySem.W.nsIn K mainGlobals "_law_parts" = some (some (.ref f_law_parts)))
    (l8 : K.lookup f_law_parts = some ⟨oc8, od8, .func (PySem.W.fnOf "_law_parts" "_law_parts" (defArgs s_law_parts) (defBody s_law_parts) (defScope s_law_parts) .none kV8 dc8 pm8 an8 cd8 ct8), sl8⟩)
    (c8 : PySem.W.codeIn K cd8 "_law_parts" = true)
    (k8 : PySem.W.keepIn K (.ref f_law_parts) = true)
    (a9 : PySem.W.nsIn K mainGlobals "_law_same" = some (some (.ref f_law_same)))
    (l9 : K.lookup f_law_same = some ⟨oc9, od9, .func (PySem.W.fnOf "_law_same" "_law_same" (defArgs s_law_same) (defBody s_law_same) (defScope s_law_same) .none kV9 dc9 pm9 an9 cd9 ct9), sl9⟩)
    (c9 : PySem.W.codeIn K cd9 "_law_same" = true)
    (k9 : PySem.W.keepIn K (.ref f_law_same) = true)
    (a10 : PySem.W.nsIn K mainGlobals "_law_use" = some (some (.ref f_law_use)))
    (l10 : K.lookup f_law_use = some ⟨oc10, od10, .func (PySem.W.fnOf "_law_use" "_law_use" (defArgs s_law_use) (defBody s_law_use) (defScope s_law_use) .none kV10 dc10 pm10 an10 cd10 ct10), sl10⟩)
    (c10 : PySem.W.codeIn K cd10 "_law_use" = true)
    (k10 : PySem.W.keepIn K (.ref f_law_use) = true)
    (fi_Words___init__ : PySem.W.findIn K (.ref C_Words) "__init__" = some (some (.ref f_Words___init)))
    (fn_Words___init : PySem.W.isFn K (.ref f_Words___init) = true)
    (l11 : K.lookup f_Words___init = some ⟨oc11, od11, .func (PySem.W.fnOf "__init__" "Words.__init__" (defArgs s_Words___init) (defBody s_Words___init) (defScope s_Words___init) .none kV11 dc11 pm11 an11 cd11 ct11), sl11⟩)
    (c11 : PySem.W.codeIn K cd11 "Words.__init__" = true)
    (k11 : PySem.W.keepIn K (.ref f_Words___init) = true)
    (fi_Words_here : PySem.W.findIn K (.ref C_Words) "here" = some (some (.ref f_Words_here)))
    (fn_Words_here : PySem.W.isFn K (.ref f_Words_here) = true)
    (l12 : K.lookup f_Words_here = some ⟨oc12, od12, .func (PySem.W.fnOf "here" "Words.here" (defArgs s_Words_here) (defBody s_Words_here) (defScope s_Words_here) .none kV12 dc12 pm12 an12 cd12 ct12), sl12⟩)
    (c12 : PySem.W.codeIn K cd12 "Words.here" = true)
    (k12 : PySem.W.keepIn K (.ref f_Words_here) = true)
    (fi_Words_take : PySem.W.findIn K (.ref C_Words) "take" = some (some (.ref f_Words_take)))
    (fn_Words_take : PySem.W.isFn K (.ref f_Words_take) = true)
    (l13 : K.lookup f_Words_take = some ⟨oc13, od13, .func (PySem.W.fnOf "take" "Words.take" (defArgs s_Words_take) (defBody s_Words_take) (defScope s_Words_take) .none kV13 dc13 pm13 an13 cd13 ct13), sl13⟩)
    (c13 : PySem.W.codeIn K cd13 "Words.take" = true)
    (k13 : PySem.W.keepIn K (.ref f_Words_take) = true)
    (a14 : PySem.W.nsIn K mainGlobals "is_name" = some (some (.ref f_is_name)))
    (l14 : K.lookup f_is_name = some ⟨oc14, od14, .func (PySem.W.fnOf "is_name" "is_name" (defArgs s_is_name) (defBody s_is_name) (defScope s_is_name) .none kV14 dc14 pm14 an14 cd14 ct14), sl14⟩)
    (c14 : PySem.W.codeIn K cd14 "is_name" = true)
    (k14 : PySem.W.keepIn K (.ref f_is_name) = true)
    (fi_Words_take_name : PySem.W.findIn K (.ref C_Words) "take_name" = some (some (.ref f_Words_take_name)))
    (fn_Words_take_name : PySem.W.isFn K (.ref f_Words_take_name) = true)
    (l15 : K.lookup f_Words_take_name = some ⟨oc15, od15, .func (PySem.W.fnOf "take_name" "Words.take_name" (defArgs s_Words_take_name) (defBody s_Words_take_name) (defScope s_Words_take_name) .none kV15 dc15 pm15 an15 cd15 ct15), sl15⟩)
    (c15 : PySem.W.codeIn K cd15 "Words.take_name" = true)
    (k15 : PySem.W.keepIn K (.ref f_Words_take_name) = true)
    (fi_Words_take_names : PySem.W.findIn K (.ref C_Words) "take_names" = some (some (.ref f_Words_take_names)))
    (fn_Words_take_names : PySem.W.isFn K (.ref f_Words_take_names) = true)
    (l16 : K.lookup f_Words_take_names = some ⟨oc16, od16, .func (PySem.W.fnOf "take_names" "Words.take_names" (defArgs s_Words_take_names) (defBody s_Words_take_names) (defScope s_Words_take_names) .none kV16 dc16 pm16 an16 cd16 ct16), sl16⟩)
    (c16 : PySem.W.codeIn K cd16 "Words.take_names" = true)
    (k16 : PySem.W.keepIn K (.ref f_Words_take_names) = true)
    (a17 : PySem.W.nsIn K mainGlobals "number_in" = some (some (.ref f_number_in)))
    (l17 : K.lookup f_number_in = some ⟨oc17, od17, .func (PySem.W.fnOf "number_in" "number_in" (defArgs s_number_in) (defBody s_number_in) (defScope s_number_in) .none kV17 dc17 pm17 an17 cd17 ct17), sl17⟩)
    (c17 : PySem.W.codeIn K cd17 "number_in" = true)
    (k17 : PySem.W.keepIn K (.ref f_number_in) = true)
    (fi_Words_take_number : PySem.W.findIn K (.ref C_Words) "take_number" = some (some (.ref f_Words_take_number)))
    (fn_Words_take_number : PySem.W.isFn K (.ref f_Words_take_number) = true)
    (l18 : K.lookup f_Words_take_number = some ⟨oc18, od18, .func (PySem.W.fnOf "take_number" "Words.take_number" (defArgs s_Words_take_number) (defBody s_Words_take_number) (defScope s_Words_take_number) .none kV18 dc18 pm18 an18 cd18 ct18), sl18⟩)
    (c18 : PySem.W.codeIn K cd18 "Words.take_number" = true)
    (k18 : PySem.W.keepIn K (.ref f_Words_take_number) = true)
    (fi_Words_take_term : PySem.W.findIn K (.ref C_Words) "take_term" = some (some (.ref f_Words_take_term)))
    (fn_Words_take_term : PySem.W.isFn K (.ref f_Words_take_term) = true)
    (l19 : K.lookup f_Words_take_term = some ⟨oc19, od19, .func (PySem.W.fnOf "take_term" "Words.take_term" (defArgs s_Words_take_term) (defBody s_Words_take_term) (defScope s_Words_take_term) .none kV19 dc19 pm19 an19 cd19 ct19), sl19⟩)
    (c19 : PySem.W.codeIn K cd19 "Words.take_term" = true)
    (k19 : PySem.W.keepIn K (.ref f_Words_take_term) = true)
    (fi_Words_take_terms : PySem.W.findIn K (.ref C_Words) "take_terms" = some (some (.ref f_Words_take_terms)))
    (fn_Words_take_terms : PySem.W.isFn K (.ref f_Words_take_terms) = true)
    (l20 : K.lookup f_Words_take_terms = some ⟨oc20, od20, .func (PySem.W.fnOf "take_terms" "Words.take_terms" (defArgs s_Words_take_terms) (defBody s_Words_take_terms) (defScope s_Words_take_terms) .none kV20 dc20 pm20 an20 cd20 ct20), sl20⟩)
    (c20 : PySem.W.codeIn K cd20 "Words.take_terms" = true)
    (k20 : PySem.W.keepIn K (.ref f_Words_take_terms) = true)
    (fi_Words_take_part : PySem.W.findIn K (.ref C_Words) "take_part" = some (some (.ref f_Words_take_part)))
    (fn_Words_take_part : PySem.W.isFn K (.ref f_Words_take_part) = true)
    (l21 : K.lookup f_Words_take_part = some ⟨oc21, od21, .func (PySem.W.fnOf "take_part" "Words.take_part" (defArgs s_Words_take_part) (defBody s_Words_take_part) (defScope s_Words_take_part) .none kV21 dc21 pm21 an21 cd21 ct21), sl21⟩)
    (c21 : PySem.W.codeIn K cd21 "Words.take_part" = true)
    (k21 : PySem.W.keepIn K (.ref f_Words_take_part) = true)
    (fi_Words_take_net : PySem.W.findIn K (.ref C_Words) "take_net" = some (some (.ref f_Words_take_net)))
    (fn_Words_take_net : PySem.W.isFn K (.ref f_Words_take_net) = true)
    (l22 : K.lookup f_Words_take_net = some ⟨oc22, od22, .func (PySem.W.fnOf "take_net" "Words.take_net" (defArgs s_Words_take_net) (defBody s_Words_take_net) (defScope s_Words_take_net) .none kV22 dc22 pm22 an22 cd22 ct22), sl22⟩)
    (c22 : PySem.W.codeIn K cd22 "Words.take_net" = true)
    (k22 : PySem.W.keepIn K (.ref f_Words_take_net) = true)
    (a23 : PySem.W.nsIn K mainGlobals "read_net" = some (some (.ref f_read_net)))
    (l23 : K.lookup f_read_net = some ⟨oc23, od23, .func (PySem.W.fnOf "read_net" "read_net" (defArgs s_read_net) (defBody s_read_net) (defScope s_read_net) .none kV23 dc23 pm23 an23 cd23 ct23), sl23⟩)
    (c23 : PySem.W.codeIn K cd23 "read_net" = true)
    (k23 : PySem.W.keepIn K (.ref f_read_net) = true)
    (a24 : PySem.W.nsIn K mainGlobals "term_words" = some (some (.ref f_term_words)))
    (l24 : K.lookup f_term_words = some ⟨oc24, od24, .func (PySem.W.fnOf "term_words" "term_words" (defArgs s_term_words) (defBody s_term_words) (defScope s_term_words) .none kV24 dc24 pm24 an24 cd24 ct24), sl24⟩)
    (c24 : PySem.W.codeIn K cd24 "term_words" = true)
    (k24 : PySem.W.keepIn K (.ref f_term_words) = true)
    (a25 : PySem.W.nsIn K mainGlobals "part_words" = some (some (.ref f_part_words)))
    (l25 : K.lookup f_part_words = some ⟨oc25, od25, .func (PySem.W.fnOf "part_words" "part_words" (defArgs s_part_words) (defBody s_part_words) (defScope s_part_words) .none kV25 dc25 pm25 an25 cd25 ct25), sl25⟩)
    (c25 : PySem.W.codeIn K cd25 "part_words" = true)
    (k25 : PySem.W.keepIn K (.ref f_part_words) = true)
    (a26 : PySem.W.nsIn K mainGlobals "text_of" = some (some (.ref f_text_of)))
    (l26 : K.lookup f_text_of = some ⟨oc26, od26, .func (PySem.W.fnOf "text_of" "text_of" (defArgs s_text_of) (defBody s_text_of) (defScope s_text_of) .none kV26 dc26 pm26 an26 cd26 ct26), sl26⟩)
    (c26 : PySem.W.codeIn K cd26 "text_of" = true)
    (k26 : PySem.W.keepIn K (.ref f_text_of) = true)
    (a27 : PySem.W.nsIn K mainGlobals "law" = some (some (.ref f_law)))
    (l27 : K.lookup f_law = some ⟨oc27, od27, .func (PySem.W.fnOf "law" "law" (defArgs s_law) (defBody s_law) (defScope s_law) .none kV27 dc27 pm27 an27 cd27 ct27), sl27⟩)
    (c27 : PySem.W.codeIn K cd27 "law" = true)
    (k27 : PySem.W.keepIn K (.ref f_law) = true)
    (z_all : PySem.W.nsIn K mainGlobals "all" = some none)
    (z_bool : PySem.W.nsIn K mainGlobals "bool" = some none)
    (z_enumerate : PySem.W.nsIn K mainGlobals "enumerate" = some none)
    (z_int : PySem.W.nsIn K mainGlobals "int" = some none)
    (z_isinstance : PySem.W.nsIn K mainGlobals "isinstance" = some none)
    (z_len : PySem.W.nsIn K mainGlobals "len" = some none)
    (z_list : PySem.W.nsIn K mainGlobals "list" = some none)
    (z_max : PySem.W.nsIn K mainGlobals "max" = some none)
    (z_range : PySem.W.nsIn K mainGlobals "range" = some none)
    (z_str : PySem.W.nsIn K mainGlobals "str" = some none)
    (z_tuple : PySem.W.nsIn K mainGlobals "tuple" = some none)
    (z_zip : PySem.W.nsIn K mainGlobals "zip" = some none)
    (y_DELAY : PySem.W.nsIn K mainGlobals "DELAY" = some (some (.int 4 t_DELAY)))
    (y_FACTOR : PySem.W.nsIn K mainGlobals "FACTOR" = some (some (.int 99 t_FACTOR)))
    (y_LETTERS : PySem.W.nsIn K mainGlobals "LETTERS" = some (some (.str "abcdefghijklmnopqrstuvwxyz" t_LETTERS)))
    (y_ENDS : PySem.W.nsIn K mainGlobals "ENDS" = some (some (.ref E_ENDS)))
    (lk_ENDS : K.lookup E_ENDS = some ⟨.type "dict", none, .dict es_ENDS nn_ENDS, #[]⟩)
    (kl_ENDS : PySem.W.KeysLit w.params es_ENDS.toList)
    (sy_ENDS : (E_ENDS == sysModules) = false)
    (kv_ENDS_0 : PySem.W.nsIn K E_ENDS "plain" = some (some (.int 1 t_ENDS_0)))
    (kv_ENDS_1 : PySem.W.nsIn K E_ENDS "odd" = some (some (.int 1 t_ENDS_1)))
    (kv_ENDS_2 : PySem.W.nsIn K E_ENDS "keep" = some (some (.int 1 t_ENDS_2)))
    (kv_ENDS_3 : PySem.W.nsIn K E_ENDS "pair" = some (some (.int 2 t_ENDS_3))) :
    ∃ fd : FuncData, (∀ (s : Shared) (v : Value), BindsTo s fd ⟨[v], []⟩ [("_law_script", v)]) ∧ ∀ base : Heap, K.In base → base.Ns mainGlobals mg → FnOk l.prog w K mg base (L2.CX l.prog w) 10 fa fd ["_law_script"] (fun vs H Q E => ∀ (ct : Nat → Option Addr) (lay : Nat → List Str), spF ⟨K, ct, lay⟩ 1 F_law vs H Q E) := by
  have e := hfa.symm.trans (PySem.W.mg_of X G a27)
  cases e
  let T : Tx := ⟨K, fun n => ([C_Words] : List Addr)[n]?, fun n => ([["words", "spot"]] : List (List Str)).getD n []⟩
  have n_all := PySem.W.mg_none_of X G z_all
  have n_bool := PySem.W.mg_none_of X G z_bool
  have n_enumerate := PySem.W.mg_none_of X G z_enumerate
  have n_int := PySem.W.mg_none_of X G z_int
  have n_isinstance := PySem.W.mg_none_of X G z_isinstance
  have n_len := PySem.W.mg_none_of X G z_len
  have n_list := PySem.W.mg_none_of X G z_list
  have n_max := PySem.W.mg_none_of X G z_max
  have n_range := PySem.W.mg_none_of X G z_range
  have n_str := PySem.W.mg_none_of X G z_str
  have n_tuple := PySem.W.mg_none_of X G z_tuple
  have n_zip := PySem.W.mg_none_of X G z_zip
  have m_DELAY := PySem.W.mg_of X G y_DELAY
  have m_FACTOR := PySem.W.mg_of X G y_FACTOR
  have m_LETTERS := PySem.W.mg_of X G y_LETTERS
  have m_ENDS := PySem.W.mg_of X G y_ENDS
  have s_ENDS := sy_ENDS
  have kd_ENDS : ∀ q ∈ ([([112, 108, 97, 105, 110], 1), ([111, 100, 100], 1), ([107, 101, 101, 112], 1), ([112, 97, 105, 114], 2)] : List (List Nat × Int)), KDct K w E_ENDS ⟨q.1.toArray⟩ (.int q.2) := (row_cons (kdct_of "plain" [112, 108, 97, 105, 110] (by decide +kernel) lk_ENDS kl_ENDS kv_ENDS_0) (row_cons (kdct_of "odd" [111, 100, 100] (by decide +kernel) lk_ENDS kl_ENDS kv_ENDS_1) (row_cons (kdct_of "keep" [107, 101, 101, 112] (by decide +kernel) lk_ENDS kl_ENDS kv_ENDS_2) (row_cons (kdct_of "pair" [112, 97, 105, 114] (by decide +kernel) lk_ENDS kl_ENDS kv_ENDS_3) row_nil))))
  have mC_Words := PySem.W.mg_of X G aC_Words
  have cl_Words : Cls K C_Words := ⟨pg_Words, hd_Words, po_Words, sa_Words⟩
  have m_law_pull := PySem.W.mg_of X G a0
  have k_law_pull := k0
  have D_law_pull : Fun T.K "_law_pull" "_law_pull" s_law_pull _ _ := fun_mk (st := s_law_pull) l0 c0 k0
  have b_law_pull := D_law_pull.binds (ps := ["_law_bag_here", "_law_many"]) fun _ _ _ _ _ _ us hl => match us, hl with | [_, _], _ => rfl
  have m_law_any := PySem.W.mg_of X G a1
  have k_law_any := k1
  have D_law_any : Fun T.K "_law_any" "_law_any" s_law_any _ _ := fun_mk (st := s_law_any) l1 c1 k1
  have b_law_any := D_law_any.binds (ps := ["_law_bag_here", "_law_things"]) fun _ _ _ _ _ _ us hl => match us, hl with | [_, _], _ => rfl
  have m_law_bag := PySem.W.mg_of X G a2
  have k_law_bag := k2
  have D_law_bag : Fun T.K "_law_bag" "_law_bag" s_law_bag _ _ := fun_mk (st := s_law_bag) l2 c2 k2
  have b_law_bag := D_law_bag.binds (ps := ["_law_script"]) fun _ _ _ _ _ _ us hl => match us, hl with | [_], _ => rfl
  have m_law_boxes_v := PySem.W.mg_of X G a3
  have k_law_boxes_v := k3
  have D_law_boxes_v : Fun T.K "_law_boxes" "_law_boxes" s_law_boxes_v _ _ := fun_mk (st := s_law_boxes_v) l3 c3 k3
  have b_law_boxes_v := D_law_boxes_v.binds (ps := ["_law_bag_here", "_law_words"]) fun _ _ _ _ _ _ us hl => match us, hl with | [_, _], _ => rfl
  have m_law_mixed := PySem.W.mg_of X G a4
  have k_law_mixed := k4
  have D_law_mixed : Fun T.K "_law_mixed" "_law_mixed" s_law_mixed _ _ := fun_mk (st := s_law_mixed) l4 c4 k4
  have b_law_mixed := D_law_mixed.binds (ps := ["_law_bag_here", "_law_things"]) fun _ _ _ _ _ _ us hl => match us, hl with | [_, _], _ => rfl
  have m_law_names := PySem.W.mg_of X G a5
  have k_law_names := k5
  have D_law_names : Fun T.K "_law_names" "_law_names" s_law_names _ _ := fun_mk (st := s_law_names) l5 c5 k5
  have b_law_names := D_law_names.binds (ps := ["_law_bag_here", "_law_many"]) fun _ _ _ _ _ _ us hl => match us, hl with | [_, _], _ => rfl
  have m_law_term := PySem.W.mg_of X G a6
  have k_law_term := k6
  have D_law_term : Fun T.K "_law_term" "_law_term" s_law_term _ _ := fun_mk (st := s_law_term) l6 c6 k6
  have b_law_term := D_law_term.binds (ps := ["_law_bag_here", "_law_earlier", "_law_every"]) fun _ _ _ _ _ _ us hl => match us, hl with | [_, _, _], _ => rfl
  have m_law_part := PySem.W.mg_of X G a7
  have k_law_part := k7
  have D_law_part : Fun T.K "_law_part" "_law_part" s_law_part _ _ := fun_mk (st := s_law_part) l7 c7 k7
  have b_law_part := D_law_part.binds (ps := ["_law_bag_here", "_law_wire", "_law_earlier", "_law_every", "_law_boxes_here"]) fun _ _ _ _ _ _ us hl => match us, hl with | [_, _, _, _, _], _ => rfl
  have m_law_parts := PySem.W.mg_of X G a8
  have k_law_parts := k8
  have D_law_parts : Fun T.K "_law_parts" "_law_parts" s_law_parts _ _ := fun_mk (st := s_law_parts) l8 c8 k8
  have b_law_parts := D_law_parts.binds (ps := ["_law_bag_here", "_law_wires", "_law_sources", "_law_boxes_here"]) fun _ _ _ _ _ _ us hl => match us, hl with | [_, _, _, _], _ => rfl
  have m_law_same := PySem.W.mg_of X G a9
  have k_law_same := k9
  have D_law_same : Fun T.K "_law_same" "_law_same" s_law_same _ _ := fun_mk (st := s_law_same) l9 c9 k9
  have b_law_same := D_law_same.binds (ps := ["_law_found", "_law_due"]) fun _ _ _ _ _ _ us hl => match us, hl with | [_, _], _ => rfl
  have m_law_use := PySem.W.mg_of X G a10
  have k_law_use := k10
  have D_law_use : Fun T.K "_law_use" "_law_use" s_law_use _ _ := fun_mk (st := s_law_use) l10 c10 k10
  have b_law_use := D_law_use.binds (ps := ["_law_bag_here", "_law_wire", "_law_words"]) fun _ _ _ _ _ _ us hl => match us, hl with | [_, _, _], _ => rfl
  have k_Words___init := k11
  have D_Words___init : Fun T.K "__init__" "Words.__init__" s_Words___init _ _ := fun_mk (st := s_Words___init) l11 c11 k11
  have b_Words___init := D_Words___init.binds (ps := ["self", "text"]) fun _ _ _ _ _ _ us hl => match us, hl with | [_, _], _ => rfl
  have k_Words_here := k12
  have D_Words_here : Fun T.K "here" "Words.here" s_Words_here _ _ := fun_mk (st := s_Words_here) l12 c12 k12
  have b_Words_here := D_Words_here.binds (ps := ["self"]) fun _ _ _ _ _ _ us hl => match us, hl with | [_], _ => rfl
  have k_Words_take := k13
  have D_Words_take : Fun T.K "take" "Words.take" s_Words_take _ _ := fun_mk (st := s_Words_take) l13 c13 k13
  have b_Words_take := D_Words_take.binds (ps := ["self", "good"]) fun _ _ _ _ _ _ us hl => match us, hl with | [_, _], _ => rfl
  have m_is_name := PySem.W.mg_of X G a14
  have k_is_name := k14
  have D_is_name : Fun T.K "is_name" "is_name" s_is_name _ _ := fun_mk (st := s_is_name) l14 c14 k14
  have b_is_name := D_is_name.binds (ps := ["value"]) fun _ _ _ _ _ _ us hl => match us, hl with | [_], _ => rfl
  have k_Words_take_name := k15
  have D_Words_take_name : Fun T.K "take_name" "Words.take_name" s_Words_take_name _ _ := fun_mk (st := s_Words_take_name) l15 c15 k15
  have b_Words_take_name := D_Words_take_name.binds (ps := ["self"]) fun _ _ _ _ _ _ us hl => match us, hl with | [_], _ => rfl
  have k_Words_take_names := k16
  have D_Words_take_names : Fun T.K "take_names" "Words.take_names" s_Words_take_names _ _ := fun_mk (st := s_Words_take_names) l16 c16 k16
  have b_Words_take_names := D_Words_take_names.binds (ps := ["self", "most"]) fun _ _ _ _ _ _ us hl => match us, hl with | [_, _], _ => rfl
  have m_number_in := PySem.W.mg_of X G a17
  have k_number_in := k17
  have D_number_in : Fun T.K "number_in" "number_in" s_number_in _ _ := fun_mk (st := s_number_in) l17 c17 k17
  have b_number_in := D_number_in.binds (ps := ["word", "least", "most"]) fun _ _ _ _ _ _ us hl => match us, hl with | [_, _, _], _ => rfl
  have k_Words_take_number := k18
  have D_Words_take_number : Fun T.K "take_number" "Words.take_number" s_Words_take_number _ _ := fun_mk (st := s_Words_take_number) l18 c18 k18
  have b_Words_take_number := D_Words_take_number.binds (ps := ["self", "least", "most"]) fun _ _ _ _ _ _ us hl => match us, hl with | [_, _, _], _ => rfl
  have k_Words_take_term := k19
  have D_Words_take_term : Fun T.K "take_term" "Words.take_term" s_Words_take_term _ _ := fun_mk (st := s_Words_take_term) l19 c19 k19
  have b_Words_take_term := D_Words_take_term.binds (ps := ["self"]) fun _ _ _ _ _ _ us hl => match us, hl with | [_], _ => rfl
  have k_Words_take_terms := k20
  have D_Words_take_terms : Fun T.K "take_terms" "Words.take_terms" s_Words_take_terms _ _ := fun_mk (st := s_Words_take_terms) l20 c20 k20
  have b_Words_take_terms := D_Words_take_terms.binds (ps := ["self"]) fun _ _ _ _ _ _ us hl => match us, hl with | [_], _ => rfl
  have k_Words_take_part := k21
  have D_Words_take_part : Fun T.K "take_part" "Words.take_part" s_Words_take_part _ _ := fun_mk (st := s_Words_take_part) l21 c21 k21
  have b_Words_take_part := D_Words_take_part.binds (ps := ["self"]) fun _ _ _ _ _ _ us hl => match us, hl with | [_], _ => rfl
  have k_Words_take_net := k22
  have D_Words_take_net : Fun T.K "take_net" "Words.take_net" s_Words_take_net _ _ := fun_mk (st := s_Words_take_net) l22 c22 k22
  have b_Words_take_net := D_Words_take_net.binds (ps := ["self"]) fun _ _ _ _ _ _ us hl => match us, hl with | [_], _ => rfl
  have m_read_net := PySem.W.mg_of X G a23
  have k_read_net := k23
  have D_read_net : Fun T.K "read_net" "read_net" s_read_net _ _ := fun_mk (st := s_read_net) l23 c23 k23
  have b_read_net := D_read_net.binds (ps := ["text"]) fun _ _ _ _ _ _ us hl => match us, hl with | [_], _ => rfl
  have m_term_words := PySem.W.mg_of X G a24
  have k_term_words := k24
  have D_term_words : Fun T.K "term_words" "term_words" s_term_words _ _ := fun_mk (st := s_term_words) l24 c24 k24
  have b_term_words := D_term_words.binds (ps := ["term"]) fun _ _ _ _ _ _ us hl => match us, hl with | [_], _ => rfl
  have m_part_words := PySem.W.mg_of X G a25
  have k_part_words := k25
  have D_part_words : Fun T.K "part_words" "part_words" s_part_words _ _ := fun_mk (st := s_part_words) l25 c25 k25
  have b_part_words := D_part_words.binds (ps := ["part"]) fun _ _ _ _ _ _ us hl => match us, hl with | [_], _ => rfl
  have m_text_of := PySem.W.mg_of X G a26
  have k_text_of := k26
  have D_text_of : Fun T.K "text_of" "text_of" s_text_of _ _ := fun_mk (st := s_text_of) l26 c26 k26
  have b_text_of := D_text_of.binds (ps := ["parts", "outs"]) fun _ _ _ _ _ _ us hl => match us, hl with | [_, _], _ => rfl
  have m_law := PySem.W.mg_of X G a27
  have k_law := k27
  have D_law : Fun T.K "law" "law" s_law _ _ := fun_mk (st := s_law) l27 c27 k27
  have b_law := D_law.binds (ps := ["_law_script"]) fun _ _ _ _ _ _ us hl => match us, hl with | [_], _ => rfl
  have kb_read_net_0 := kb_of (ps := ["text"]) (ks := ["text"]) (n := 0) (p := [0]) D_read_net fun _ _ _ _ _ _ us ws hu hw => match us, hu, ws, hw with | [], _, [_], _ => rfl
  have fo_spot : ∀ p ∈ ([(0, 1)] : List (Nat × Nat)), FldOk T "spot" p.1 p.2 := (row_cons (fldOk_of (l := ["words", "spot"]) rfl (by decide +kernel) fun C e => by cases (show some C_Words = some C from e); exact ⟨cl_Words, nf_Words_spot⟩) row_nil)
  have sf_spot : ∀ p ∈ ([(0, 1)] : List (Nat × Nat)), FldOk T "spot" p.1 p.2 ∧ (T.lay p.1).length < 1000 := (row_cons ⟨(fldOk_of (l := ["words", "spot"]) rfl (by decide +kernel) fun C e => by cases (show some C_Words = some C from e); exact ⟨cl_Words, nf_Words_spot⟩), (show (["words", "spot"] : List Str).length < 1000 from by decide)⟩ row_nil)
  have fo_words : ∀ p ∈ ([(0, 0)] : List (Nat × Nat)), FldOk T "words" p.1 p.2 := (row_cons (fldOk_of (l := ["words", "spot"]) rfl (by decide +kernel) fun C e => by cases (show some C_Words = some C from e); exact ⟨cl_Words, nf_Words_words⟩) row_nil)
  have sf_words : ∀ p ∈ ([(0, 0)] : List (Nat × Nat)), FldOk T "words" p.1 p.2 ∧ (T.lay p.1).length < 1000 := (row_cons ⟨(fldOk_of (l := ["words", "spot"]) rfl (by decide +kernel) fun C e => by cases (show some C_Words = some C from e); exact ⟨cl_Words, nf_Words_words⟩), (show (["words", "spot"] : List Str).length < 1000 from by decide)⟩ row_nil)
  refine ⟨PySem.W.fnOf "law" "law" (defArgs s_law) (defBody s_law) (defScope s_law) .none kV27 dc27 pm27 an27 cd27 ct27, fun s v => .of_eq rfl, fun base _ _ => ?_⟩
  have O_law_pull := ok_law_pull (P := l.prog) (w := w) (mg := mg) (base := base) (T := T) D_law_pull n_int n_len
  have O_law_any := ok_law_any (P := l.prog) (w := w) (mg := mg) (base := base) (T := T) D_law_any n_len O_law_pull m_law_pull k_law_pull b_law_pull
  have O_law_bag := ok_law_bag (P := l.prog) (w := w) (mg := mg) (base := base) (T := T) D_law_bag n_len n_list
  have O_law_boxes_v := ok_law_boxes_v (P := l.prog) (w := w) (mg := mg) (base := base) (T := T) D_law_boxes_v O_law_any m_law_any k_law_any b_law_any
  have O_law_mixed := ok_law_mixed (P := l.prog) (w := w) (mg := mg) (base := base) (T := T) D_law_mixed n_len O_law_pull m_law_pull k_law_pull b_law_pull
  have O_law_names := ok_law_names (P := l.prog) (w := w) (mg := mg) (base := base) (T := T) D_law_names n_int n_len n_range O_law_any m_law_any k_law_any b_law_any O_law_pull m_law_pull k_law_pull b_law_pull
  have O_law_term := ok_law_term (P := l.prog) (w := w) (mg := mg) (base := base) (T := T) D_law_term n_max O_law_any m_law_any k_law_any b_law_any O_law_pull m_law_pull k_law_pull b_law_pull
  have O_law_part := ok_law_part (P := l.prog) (w := w) (mg := mg) (base := base) (T := T) D_law_part n_range n_tuple O_law_any m_law_any k_law_any b_law_any O_law_pull m_law_pull k_law_pull b_law_pull O_law_term m_law_term k_law_term b_law_term
  have O_law_parts := ok_law_parts (P := l.prog) (w := w) (mg := mg) (base := base) (T := T) D_law_parts n_len n_range O_law_part m_law_part k_law_part b_law_part
  have O_law_same := ok_law_same (P := l.prog) (w := w) (mg := mg) (base := base) (T := T) D_law_same n_all n_bool n_int n_isinstance n_len n_list n_str n_tuple n_zip m_law_same k_law_same b_law_same
  have O_law_use := ok_law_use (P := l.prog) (w := w) (mg := mg) (base := base) (T := T) D_law_use n_range n_tuple O_law_any m_law_any k_law_any b_law_any O_law_pull m_law_pull k_law_pull b_law_pull
  have O_Words___init := ok_Words___init (P := l.prog) (w := w) (mg := mg) (base := base) (T := T) D_Words___init sf_spot sf_words
  have O_Words_here := ok_Words_here (P := l.prog) (w := w) (mg := mg) (base := base) (T := T) D_Words_here n_len fo_spot fo_words
  have M_0_here : MethOk T l.prog w mg base 1 "here" 0 1 F_Words_here [] := ⟨⟨_, _, _, _, [], [], rfl, cl_Words, ⟨fi_Words_here, fn_Words_here, k_Words_here⟩, O_Words_here, b_Words_here, dfl0⟩, (show ("here" : Str) ∉ (["words", "spot"] : List Str) from by decide +kernel)⟩
  have O_Words_take := ok_Words_take (P := l.prog) (w := w) (mg := mg) (base := base) (T := T) D_Words_take M_0_here sf_spot
  have O_is_name := ok_is_name (P := l.prog) (w := w) (mg := mg) (base := base) (T := T) D_is_name m_LETTERS n_all n_isinstance n_len n_str
  have M_0_take : MethOk T l.prog w mg base 2 "take" 0 2 F_Words_take [] := ⟨⟨_, _, _, _, [], [], rfl, cl_Words, ⟨fi_Words_take, fn_Words_take, k_Words_take⟩, O_Words_take, b_Words_take, dfl0⟩, (show ("take" : Str) ∉ (["words", "spot"] : List Str) from by decide +kernel)⟩
  have O_Words_take_name := ok_Words_take_name (P := l.prog) (w := w) (mg := mg) (base := base) (T := T) D_Words_take_name O_is_name m_is_name k_is_name b_is_name M_0_here M_0_take
  have O_Words_take_names := ok_Words_take_names (P := l.prog) (w := w) (mg := mg) (base := base) (T := T) D_Words_take_names n_len n_tuple O_is_name m_is_name k_is_name b_is_name M_0_here M_0_take
  have O_number_in := ok_number_in (P := l.prog) (w := w) (mg := mg) (base := base) (T := T) D_number_in n_all n_int n_len n_str
  have O_Words_take_number := ok_Words_take_number (P := l.prog) (w := w) (mg := mg) (base := base) (T := T) D_Words_take_number O_number_in m_number_in k_number_in b_number_in M_0_here M_0_take
  have M_0_take_name : MethOk T l.prog w mg base 3 "take_name" 0 1 F_Words_take_name [] := ⟨⟨_, _, _, _, [], [], rfl, cl_Words, ⟨fi_Words_take_name, fn_Words_take_name, k_Words_take_name⟩, O_Words_take_name, b_Words_take_name, dfl0⟩, (show ("take_name" : Str) ∉ (["words", "spot"] : List Str) from by decide +kernel)⟩
  have M_0_take_number : MethOk T l.prog w mg base 3 "take_number" 0 3 F_Words_take_number [] := ⟨⟨_, _, _, _, [], [], rfl, cl_Words, ⟨fi_Words_take_number, fn_Words_take_number, k_Words_take_number⟩, O_Words_take_number, b_Words_take_number, dfl0⟩, (show ("take_number" : Str) ∉ (["words", "spot"] : List Str) from by decide +kernel)⟩
  have O_Words_take_term := ok_Words_take_term (P := l.prog) (w := w) (mg := mg) (base := base) (T := T) D_Words_take_term m_DELAY m_FACTOR M_0_here M_0_take M_0_take_name M_0_take_number
  have M_0_take_term : MethOk T l.prog w mg base 4 "take_term" 0 1 F_Words_take_term [] := ⟨⟨_, _, _, _, [], [], rfl, cl_Words, ⟨fi_Words_take_term, fn_Words_take_term, k_Words_take_term⟩, O_Words_take_term, b_Words_take_term, dfl0⟩, (show ("take_term" : Str) ∉ (["words", "spot"] : List Str) from by decide +kernel)⟩
  have O_Words_take_terms := ok_Words_take_terms (P := l.prog) (w := w) (mg := mg) (base := base) (T := T) D_Words_take_terms m_FACTOR n_len n_tuple O_number_in m_number_in k_number_in b_number_in M_0_here M_0_take M_0_take_term
  have M_0_take_names : MethOk T l.prog w mg base 3 "take_names" 0 2 F_Words_take_names [] := ⟨⟨_, _, _, _, [], [], rfl, cl_Words, ⟨fi_Words_take_names, fn_Words_take_names, k_Words_take_names⟩, O_Words_take_names, b_Words_take_names, dfl0⟩, (show ("take_names" : Str) ∉ (["words", "spot"] : List Str) from by decide +kernel)⟩
  have M_0_take_terms : MethOk T l.prog w mg base 5 "take_terms" 0 1 F_Words_take_terms [] := ⟨⟨_, _, _, _, [], [], rfl, cl_Words, ⟨fi_Words_take_terms, fn_Words_take_terms, k_Words_take_terms⟩, O_Words_take_terms, b_Words_take_terms, dfl0⟩, (show ("take_terms" : Str) ∉ (["words", "spot"] : List Str) from by decide +kernel)⟩
  have O_Words_take_part := ok_Words_take_part (P := l.prog) (w := w) (mg := mg) (base := base) (T := T) D_Words_take_part m_ENDS s_ENDS kd_ENDS n_range M_0_here M_0_take M_0_take_name M_0_take_names M_0_take_terms
  have M_0_take_part : MethOk T l.prog w mg base 6 "take_part" 0 1 F_Words_take_part [] := ⟨⟨_, _, _, _, [], [], rfl, cl_Words, ⟨fi_Words_take_part, fn_Words_take_part, k_Words_take_part⟩, O_Words_take_part, b_Words_take_part, dfl0⟩, (show ("take_part" : Str) ∉ (["words", "spot"] : List Str) from by decide +kernel)⟩
  have O_Words_take_net := ok_Words_take_net (P := l.prog) (w := w) (mg := mg) (base := base) (T := T) D_Words_take_net n_tuple M_0_here M_0_take M_0_take_name M_0_take_names M_0_take_part
  have L_Words : MakeOk T l.prog w mg base 1 "Words" 0 2 F_Words___init [] := ⟨⟨_, _, _, _, [], [], rfl, mC_Words, ⟨mk_Words, fi_Words___init__, fn_Words___init, kc_Words⟩, O_Words___init, b_Words___init, dfl0⟩⟩
  have M_0_take_net : MethOk T l.prog w mg base 7 "take_net" 0 1 F_Words_take_net [] := ⟨⟨_, _, _, _, [], [], rfl, cl_Words, ⟨fi_Words_take_net, fn_Words_take_net, k_Words_take_net⟩, O_Words_take_net, b_Words_take_net, dfl0⟩, (show ("take_net" : Str) ∉ (["words", "spot"] : List Str) from by decide +kernel)⟩
  have O_read_net := ok_read_net (P := l.prog) (w := w) (mg := mg) (base := base) (T := T) D_read_net n_isinstance n_str L_Words M_0_take_net
  have O_term_words := ok_term_words (P := l.prog) (w := w) (mg := mg) (base := base) (T := T) D_term_words n_str
  have O_part_words := ok_part_words (P := l.prog) (w := w) (mg := mg) (base := base) (T := T) D_part_words n_enumerate O_term_words m_term_words k_term_words b_term_words
  have O_text_of := ok_text_of (P := l.prog) (w := w) (mg := mg) (base := base) (T := T) D_text_of O_part_words m_part_words k_part_words b_part_words
  have O_law := ok_law (P := l.prog) (w := w) (mg := mg) (base := base) (T := T) D_law n_range n_tuple O_law_any m_law_any k_law_any b_law_any O_law_bag m_law_bag k_law_bag b_law_bag O_law_boxes_v m_law_boxes_v k_law_boxes_v b_law_boxes_v O_law_mixed m_law_mixed k_law_mixed b_law_mixed O_law_names m_law_names k_law_names b_law_names O_law_parts m_law_parts k_law_parts b_law_parts O_law_pull m_law_pull k_law_pull b_law_pull O_law_same m_law_same k_law_same b_law_same O_law_use m_law_use k_law_use b_law_use O_read_net m_read_net k_read_net b_read_net O_text_of m_text_of k_text_of b_text_of kb_read_net_0
  exact O_law.imp fun vs H Q E q => q _ _

set_option maxHeartbeats 0 in
theorem PySem.Challenge.cw_unopened_k09_whole_texts_read_back_holds : PySem.Challenge.rw_unopened_k09_whole_texts_read_back.Holds := by
  open PySem PySem.W PyProof.Rows in
  (w_on; o_law; k_head; (case hw => w_witness2)
   k_fill
   refine L2.walk_of (l := PySem.Challenge.rw_unopened_k09_whole_texts_read_back) (n := 63) (k := 10) (x := "_law_script") (CX := fun w => L2.CX (PySem.Challenge.rw_unopened_k09_whole_texts_read_back).prog w) (sp := fun w => (fun vs H Q E => ∀ (ct : Nat → Option Addr) (lay : Nat → List Str), spF ⟨_, ct, lay⟩ 1 F_law vs H Q E)) rfl (by decide) rfl ⟨rfl, by decide, by decide⟩ (fun w h Y => PySem.W.kIn_of Y) ?F
     (fun _ _ a ns hl _ hS => (law_ok ns hl).elim fun G e => law_spA hS e) cx_none
   case F =>
     intro w mg fa h KX G hmg
     refine' all_mk KX G hmg ?aC_Words ?pg_Words ?hd_Words ?po_Words ?sa_Words ?mk_Words ?kc_Words ?nf_Words_spot ?nf_Words_words ?a0 ?l0 ?c0 ?k0 ?a1 ?l1 ?c1 ?k1 ?a2 ?l2 ?c2 ?k2 ?a3 ?l3 ?c3 ?k3 ?a4 ?l4 ?c4 ?k4 ?a5 ?l5 ?c5 ?k5 ?a6 ?l6 ?c6 ?k6 ?a7 ?l7 ?c7 ?k7 ?a8 ?l8 ?c8 ?k8 ?a9 ?l9 ?c9 ?k9 ?a10 ?l10 ?c10 ?k10 ?fi_Words___init__ ?fn_Words___init ?l11 ?c11 ?k11 ?fi_Words_here ?fn_Words_here ?l12 ?c12 ?k12 ?fi_Words_take ?fn_Words_take ?l13 ?c13 ?k13 ?a14 ?l14 ?c14 ?k14 ?fi_Words_take_name ?fn_Words_take_name ?l15 ?c15 ?k15 ?fi_Words_take_names ?fn_Words_take_names ?l16 ?c16 ?k16 ?a17 ?l17 ?c17 ?k17 ?fi_Words_take_number ?fn_Words_take_number ?l18 ?c18 ?k18 ?fi_Words_take_term ?fn_Words_take_term ?l19 ?c19 ?k19 ?fi_Words_take_terms ?fn_Words_take_terms ?l20 ?c20 ?k20 ?fi_Words_take_part ?fn_Words_take_part ?l21 ?c21 ?k21 ?fi_Words_take_net ?fn_Words_take_net ?l22 ?c22 ?k22 ?a23 ?l23 ?c23 ?k23 ?a24 ?l24 ?c24 ?k24 ?a25 ?l25 ?c25 ?k25 ?a26 ?l26 ?c26 ?k26 ?a27 ?l27 ?c27 ?k27 ?z_all ?z_bool ?z_enumerate ?z_int ?z_isinstance ?z_len ?z_list ?z_max ?z_range ?z_str ?z_tuple ?z_zip ?y_DELAY ?y_FACTOR ?y_LETTERS ?y_ENDS ?lk_ENDS ?kl_ENDS ?sy_ENDS ?kv_ENDS_0 ?kv_ENDS_1 ?kv_ENDS_2 ?kv_ENDS_3
     (case aC_Words => k_is); (case pg_Words => k_is); (case hd_Words => k_is); (case po_Words => k_is); (case sa_Words => k_is); (case mk_Words => k_is); (case kc_Words => k_is); (case nf_Words_spot => k_is); (case nf_Words_words => k_is); (case a0 => k_is); (case l0 => k_is); (case c0 => k_is); (case k0 => k_is); (case a1 => k_is); (case l1 => k_is); (case c1 => k_is); (case k1 => k_is); (case a2 => k_is); (case l2 => k_is); (case c2 => k_is); (case k2 => k_is); (case a3 => k_is); (case l3 => k_is); (case c3 => k_is); (case k3 => k_is); (case a4 => k_is); (case l4 => k_is); (case c4 => k_is); (case k4 => k_is); (case a5 => k_is); (case l5 => k_is); (case c5 => k_is); (case k5 => k_is); (case a6 => k_is); (case l6 => k_is); (case c6 => k_is); (case k6 => k_is); (case a7 => k_is); (case l7 => k_is); (case c7 => k_is); (case k7 => k_is); (case a8 => k_is); (case l8 => k_is); (case c8 => k_is); (case k8 => k_is); (case a9 => k_is); (case l9 => k_is); (case c9 => k_is); (case k9 => k_is); (case a10 => k_is); (case l10 => k_is); (case c10 => k_is); (case k10 => k_is); (case fi_Words___init__ => k_is); (case fn_Words___init => k_is); (case l11 => k_is); (case c11 => k_is); (case k11 => k_is); (case fi_Words_here => k_is); (case fn_Words_here => k_is); (case l12 => k_is); (case c12 => k_is); (case k12 => k_is); (case fi_Words_take => k_is); (case fn_Words_take => k_is); (case l13 => k_is); (case c13 => k_is); (case k13 => k_is); (case a14 => k_is); (case l14 => k_is); (case c14 => k_is); (case k14 => k_is); (case fi_Words_take_name => k_is); (case fn_Words_take_name => k_is); (case l15 => k_is); (case c15 => k_is); (case k15 => k_is); (case fi_Words_take_names => k_is); (case fn_Words_take_names => k_is); (case l16 => k_is); (case c16 => k_is); (case k16 => k_is); (case a17 => k_is); (case l17 => k_is); (case c17 => k_is); (case k17 => k_is); (case fi_Words_take_number => k_is); (case fn_Words_take_number => k_is); (case l18 => k_is); (case c18 => k_is); (case k18 => k_is); (case fi_Words_take_term => k_is); (case fn_Words_take_term => k_is); (case l19 => k_is); (case c19 => k_is); (case k19 => k_is); (case fi_Words_take_terms => k_is); (case fn_Words_take_terms => k_is); (case l20 => k_is); (case c20 => k_is); (case k20 => k_is); (case fi_Words_take_part => k_is); (case fn_Words_take_part => k_is); (case l21 => k_is); (case c21 => k_is); (case k21 => k_is); (case fi_Words_take_net => k_is); (case fn_Words_take_net => k_is); (case l22 => k_is); (case c22 => k_is); (case k22 => k_is); (case a23 => k_is); (case l23 => k_is); (case c23 => k_is); (case k23 => k_is); (case a24 => k_is); (case l24 => k_is); (case c24 => k_is); (case k24 => k_is); (case a25 => k_is); (case l25 => k_is); (case c25 => k_is); (case k25 => k_is); (case a26 => k_is); (case l26 => k_is); (case c26 => k_is); (case k26 => k_is); (case a27 => k_is); (case l27 => k_is); (case c27 => k_is); (case k27 => k_is); (case z_all => k_is); (case z_bool => k_is); (case z_enumerate => k_is); (case z_int => k_is); (case z_isinstance => k_is); (case z_len => k_is); (case z_list => k_is); (case z_max => k_is); (case z_range => k_is); (case z_str => k_is); (case z_tuple => k_is); (case z_zip => k_is); (case y_DELAY => k_is); (case y_FACTOR => k_is); (case y_LETTERS => k_is); (case y_ENDS => k_is); (case lk_ENDS => k_is); (case kl_ENDS => exact ⟨⟨_, _, rfl, rfl⟩, ⟨_, _, rfl, rfl⟩, ⟨_, _, rfl, rfl⟩, ⟨_, _, rfl, rfl⟩, trivial⟩); (case sy_ENDS => first | rfl | decide +kernel); (case kv_ENDS_0 => k_is); (case kv_ENDS_1 => k_is); (case kv_ENDS_2 => k_is); (case kv_ENDS_3 => k_is))
