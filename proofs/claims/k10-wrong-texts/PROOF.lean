import PyProof.Rows.All
import Wide.All
import OpenK.AllK
import Wide.FinOn
import HandS.ForMost
import HandS.Exc
import HandS.WordsExc
import HandS.CallSlots
import HandS.IsInst
import HandS.TupAny
import HandS.TupMul
import HandS.Wide
import HandS.Flow
import HandS.More
import HandS.Zip
import HandS.Star
import HandS.RaiseMore
import HandS.Defaults
import HandS.ClsMeth
import KE.KSuper
import KE.RegKSuper
import KE.GoesMore
import KE.GoesEnum
import HandS.Lambda
import PyProof.WalksMore
import PyProof.CollectIter
import PyProof.Rows.SortShell
import KE.KSortTup
import KE.KDictSum
import HandS.Sort
import HandS.SortOrd
import HandS.SortInts
import HandS.Conv
import HandS.ExcValue
import HandS.DictTup
import KE.KTupSum
import KE.KDictOf
import KE.KDictCopyH
import KE.KDictDisplayH
import KE.KFromBytes
import HandS.ExcInit
import HandS.ExcSuper
import KE.KExcSuper
import HandS.ExcCtx
import KE.KTryMore
import HandS.HotCalls
import HandS.ExcField
import HandS.EndOwn
import PySem.Challenge.RW_unopened_k10_wrong_texts
set_option Elab.async false
set_option linter.all false
set_option maxRecDepth 100000

/-! the functional layer: values as trees (W), a small heap of the objects that change (Gs), and the judgements over the hand layer -/
namespace U
open PySem
open L2

inductive Ty where
  | int | str | bool | list | tuple | dict
  deriving DecidableEq, Inhabited
def Ty.nm : Ty → String
  | .int => "int" | .str => "str" | .bool => "bool" | .list => "list" | .tuple => "tuple" | .dict => "dict"
inductive W where
  | non
  | bl (b : Bool)
  | int (i : Int)
  | str (s : List Nat)
  | tup (xs : List W)
  | lst (xs : List W)
  | fz (xs : List W)
  | dic (es : List W)
  | obj (c : Nat) (xs : List W)
  | ref (i : Nat)
  | ty (t : Ty)
  | cls (c : Nat)
  deriving Inhabited

inductive O where
  | lst (xs : List W)
  | dic (es : List W)
  | ins (c : Nat) (xs : List W)
  | dead
  deriving Inhabited

abbrev Ls := List (Option W)
abbrev Gs := List O
inductive Res where
  | ok (w : W) (G : Gs)
  | exc (w : W) (G : Gs)
  | stuck
inductive SRes where
  | nx (ls : Ls) (G : Gs)
  | rt (w : W) (G : Gs)
  | bk (ls : Ls) (G : Gs)
  | ct (ls : Ls) (G : Gs)
  | exc (w : W) (ls : Ls) (G : Gs)
  | stuck
def Res.bind : Res → (W → Gs → Res) → Res
  | .ok w G, k => k w G
  | .exc w G, _ => .exc w G
  | .stuck, _ => .stuck
@[simp] theorem Res_bind_e1 : Res.bind (.ok w G) k = k w G := rfl
@[simp] theorem Res_bind_e2 : Res.bind (.exc w G) x1 = .exc w G := rfl
@[simp] theorem Res_bind_e3 : Res.bind (.stuck) x1 = .stuck := rfl
@[simp] theorem ite_ok {p : Prop} [Decidable p] (a b : W) (G : Gs) : (if p then Res.ok a G else Res.ok b G) = Res.ok (if p then a else b) G := by split <;> rfl
@[simp] theorem ite_bl {p : Prop} [Decidable p] (a b : Bool) : (if p then W.bl a else W.bl b) = W.bl (if p then a else b) := by split <;> rfl
@[simp] theorem ite_int {p : Prop} [Decidable p] (a b : Int) : (if p then W.int a else W.int b) = W.int (if p then a else b) := by split <;> rfl
@[simp] theorem ite_str {p : Prop} [Decidable p] (a b : List Nat) : (if p then W.str a else W.str b) = W.str (if p then a else b) := by split <;> rfl
def Res.sbind : Res → Ls → (W → Gs → SRes) → SRes
  | .ok w G, _, k => k w G
  | .exc w G, ls, _ => .exc w ls G
  | .stuck, _, _ => .stuck
@[simp] theorem Res_sbind_e1 : Res.sbind (.ok w G) x1 k = k w G := rfl
@[simp] theorem Res_sbind_e2 : Res.sbind (.exc w G) ls x1 = .exc w ls G := rfl
@[simp] theorem Res_sbind_e3 : Res.sbind (.stuck) x1 x2 = .stuck := rfl

structure Tx where
  K : PySem.W.Frag
  ct : Nat → Option Addr
  lay : Nat → List Str
  tb : List (Addr × Str)
  er : Option (Addr × Nat × List W)

/-- the addresses of what may change, in the order of the small heap; addresses that nothing frozen may have -/
structure Mm where
  r : List Addr
  av : List Addr
def Mm.fr (m : Mm) (a : Addr) : Prop := a ∉ m.r ∧ a ∉ m.av
def Mm.push (m : Mm) (p : Addr) : Mm := ⟨m.r ++ [p], m.av⟩
def Mm.hide (m : Mm) (p : Addr) : Mm := ⟨m.r, p :: m.av⟩
def Mm.unh (m : Mm) (p : Addr) : Mm := ⟨m.r, m.av.filter fun a => decide (a ≠ p)⟩

def KT (K : PySem.W.Frag) (a : Addr) (vs : List V) : Prop :=
  ∃ (o : Obj) (its : Array Value) (n : Nat), K.lookup a = some o ∧ o.cls = .type "tuple" ∧ o.data = .seq its n ∧ its.size ≤ sizeLine ∧ Vals vs its.toList
def KL (K : PySem.W.Frag) (a : Addr) (vs : List V) : Prop :=
  ∃ (o : Obj) (its : Array Value) (n : Nat), K.lookup a = some o ∧ o.cls = .type "list" ∧ o.dict = none ∧ o.data = .seq its n ∧ its.size ≤ sizeLine ∧ Vals vs its.toList
/-- a tuple that stands from the start: an empty one, or one that begins with a text (no key of a dict) -/
def kOnly : List V → Bool
  | [] => true
  | .str _ :: _ => true
  | _ => false
def FzT (K : PySem.W.Frag) (m : Mm) (H : Hp) (a : Addr) (vs : List V) : Prop := (m.fr a ∧ H a = some (.tup vs)) ∨ (KT K a vs ∧ kOnly vs = true)
def FzL (K : PySem.W.Frag) (m : Mm) (H : Hp) (a : Addr) (vs : List V) : Prop := (m.fr a ∧ Rd H a (.lst vs)) ∨ KL K a vs
theorem FzT.sq {K : PySem.W.Frag} {m : Mm} {H : Hp} {a : Addr} {vs : List V} (h : FzT K m H a vs) : SqT K H a vs := h.elim (fun h => .inl (.inl h.2)) fun h => .inr h.1
theorem FzL.sq {K : PySem.W.Frag} {m : Mm} {H : Hp} {a : Addr} {vs : List V} (h : FzL K m H a vs) : SqL K H a vs := h.elim (fun h => .inl h.2) .inr

def kW : Key → W
  | .inl i => .int i
  | .inr s => .str s.cps.toList
mutual
inductive RW (T : Tx) (m : Mm) (H : Hp) : W → V → Prop
  | non : RW T m H .non .non
  | bl (b : Bool) : RW T m H (.bl b) (.bl b)
  | int (i : Int) : RW T m H (.int i) (.int i)
  | str (s : List Nat) : RW T m H (.str s) (.str ⟨s.toArray⟩)
  | tup {ws : List W} {vs : List V} {a : Addr} : RWs T m H ws vs → FzT T.K m H a vs → RW T m H (.tup ws) (.ref a)
  | lst {ws : List W} {vs : List V} {a : Addr} : RWs T m H ws vs → m.fr a → H a = some (.lst vs) → RW T m H (.lst ws) (.ref a)
  | fz {ws : List W} {vs : List V} {a : Addr} : RWs T m H ws vs → FzL T.K m H a vs → RW T m H (.fz ws) (.ref a)
  | dic {es : List W} {kvs : List (Key × V)} {a : Addr} : RWe T m H es kvs → m.fr a → Rd H a (.dK kvs) → RW T m H (.dic es) (.ref a)
  | dit {es : List W} {kvs : List (List Key × V)} {a : Addr} : RWt T m H es kvs → es ≠ [] → m.fr a → Rd H a (.dT kvs) → RW T m H (.dic es) (.ref a)
  | obj {c : Nat} {ws : List W} {vs : List V} {a C dx : Addr} : RWs T m H ws vs → m.fr a → T.ct c = some C → H a = some (.ins C dx (List.zip (T.lay c) vs)) → vs.length ≤ (T.lay c).length → RW T m H (.obj c ws) (.ref a)
  | ref {i : Nat} {a : Addr} : m.r[i]? = some a → RW T m H (.ref i) (.ref a)
  | ty (t : Ty) : RW T m H (.ty t) (.ty t.nm)
  | cls {c : Nat} {C : Addr} : T.ct c = some C → RW T m H (.cls c) (.ref C)
inductive RWs (T : Tx) (m : Mm) (H : Hp) : List W → List V → Prop
  | nil : RWs T m H [] []
  | cons {w : W} {v : V} {ws : List W} {vs : List V} : RW T m H w v → RWs T m H ws vs → RWs T m H (w :: ws) (v :: vs)
inductive RWe (T : Tx) (m : Mm) (H : Hp) : List W → List (Key × V) → Prop
  | nil : RWe T m H [] []
  | consI {k : Int} {w : W} {v : V} {ws : List W} {vs : List (Key × V)} : RW T m H w v → RWe T m H ws vs → RWe T m H (.tup [.int k, w] :: ws) ((.inl k, v) :: vs)
  | consS {k : List Nat} {w : W} {v : V} {ws : List W} {vs : List (Key × V)} : RW T m H w v → RWe T m H ws vs → RWe T m H (.tup [.str k, w] :: ws) ((.inr ⟨k.toArray⟩, v) :: vs)
inductive RWt (T : Tx) (m : Mm) (H : Hp) : List W → List (List Key × V) → Prop
  | nil : RWt T m H [] []
  | cons {ks : List Key} {w : W} {v : V} {ws : List W} {vs : List (List Key × V)} : RW T m H w v → RWt T m H ws vs → RWt T m H (.tup [.tup (ks.map kW), w] :: ws) ((ks, v) :: vs)
end

def DD : HO → Prop
  | .dK _ => True
  | .dT _ => True
  | _ => False
/-- no table of code objects -/
def Nb : HO → Prop
  | .tbl _ => False
  | _ => True
/-- what is not kept as it is: dicts (they may be locked), tables of code objects (they grow) -/
def Lo : HO → Prop
  | .dK _ => True
  | .dT _ => True
  | .tbl _ => True
  | _ => False
theorem DD.lo {o : HO} (h : DD o) : Lo o := by cases o <;> first | exact trivial | exact False.elim h
def Pl : HO → Prop
  | .dK _ => False
  | .dT _ => False
  | .tbl _ => False
  | .frz _ _ => False
  | _ => True
theorem Pl.lo {o : HO} (h : Pl o) : ¬ Lo o := by cases o <;> first | exact False.elim h | exact fun q => q
def Pd : HO → Prop
  | .tbl _ => False
  | .frz _ _ => False
  | _ => True
theorem Pd.nf {o : HO} (h : Pd o) : ∀ ob x, o ≠ .frz ob x := fun ob x e => by subst e; exact h
theorem DD.nf {o u : HO} {ob : Obj} (h : DD o) : o ≠ .frz ob u := fun e => by subst e; exact h
/-- what stands frozen stays, no matter what else is done; a dict may be locked -/
structure Keep (m : Mm) (H : Hp) (m' : Mm) (H' : Hp) : Prop where
  ext : ∃ e, m'.r = m.r ++ e
  avL : ∀ a ∈ m.av, a ∈ m'.av
  avU : ∀ a ∈ m'.av, a ∈ m.av ∨ ∀ o, H a = some o → ¬ Nb o
  th : ∀ a o, H a = some o → Nb o → ∃ u, H' a = some u ∧ Nb u
  fz : ∀ a o, H a = some o → Nb o → a ∉ m.r → (H' a = some o ∨ (DD o ∧ ∃ od, H' a = some (.frz od o))) ∧ a ∉ m'.r
theorem Keep.refl (m : Mm) (H : Hp) : Keep m H m H := ⟨⟨[], (List.append_nil m.r).symm⟩, fun _ h => h, fun _ h => .inl h, fun _ o h n => ⟨o, h, n⟩, fun _ _ h _ n => ⟨.inl h, n⟩⟩
theorem Keep.trans {m m1 m2 : Mm} {H H1 H2 : Hp} (a : Keep m H m1 H1) (b : Keep m1 H1 m2 H2) : Keep m H m2 H2 := by
  refine ⟨?_, fun x h => b.avL x (a.avL x h), fun x h => ?_, fun x o h n => ?_, fun x o h z n => ?_⟩
  · obtain ⟨e1, q1⟩ := a.ext
    obtain ⟨e2, q2⟩ := b.ext
    exact ⟨e1 ++ e2, by rw [q2, q1, List.append_assoc]⟩
  · rcases b.avU x h with h | h
    · exact a.avU x h
    · refine .inr fun o e n => ?_
      obtain ⟨u, e1, n1⟩ := a.th x o e n
      exact h u e1 n1
  · obtain ⟨u, e1, n1⟩ := a.th x o h n
    exact b.th x u e1 n1
  · obtain ⟨h1, n1⟩ := a.fz x o h z n
    rcases h1 with h1 | ⟨d, od, h1⟩
    · exact b.fz x o h1 z n1
    · obtain ⟨h2, n2⟩ := b.fz x _ h1 trivial n1
      rcases h2 with h2 | ⟨d2, _⟩
      · exact ⟨.inr ⟨d, od, h2⟩, n2⟩
      · exact d2.elim
theorem Keep.get {m m' : Mm} {H H' : Hp} (k : Keep m H m' H') {i : Nat} {a : Addr} (h : m.r[i]? = some a) : m'.r[i]? = some a := by
  obtain ⟨e, q⟩ := k.ext
  rw [q, List.getElem?_append_left (List.getElem?_eq_some_iff.mp h).1]
  exact h
theorem Keep.frk {m m' : Mm} {H H' : Hp} (k : Keep m H m' H') {a : Addr} {o : HO} (h : H a = some o) (z : Nb o) (n : m.fr a) : m'.fr a :=
  ⟨(k.fz _ _ h z n.1).2, fun q => (k.avU a q).elim n.2 fun q => q o h z⟩
theorem nb_of {o : HO} (h : ¬ Lo o) : Nb o := by cases o <;> first | exact trivial | exact h trivial
theorem Keep.at_ {m m' : Mm} {H H' : Hp} (k : Keep m H m' H') {a : Addr} {o : HO} (h : H a = some o) (n : m.fr a) (d : ¬ Lo o := by exact id) : H' a = some o ∧ m'.fr a := by
  refine ⟨?_, k.frk h (nb_of d) n⟩
  rcases (k.fz _ _ h (nb_of d) n.1).1 with h | ⟨h, _⟩
  · exact h
  · exact absurd h.lo d
theorem Keep.fzE {m m' : Mm} {H H' : Hp} (k : Keep m H m' H') {a : Addr} {o : HO} (h : H a = some o) (n : a ∉ m.r) (d : ¬ Lo o := by exact id) : H' a = some o ∧ a ∉ m'.r :=
  ⟨(k.fz _ _ h (nb_of d) n).1.elim id fun q => absurd q.1.lo d, (k.fz _ _ h (nb_of d) n).2⟩
theorem Pd.nb {o : HO} (h : Pd o) : Nb o := by cases o <;> first | exact trivial | exact h.elim
theorem Keep.rd {m m' : Mm} {H H' : Hp} (k : Keep m H m' H') {a : Addr} {u : HO} (n : m.fr a) (h : Rd H a u) (p : Pd u := by exact trivial) : m'.fr a ∧ Rd H' a u := by
  rcases h with h | ⟨o, h⟩
  · refine ⟨k.frk h p.nb n, ?_⟩
    rcases (k.fz _ _ h p.nb n.1).1 with h | ⟨_, od, h⟩
    · exact .inl h
    · exact .inr ⟨od, h⟩
  · obtain ⟨h', n'⟩ := k.at_ h n
    exact ⟨n', .inr ⟨o, h'⟩⟩
/-- what a reading leans on -/
structure KR (m : Mm) (H : Hp) (m' : Mm) (H' : Hp) : Prop where
  get : ∀ {i : Nat} {a : Addr}, m.r[i]? = some a → m'.r[i]? = some a
  at_ : ∀ {a : Addr} {o : HO}, H a = some o → m.fr a → Pl o → H' a = some o ∧ m'.fr a
  rd : ∀ {a : Addr} {u : HO}, m.fr a → Rd H a u → Pd u → m'.fr a ∧ Rd H' a u
theorem Keep.kr {m m' : Mm} {H H' : Hp} (k : Keep m H m' H') : KR m H m' H' := ⟨k.get, fun h n p => k.at_ h n p.lo, fun n h p => k.rd n h p⟩
/-- a locked thing is unlocked -/
theorem KR.unlock {m : Mm} {H : Hp} {d : Addr} {od : Obj} {u : HO} (h : H d = some (.frz od u)) : KR m H m (upd H d u) := by
  refine ⟨fun h => h, fun {a o} h1 n p => ⟨?_, n⟩, fun {a x} n r hx => ⟨n, ?_⟩⟩
  · rw [upd_ne (fun e => by subst e; rw [h] at h1; cases h1; exact p)]; exact h1
  · by_cases e : a = d
    · subst e
      rcases r with r | ⟨ob, r⟩
      · rw [h] at r; cases r; exact absurd rfl (hx.nf _ _)
      · rw [h] at r; cases r; exact .inl upd_same
    · rcases r with r | ⟨ob, r⟩
      · exact .inl (by rw [upd_ne e]; exact r)
      · exact .inr ⟨ob, by rw [upd_ne e]; exact r⟩
theorem rd_ne {H : Hp} {a : Addr} {u : HO} (h : Rd H a u) : H a ≠ none := by
  rcases h with h | ⟨o, h⟩ <;> rw [h] <;> simp
theorem rd_upd {H : Hp} {a p : Addr} {u o : HO} (n : a ≠ p) (h : Rd H a u) : Rd (upd H p o) a u := by
  rcases h with h | ⟨x, h⟩
  · exact .inl (by rw [upd_ne n]; exact h)
  · exact .inr ⟨x, by rw [upd_ne n]; exact h⟩
theorem fr_unh {m : Mm} {p a : Addr} (n : m.fr a) : (m.unh p).fr a := ⟨n.1, fun q => n.2 (List.mem_filter.mp q).1⟩
theorem fr_ne {m : Mm} {p a : Addr} (hp : p ∈ m.av) (n : m.fr a) : a ≠ p := fun q => n.2 (q ▸ hp)
theorem Keep.fzT {K : PySem.W.Frag} {m m' : Mm} {H H' : Hp} (k : Keep m H m' H') {a : Addr} {vs : List V} (h : FzT K m H a vs) : FzT K m' H' a vs := by
  rcases h with ⟨n, h⟩ | h
  · exact .inl ⟨(k.at_ h n).2, (k.at_ h n).1⟩
  · exact .inr h
theorem Keep.fzL {K : PySem.W.Frag} {m m' : Mm} {H H' : Hp} (k : Keep m H m' H') {a : Addr} {vs : List V} (h : FzL K m H a vs) : FzL K m' H' a vs := by
  rcases h with ⟨n, h⟩ | h
  · exact .inl (k.rd n h)
  · exact .inr h
theorem KR.fzT {K : PySem.W.Frag} {m m' : Mm} {H H' : Hp} (k : KR m H m' H') {a : Addr} {vs : List V} (h : FzT K m H a vs) : FzT K m' H' a vs := by
  rcases h with ⟨n, h⟩ | h
  · exact .inl ⟨(k.at_ h n trivial).2, (k.at_ h n trivial).1⟩
  · exact .inr h
theorem KR.fzL {K : PySem.W.Frag} {m m' : Mm} {H H' : Hp} (k : KR m H m' H') {a : Addr} {vs : List V} (h : FzL K m H a vs) : FzL K m' H' a vs := by
  rcases h with ⟨n, h⟩ | h
  · exact .inl (k.rd n h trivial)
  · exact .inr h
mutual
theorem RW.kr {T : Tx} {m m' : Mm} {H H' : Hp} (k : KR m H m' H') : ∀ {w : W} {v : V}, RW T m H w v → RW T m' H' w v
  | _, _, .non => .non
  | _, _, .bl b => .bl b
  | _, _, .int i => .int i
  | _, _, .str s => .str s
  | _, _, .tup r f => .tup (RWs.kr k r) (k.fzT f)
  | _, _, .lst r n f => .lst (RWs.kr k r) (k.at_ f n trivial).2 (k.at_ f n trivial).1
  | _, _, .fz r f => .fz (RWs.kr k r) (k.fzL f)
  | _, _, .dic r n f => .dic (RWe.kr k r) (k.rd n f trivial).1 (k.rd n f trivial).2
  | _, _, .dit r z n f => .dit (RWt.kr k r) z (k.rd n f trivial).1 (k.rd n f trivial).2
  | _, _, .obj r n c h l => .obj (RWs.kr k r) (k.at_ h n trivial).2 c (k.at_ h n trivial).1 l
  | _, _, .ref h => .ref (k.get h)
  | _, _, .ty t => .ty t
  | _, _, .cls h => .cls h
theorem RWs.kr {T : Tx} {m m' : Mm} {H H' : Hp} (k : KR m H m' H') : ∀ {ws : List W} {vs : List V}, RWs T m H ws vs → RWs T m' H' ws vs
  | _, _, .nil => .nil
  | _, _, .cons r t => .cons (RW.kr k r) (RWs.kr k t)
theorem RWe.kr {T : Tx} {m m' : Mm} {H H' : Hp} (k : KR m H m' H') : ∀ {ws : List W} {vs : List (Key × V)}, RWe T m H ws vs → RWe T m' H' ws vs
  | _, _, .nil => .nil
  | _, _, .consI r t => .consI (RW.kr k r) (RWe.kr k t)
  | _, _, .consS r t => .consS (RW.kr k r) (RWe.kr k t)
theorem RWt.kr {T : Tx} {m m' : Mm} {H H' : Hp} (k : KR m H m' H') : ∀ {ws : List W} {vs : List (List Key × V)}, RWt T m H ws vs → RWt T m' H' ws vs
  | _, _, .nil => .nil
  | _, _, .cons r t => .cons (RW.kr k r) (RWt.kr k t)
end
theorem RW.keep {T : Tx} {m m' : Mm} {H H' : Hp} (k : Keep m H m' H') {w : W} {v : V} (r : RW T m H w v) : RW T m' H' w v := r.kr k.kr
theorem RWs.keep {T : Tx} {m m' : Mm} {H H' : Hp} (k : Keep m H m' H') {ws : List W} {vs : List V} (r : RWs T m H ws vs) : RWs T m' H' ws vs := r.kr k.kr
theorem RWe.keep {T : Tx} {m m' : Mm} {H H' : Hp} (k : Keep m H m' H') {ws : List W} {vs : List (Key × V)} (r : RWe T m H ws vs) : RWe T m' H' ws vs := r.kr k.kr
theorem RWt.keep {T : Tx} {m m' : Mm} {H H' : Hp} (k : Keep m H m' H') {ws : List W} {vs : List (List Key × V)} (r : RWt T m H ws vs) : RWt T m' H' ws vs := r.kr k.kr

section
variable {T : Tx} {m : Mm} {H : Hp}
theorem RWs.length : ∀ {ws : List W} {vs : List V}, RWs T m H ws vs → ws.length = vs.length
  | _, _, .nil => rfl
  | _, _, .cons _ t => by rw [List.length_cons, List.length_cons, t.length]
theorem RWs.get : ∀ {ws : List W} {vs : List V} {i : Nat} {w : W}, RWs T m H ws vs → ws[i]? = some w → ∃ v, vs[i]? = some v ∧ RW T m H w v
  | _, _, _, _, .nil, e => by simp at e
  | _, _, 0, _, .cons r _, e => by simp at e; subst e; exact ⟨_, rfl, r⟩
  | _, _, i + 1, w, .cons _ t, e => by
    obtain ⟨u, h1, h2⟩ := RWs.get (i := i) (w := w) t (by simpa using e)
    exact ⟨u, by simpa using h1, h2⟩
theorem RWs.getV : ∀ {ws : List W} {vs : List V} {i : Nat} {v : V}, RWs T m H ws vs → vs[i]? = some v → ∃ w, ws[i]? = some w ∧ RW T m H w v
  | _, _, _, _, .nil, e => by simp at e
  | _, _, 0, _, .cons r _, e => by simp at e; subst e; exact ⟨_, rfl, r⟩
  | _, _, i + 1, w, .cons _ t, e => by
    obtain ⟨u, h1, h2⟩ := RWs.getV (i := i) (v := w) t (by simpa using e)
    exact ⟨u, by simpa using h1, h2⟩
theorem RWs.append : ∀ {ws us : List W} {vs ts : List V}, RWs T m H ws vs → RWs T m H us ts → RWs T m H (ws ++ us) (vs ++ ts)
  | _, _, _, _, .nil, s => s
  | _, _, _, _, .cons r t, s => .cons r (RWs.append t s)
theorem RWs.set {w : W} {v : V} (r : RW T m H w v) : ∀ {ws : List W} {vs : List V} (i : Nat), RWs T m H ws vs → RWs T m H (ws.set i w) (vs.set i v)
  | _, _, _, .nil => .nil
  | _, _, 0, .cons _ t => .cons r t
  | _, _, i + 1, .cons q t => .cons q (RWs.set r i t)
theorem RWs.take : ∀ {ws : List W} {vs : List V} (n : Nat), RWs T m H ws vs → RWs T m H (ws.take n) (vs.take n)
  | _, _, 0, _ => .nil
  | _, _, _ + 1, .nil => .nil
  | _, _, n + 1, .cons r t => .cons r (RWs.take n t)
theorem RWs.drop : ∀ {ws : List W} {vs : List V} (n : Nat), RWs T m H ws vs → RWs T m H (ws.drop n) (vs.drop n)
  | _, _, 0, r => r
  | _, _, _ + 1, .nil => .nil
  | _, _, n + 1, .cons _ t => RWs.drop n t
theorem RWs.reverse : ∀ {ws : List W} {vs : List V}, RWs T m H ws vs → RWs T m H ws.reverse vs.reverse
  | _, _, .nil => .nil
  | _, _, .cons r t => by
    rw [List.reverse_cons, List.reverse_cons]
    exact RWs.append (RWs.reverse t) (.cons r .nil)
end

/-! ### the heap of what changes -/
/-- no tuple, no table, nothing foreign -/
def NT : HO → Prop
  | .tup _ => False
  | .tbl _ => False
  | .ext _ => False
  | _ => True
theorem nt_upd {H : Hp} {a p : Addr} {o : HO} (h : ∃ u, H a = some u ∧ NT u) (n : a ≠ p ∨ NT o) : ∃ u, upd H p o a = some u ∧ NT u := by
  by_cases e : a = p
  · subst e
    rcases n with n | n
    · exact absurd rfl n
    · exact ⟨o, upd_same, n⟩
  · rw [upd_ne e]; exact h
theorem nt_ne {H : Hp} {a : Addr} (h : ∃ u, H a = some u ∧ NT u) : H a ≠ none := by
  obtain ⟨u, e, _⟩ := h
  rw [e]; simp
theorem nt_new {H : Hp} {a p : Addr} {o : HO} (h : ∃ u, H a = some u ∧ NT u) (n : H p = none) : ∃ u, upd H p o a = some u ∧ NT u := nt_upd h (.inl fun e => nt_ne h (e ▸ n))
theorem DD.nt {o : HO} (h : DD o) : NT o := by cases o <;> first | exact trivial | exact False.elim h
def RO (T : Tx) (m : Mm) (H : Hp) : O → Addr → Prop
  | .lst xs, a => ∃ vs, H a = some (.lst vs) ∧ RWs T m H xs vs
  | .dic es, a => (∃ kvs, H a = some (.dK kvs) ∧ RWe T m H es kvs) ∨ ∃ kvs, H a = some (.dT kvs) ∧ es ≠ [] ∧ RWt T m H es kvs
  | .ins c xs, a => ∃ C dx vs, T.ct c = some C ∧ H a = some (.ins C dx (List.zip (T.lay c) vs)) ∧ vs.length ≤ (T.lay c).length ∧ RWs T m H xs vs
  | .dead, a => ∃ o, H a = some o ∧ NT o
/-- the exception that is handled: its own dict, its class, its fields -/
def XD (T : Tx) (m : Mm) (H : Hp) (x : Addr × Nat × List W) : Prop := ∃ vs, m.fr x.1 ∧ H x.1 = some (.xd (List.zip (T.lay x.2.1) vs)) ∧ vs.length ≤ (T.lay x.2.1).length ∧ RWs T m H x.2.2 vs
theorem XD.kr {T : Tx} {m m' : Mm} {H H' : Hp} {x : Addr × Nat × List W} (k : KR m H m' H') (h : XD T m H x) : XD T m' H' x := by
  obtain ⟨vs, n, e, l, r⟩ := h
  exact ⟨vs, (k.at_ e n trivial).2, (k.at_ e n trivial).1, l, r.kr k⟩
structure RG (T : Tx) (m : Mm) (G : Gs) (H : Hp) : Prop where
  len : m.r.length = G.length
  nd : m.r.Nodup
  ob : ∀ (i : Nat) (o : O) (a : Addr), G[i]? = some o → m.r[i]? = some a → RO T m H o a
  av : ∀ a ∈ m.av, ∃ o, H a = some o ∧ NT o
  dj : ∀ a ∈ m.r, a ∉ m.av
  tb : LamX.Tabs T.tb H
  xe : ∀ x, T.er = some x → XD T m H x
/-- what is written is neither a table nor a code object -/
theorem tabs_upd {tb : List (Addr × Str)} {H : Hp} {p : Addr} {o : HO} (t : LamX.Tabs tb H) (h : ∀ u, H p = some u → NT u) : LamX.Tabs tb (upd H p o) := fun q hq => by
  obtain ⟨ps, h1, h2, h3⟩ := t q hq
  have n1 : q.1 ≠ p := fun e => by
    rw [e] at h1
    exact (h _ h1 : NT (.tbl ps))
  refine ⟨ps, by rw [upd_ne n1]; exact h1, h2, fun pos cv hc => ?_⟩
  obtain ⟨c, e1, e2⟩ := h3 pos cv hc
  have n2 : c ≠ p := fun e => by
    rw [e] at e2
    have := h _ e2
    unfold LamX.CodeO at this
    exact this
  exact ⟨c, e1, by rw [upd_ne n2]; exact e2⟩
theorem NT.nb {o : HO} (h : NT o) : Nb o := by cases o <;> first | exact trivial | exact h.elim
theorem nt_none {H : Hp} {p : Addr} (h : H p = none) : ∀ u, H p = some u → NT u := fun u e => by rw [h] at e; cases e
theorem nt_some {H : Hp} {p : Addr} (h : ∃ u, H p = some u ∧ NT u) : ∀ u, H p = some u → NT u := fun u e => by
  obtain ⟨x, e1, n⟩ := h
  rw [e1] at e; cases e; exact n
theorem RO.ne {T : Tx} {m : Mm} {H : Hp} {o : O} {a : Addr} (h : RO T m H o a) : H a ≠ none := by
  cases o with
  | lst xs => obtain ⟨_, e, _⟩ := h; rw [e]; simp
  | dic xs => rcases h with ⟨_, e, _⟩ | ⟨_, e, _, _⟩ <;> rw [e] <;> simp
  | ins c xs => obtain ⟨_, _, _, _, e, _⟩ := h; rw [e]; simp
  | dead => obtain ⟨_, e, _⟩ := h; rw [e]; simp
theorem RO.nt {T : Tx} {m : Mm} {H : Hp} {o : O} {a : Addr} (h : RO T m H o a) : ∃ u, H a = some u ∧ NT u := by
  cases o with
  | lst xs => obtain ⟨_, e, _⟩ := h; exact ⟨_, e, trivial⟩
  | dic xs => rcases h with ⟨_, e, _⟩ | ⟨_, e, _, _⟩ <;> exact ⟨_, e, trivial⟩
  | ins c xs => obtain ⟨_, _, _, _, e, _⟩ := h; exact ⟨_, e, trivial⟩
  | dead => exact h
theorem RG.avn {T : Tx} {m : Mm} {G : Gs} {H : Hp} (R : RG T m G H) {a : Addr} (h : a ∈ m.av) : H a ≠ none := nt_ne (R.av a h)
theorem RG.ne {T : Tx} {m : Mm} {G : Gs} {H : Hp} (R : RG T m G H) {a : Addr} (h : a ∈ m.r) : H a ≠ none := by
  obtain ⟨i, e⟩ := List.getElem?_of_mem h
  have hi : i < G.length := by rw [← R.len]; exact (List.getElem?_eq_some_iff.mp e).1
  exact (R.ob i G[i] a (by simp [hi]) e).ne
theorem RG.freeR {T : Tx} {m : Mm} {G : Gs} {H : Hp} (R : RG T m G H) {a : Addr} (h : H a = none) : a ∉ m.r := fun q => R.ne q h
theorem RG.free {T : Tx} {m : Mm} {G : Gs} {H : Hp} (R : RG T m G H) {a : Addr} (h : H a = none) : m.fr a := ⟨fun q => R.ne q h, fun q => R.avn q h⟩

/-- what is told of an object leans on that object and on what is kept -/
theorem RO.toR {T : Tx} {m m' : Mm} {H H' : Hp} (k : KR m H m' H') {o : O} {a : Addr} (he : H' a = H a) (r : RO T m H o a) : RO T m' H' o a := by
  cases o with
  | lst xs => obtain ⟨vs, e, r⟩ := r; exact ⟨vs, by rw [he]; exact e, r.kr k⟩
  | dic xs =>
    rcases r with ⟨vs, e, r⟩ | ⟨vs, e, z, r⟩
    · exact .inl ⟨vs, by rw [he]; exact e, r.kr k⟩
    · exact .inr ⟨vs, by rw [he]; exact e, z, r.kr k⟩
  | ins c xs => obtain ⟨C, dx, vs, hc, e, l, r⟩ := r; exact ⟨C, dx, vs, hc, by rw [he]; exact e, l, r.kr k⟩
  | dead => obtain ⟨o, e, n⟩ := r; exact ⟨o, by rw [he]; exact e, n⟩
theorem RO.to {T : Tx} {m m' : Mm} {H H' : Hp} (k : Keep m H m' H') {o : O} {a : Addr} (he : H' a = H a) (r : RO T m H o a) : RO T m' H' o a := r.toR k.kr he
theorem nb_upd {H : Hp} {a p : Addr} {o : HO} (h : ∃ u, H a = some u ∧ Nb u) (n : a ≠ p ∨ Nb o) : ∃ u, upd H p o a = some u ∧ Nb u := by
  by_cases e : a = p
  · subst e
    rcases n with n | n
    · exact absurd rfl n
    · exact ⟨o, upd_same, n⟩
  · rw [upd_ne e]; exact h
theorem nb_new {H : Hp} {a p : Addr} {o u : HO} (e : H a = some u) (z : Nb u) (n : H p = none) : ∃ u, upd H p o a = some u ∧ Nb u := nb_upd ⟨u, e, z⟩ (.inl (ne_of_none e n))
theorem upd_ne_none {H : Hp} {a p : Addr} {o : HO} (h : H a ≠ none) : upd H p o a ≠ none := by
  unfold upd
  split
  · simp
  · exact h
/-- a new frozen object -/
theorem Keep.new {T : Tx} {m : Mm} {G : Gs} {H : Hp} (R : RG T m G H) {p : Addr} {o : HO} (h : H p = none) : Keep m H m (upd H p o) :=
  ⟨⟨[], (List.append_nil m.r).symm⟩, fun _ h => h, fun _ h => .inl h, fun a u e z => nb_new e z h, fun a u e _ n => ⟨.inl (by rw [upd_ne (ne_of_none e h)]; exact e), n⟩⟩
theorem RG.new {T : Tx} {m : Mm} {G : Gs} {H : Hp} (R : RG T m G H) {p : Addr} {o : HO} (h : H p = none) : RG T m G (upd H p o) :=
  ⟨R.len, R.nd, fun i x a e1 e2 => (R.ob i x a e1 e2).to (Keep.new R h) (upd_ne (fun e => (R.ob i x a e1 e2).ne (e ▸ h))), fun a q => nt_new (R.av a q) h, R.dj, tabs_upd R.tb (nt_none h), fun x q => (R.xe x q).kr (Keep.new R h).kr⟩
/-- a new object that may change -/
theorem Keep.push {T : Tx} {m : Mm} {G : Gs} {H : Hp} (R : RG T m G H) {p : Addr} {o : HO} (h : H p = none) : Keep m H (m.push p) (upd H p o) :=
  ⟨⟨[p], rfl⟩, fun _ h => h, fun _ h => .inl h, fun a u e z => nb_new e z h, fun a u e _ n => ⟨.inl (by rw [upd_ne (ne_of_none e h)]; exact e), fun q => by
    rcases List.mem_append.mp q with q | q
    · exact n q
    · exact ne_of_none e h (List.mem_singleton.mp q)⟩⟩
theorem RG.push {T : Tx} {m : Mm} {G : Gs} {H : Hp} (R : RG T m G H) {p : Addr} {u : HO} {o : O} (h : H p = none) (r : RO T (m.push p) (upd H p u) o p) : RG T (m.push p) (G ++ [o]) (upd H p u) := by
  refine ⟨by simp [Mm.push, R.len], List.nodup_append.mpr ⟨R.nd, by simp, fun a ha b hb => ?_⟩, fun i x a e1 e2 => ?_, fun a q => nt_new (R.av a q) h, fun a q => by
    rcases List.mem_append.mp q with q | q
    · exact R.dj a q
    · rw [List.mem_singleton.mp q]
      exact fun z => R.avn z h, tabs_upd R.tb (nt_none h), fun x q => (R.xe x q).kr (Keep.push R h).kr⟩
  · rw [List.mem_singleton.mp hb]
    intro e
    subst e
    exact R.freeR h ha
  · have e2 : (m.r ++ [p])[i]? = some a := e2
    by_cases hi : i < m.r.length
    · rw [List.getElem?_append_left hi] at e2
      rw [List.getElem?_append_left (by rw [← R.len]; exact hi)] at e1
      exact (R.ob i x a e1 e2).to (Keep.push R h) (upd_ne (fun e => (R.ob i x a e1 e2).ne (e ▸ h)))
    · rw [List.getElem?_append_right (by omega)] at e2
      rw [List.getElem?_append_right (by rw [← R.len]; omega)] at e1
      rw [R.len] at e2
      cases q : i - G.length with
      | zero =>
        rw [q] at e1 e2
        simp at e1 e2
        subst e1; subst e2
        exact r
      | succ n =>
        rw [q] at e1
        simp at e1
theorem ix_inj : ∀ {l : List Addr} {i j : Nat}, l.Nodup → (hi : i < l.length) → (hj : j < l.length) → l[i] = l[j] → i = j := by
  intro l i j nd hi hj e
  have nd : l.Pairwise (· ≠ ·) := nd
  have P := List.pairwise_iff_getElem.mp nd
  rcases Nat.lt_trichotomy i j with h | h | h
  · exact absurd e (P i j hi hj h)
  · exact h
  · exact absurd e.symm (P j i hj hi h)
/-- an object that changes -/
theorem Keep.write {m : Mm} {H : Hp} {p : Addr} {o : HO} (h : p ∈ m.r) (ho : Nb o := by exact trivial) : Keep m H m (upd H p o) :=
  ⟨⟨[], (List.append_nil m.r).symm⟩, fun _ h => h, fun _ h => .inl h, fun a u e z => nb_upd ⟨u, e, z⟩ (.inr ho), fun a u e _ n => ⟨.inl (by rw [upd_ne (show a ≠ p from fun q => by subst q; exact n h)]; exact e), n⟩⟩
theorem RG.write {T : Tx} {m : Mm} {G : Gs} {H : Hp} (R : RG T m G H) {i : Nat} {p : Addr} {u : HO} {o : O} (hp : m.r[i]? = some p) (r : RO T m (upd H p u) o p) : RG T m (G.set i o) (upd H p u) := by
  have hpm : p ∈ m.r := List.mem_of_getElem? hp
  have nu : Nb u := by
    obtain ⟨v, e, n⟩ := r.nt
    rw [upd_same] at e; cases e; exact n.nb
  have hi0 : i < G.length := by rw [← R.len]; exact (List.getElem?_eq_some_iff.mp hp).1
  refine ⟨by rw [List.length_set]; exact R.len, R.nd, fun j x a e1 e2 => ?_, fun a q => nt_upd (R.av a q) (.inl fun e => R.dj p hpm (e ▸ q)), R.dj, tabs_upd R.tb (nt_some (R.ob i G[i] p (by simp [hi0]) hp).nt), fun x q => (R.xe x q).kr (Keep.write hpm nu).kr⟩
  by_cases hj : j = i
  · subst hj
    rw [hp] at e2; cases e2
    have hi : j < G.length := by rw [← R.len]; exact (List.getElem?_eq_some_iff.mp hp).1
    rw [List.getElem?_set_self hi] at e1
    cases e1
    exact r
  · rw [List.getElem?_set_ne (Ne.symm hj)] at e1
    have hne : a ≠ p := fun e => by
      subst e
      obtain ⟨h1, h1'⟩ := List.getElem?_eq_some_iff.mp e2
      obtain ⟨h2, h2'⟩ := List.getElem?_eq_some_iff.mp hp
      exact hj (ix_inj R.nd h1 h2 (h1'.trans h2'.symm))
    exact (R.ob j x a e1 e2).to (Keep.write hpm nu) (upd_ne hne)

/-! ### an object that is being made, hidden from all -/
theorem Keep.hide {T : Tx} {m : Mm} {G : Gs} {H : Hp} (R : RG T m G H) {p : Addr} {o : HO} (h : H p = none) : Keep m H (m.hide p) (upd H p o) :=
  ⟨⟨[], (List.append_nil m.r).symm⟩, fun a q => List.mem_cons_of_mem _ q, fun a q => by
    rcases List.mem_cons.mp q with q | q
    · exact .inr fun o e => by rw [q, h] at e; cases e
    · exact .inl q, fun a u e z => nb_new e z h, fun a u e _ n => ⟨.inl (by rw [upd_ne (ne_of_none e h)]; exact e), n⟩⟩
theorem RG.hide {T : Tx} {m : Mm} {G : Gs} {H : Hp} {p : Addr} {u : HO} (R : RG T m G H) (h : H p = none) (hu : NT u := by exact trivial) : RG T (m.hide p) G (upd H p u) :=
  ⟨R.len, R.nd, fun i x a e1 e2 => (R.ob i x a e1 e2).to (Keep.hide R h) (upd_ne (fun e => (R.ob i x a e1 e2).ne (e ▸ h))), fun a q => by
    rcases List.mem_cons.mp q with q | q
    · exact ⟨u, by rw [q, upd_same], hu⟩
    · exact nt_new (R.av a q) h, fun a q z => by
    rcases List.mem_cons.mp z with z | z
    · exact R.freeR h (z ▸ q)
    · exact R.dj a q z, tabs_upd R.tb (nt_none h), fun x q => (R.xe x q).kr (Keep.hide R h).kr⟩
mutual
theorem RW.unh {T : Tx} {m : Mm} {H : Hp} {p : Addr} : ∀ {w : W} {v : V}, RW T m H w v → RW T (m.unh p) H w v
  | _, _, .non => .non
  | _, _, .bl b => .bl b
  | _, _, .int i => .int i
  | _, _, .str s => .str s
  | _, _, .tup r f => .tup (RWs.unh r) (f.elim (fun f => .inl ⟨fr_unh f.1, f.2⟩) .inr)
  | _, _, .lst r n f => .lst (RWs.unh r) (fr_unh n) f
  | _, _, .fz r f => .fz (RWs.unh r) (f.elim (fun f => .inl ⟨fr_unh f.1, f.2⟩) .inr)
  | _, _, .dic r n f => .dic (RWe.unh r) (fr_unh n) f
  | _, _, .dit r z n f => .dit (RWt.unh r) z (fr_unh n) f
  | _, _, .obj r n c h l => .obj (RWs.unh r) (fr_unh n) c h l
  | _, _, .ref h => .ref h
  | _, _, .ty t => .ty t
  | _, _, .cls h => .cls h
theorem RWs.unh {T : Tx} {m : Mm} {H : Hp} {p : Addr} : ∀ {ws : List W} {vs : List V}, RWs T m H ws vs → RWs T (m.unh p) H ws vs
  | _, _, .nil => .nil
  | _, _, .cons r t => .cons (RW.unh r) (RWs.unh t)
theorem RWe.unh {T : Tx} {m : Mm} {H : Hp} {p : Addr} : ∀ {ws : List W} {vs : List (Key × V)}, RWe T m H ws vs → RWe T (m.unh p) H ws vs
  | _, _, .nil => .nil
  | _, _, .consI r t => .consI (RW.unh r) (RWe.unh t)
  | _, _, .consS r t => .consS (RW.unh r) (RWe.unh t)
theorem RWt.unh {T : Tx} {m : Mm} {H : Hp} {p : Addr} : ∀ {ws : List W} {vs : List (List Key × V)}, RWt T m H ws vs → RWt T (m.unh p) H ws vs
  | _, _, .nil => .nil
  | _, _, .cons r t => .cons (RW.unh r) (RWt.unh t)
end
theorem RO.unh {T : Tx} {m : Mm} {H : Hp} {p : Addr} {o : O} {a : Addr} (r : RO T m H o a) : RO T (m.unh p) H o a := by
  cases o with
  | lst xs => obtain ⟨vs, e, r⟩ := r; exact ⟨vs, e, r.unh⟩
  | dic xs => rcases r with ⟨vs, e, r⟩ | ⟨vs, e, z, r⟩
              · exact .inl ⟨vs, e, r.unh⟩
              · exact .inr ⟨vs, e, z, r.unh⟩
  | ins c xs => obtain ⟨C, dx, vs, hc, e, l, r⟩ := r; exact ⟨C, dx, vs, hc, e, l, r.unh⟩
  | dead => exact r
theorem RG.unh {T : Tx} {m : Mm} {G : Gs} {H : Hp} {p : Addr} (R : RG T m G H) : RG T (m.unh p) G H :=
  ⟨R.len, R.nd, fun i o a e1 e2 => (R.ob i o a e1 e2).unh, fun a q => R.av a (List.mem_filter.mp q).1, fun a q z => R.dj a q (List.mem_filter.mp z).1, R.tb, fun x q => (R.xe x q).elim fun vs z => ⟨vs, fr_unh z.1, z.2.1, z.2.2.1, z.2.2.2.unh⟩⟩
/-- back from where p was hidden and written -/
theorem Keep.back {T : Tx} {m m' : Mm} {G : Gs} {H H' : Hp} (R : RG T m G H) {p : Addr} (h : H p = none) (k : Keep m H m' H') : Keep m H (m'.unh p) H' :=
  ⟨k.ext, fun a q => List.mem_filter.mpr ⟨k.avL a q, decide_eq_true fun e => R.avn q (e ▸ h)⟩, fun a q => k.avU a (List.mem_filter.mp q).1, k.th, k.fz⟩
theorem Keep.pen {m m' : Mm} {H H' : Hp} {p : Addr} {o : HO} (h : H p = none) (k : Keep m H m' H') : Keep m H m' (upd H' p o) :=
  ⟨k.ext, k.avL, k.avU, fun a u e z => nb_upd (k.th a u e z) (.inl (ne_of_none e h)), fun a u e z n => ⟨by rw [upd_ne (ne_of_none e h)]; exact (k.fz a u e z n).1, (k.fz a u e z n).2⟩⟩
mutual
/-- the hidden object is written -/
theorem RW.pen {T : Tx} {m : Mm} {H : Hp} {p : Addr} {o : HO} (hp : p ∈ m.av) : ∀ {w : W} {v : V}, RW T m H w v → RW T m (upd H p o) w v
  | _, _, .non => .non
  | _, _, .bl b => .bl b
  | _, _, .int i => .int i
  | _, _, .str s => .str s
  | _, _, .tup r f => .tup (RWs.pen hp r) (f.elim (fun f => .inl ⟨f.1, by rw [upd_ne (fr_ne hp f.1)]; exact f.2⟩) .inr)
  | _, _, .lst r n f => .lst (RWs.pen hp r) n (by rw [upd_ne (fr_ne hp n)]; exact f)
  | _, _, .fz r f => .fz (RWs.pen hp r) (f.elim (fun f => .inl ⟨f.1, rd_upd (fr_ne hp f.1) f.2⟩) .inr)
  | _, _, .dic r n f => .dic (RWe.pen hp r) n (rd_upd (fr_ne hp n) f)
  | _, _, .dit r z n f => .dit (RWt.pen hp r) z n (rd_upd (fr_ne hp n) f)
  | _, _, .obj r n c h l => .obj (RWs.pen hp r) n c (by rw [upd_ne (fr_ne hp n)]; exact h) l
  | _, _, .ref h => .ref h
  | _, _, .ty t => .ty t
  | _, _, .cls h => .cls h
theorem RWs.pen {T : Tx} {m : Mm} {H : Hp} {p : Addr} {o : HO} (hp : p ∈ m.av) : ∀ {ws : List W} {vs : List V}, RWs T m H ws vs → RWs T m (upd H p o) ws vs
  | _, _, .nil => .nil
  | _, _, .cons r t => .cons (RW.pen hp r) (RWs.pen hp t)
theorem RWe.pen {T : Tx} {m : Mm} {H : Hp} {p : Addr} {o : HO} (hp : p ∈ m.av) : ∀ {ws : List W} {vs : List (Key × V)}, RWe T m H ws vs → RWe T m (upd H p o) ws vs
  | _, _, .nil => .nil
  | _, _, .consI r t => .consI (RW.pen hp r) (RWe.pen hp t)
  | _, _, .consS r t => .consS (RW.pen hp r) (RWe.pen hp t)
theorem RWt.pen {T : Tx} {m : Mm} {H : Hp} {p : Addr} {o : HO} (hp : p ∈ m.av) : ∀ {ws : List W} {vs : List (List Key × V)}, RWt T m H ws vs → RWt T m (upd H p o) ws vs
  | _, _, .nil => .nil
  | _, _, .cons r t => .cons (RW.pen hp r) (RWt.pen hp t)
end
theorem RG.pen {T : Tx} {m : Mm} {G : Gs} {H : Hp} {p : Addr} {u : HO} (R : RG T m G H) (hp : p ∈ m.av) (hr : p ∉ m.r) (hu : NT u := by exact trivial) : RG T m G (upd H p u) := by
  refine ⟨R.len, R.nd, fun i o a e1 e2 => ?_, fun a q => nt_upd (R.av a q) (.inr hu), R.dj, tabs_upd R.tb (nt_some (R.av p hp)), fun x q => (R.xe x q).elim fun vs z => ⟨vs, z.1, by rw [upd_ne (fr_ne hp z.1)]; exact z.2.1, z.2.2.1, z.2.2.2.pen hp⟩⟩
  have ha : a ≠ p := fun e => hr (by rw [← e]; exact List.mem_of_getElem? e2)
  have r := R.ob i o a e1 e2
  cases o with
  | lst xs => obtain ⟨vs, e, r⟩ := r; exact ⟨vs, by rw [upd_ne ha]; exact e, r.pen hp⟩
  | dic xs => rcases r with ⟨vs, e, r⟩ | ⟨vs, e, z, r⟩
              · exact .inl ⟨vs, by rw [upd_ne ha]; exact e, r.pen hp⟩
              · exact .inr ⟨vs, by rw [upd_ne ha]; exact e, z, r.pen hp⟩
  | ins c xs => obtain ⟨C, dx, vs, hc, e, l, r⟩ := r; exact ⟨C, dx, vs, hc, by rw [upd_ne ha]; exact e, l, r.pen hp⟩
  | dead => obtain ⟨o, e, n⟩ := r; exact ⟨o, by rw [upd_ne ha]; exact e, n⟩
/-- a frozen dict is locked -/
theorem Keep.lock {m : Mm} {H : Hp} {d : Addr} {od : Obj} {u : HO} (h : H d = some u) (du : DD u) : Keep m H m (upd H d (.frz od u)) :=
  ⟨⟨[], (List.append_nil m.r).symm⟩, fun _ h => h, fun _ h => .inl h, fun a o e z => nb_upd ⟨o, e, z⟩ (.inr trivial), fun a o e _ n => ⟨by
    by_cases q : a = d
    · subst q
      rw [h] at e; cases e
      exact .inr ⟨du, od, upd_same⟩
    · exact .inl (by rw [upd_ne q]; exact e), n⟩⟩
theorem RG.other {T : Tx} {m : Mm} {G : Gs} {H : Hp} (R : RG T m G H) {d : Addr} {o : HO} (k : KR m H m (upd H d o)) (hd : d ∉ m.r) (hn : NT o) (hx : ∀ u, H d = some u → NT u) : RG T m G (upd H d o) :=
  ⟨R.len, R.nd, fun i x a e1 e2 => (R.ob i x a e1 e2).toR k (upd_ne fun e => hd (by rw [← e]; exact List.mem_of_getElem? e2)), fun a q => nt_upd (R.av a q) (.inr hn), R.dj, tabs_upd R.tb hx, fun x q => (R.xe x q).kr k⟩
theorem RG.lock {T : Tx} {m : Mm} {G : Gs} {H : Hp} (R : RG T m G H) {d : Addr} {od : Obj} {u : HO} (h : H d = some u) (du : DD u) (hd : d ∉ m.r) : RG T m G (upd H d (.frz od u)) := R.other (Keep.lock h du).kr hd trivial (nt_some ⟨_, h, du.nt⟩)
theorem RG.unlock {T : Tx} {m : Mm} {G : Gs} {H : Hp} (R : RG T m G H) {d : Addr} {od : Obj} {u : HO} (h : H d = some (.frz od u)) (hd : d ∉ m.r) (hn : NT u) : RG T m G (upd H d u) := R.other (KR.unlock h) hd hn (nt_some ⟨_, h, trivial⟩)
/-- from before the lock to behind the unlocking -/
theorem Keep.unlock {m m' : Mm} {H H' : Hp} {d : Addr} {od : Obj} {u : HO} (h : H d = some u) (k : Keep m (upd H d (.frz od u)) m' H') (hd : d ∉ m.r) (du : Nb u := by exact trivial) : Keep m H m' (upd H' d u) := by
  refine ⟨k.ext, k.avL, fun a q => ?_, fun a o e n => ?_, fun a o e z n => ?_⟩
  · rcases k.avU a q with q | q
    · exact .inl q
    · refine .inr fun o e n => ?_
      by_cases z : a = d
      · subst z
        exact q _ upd_same trivial
      · exact q o (by rw [upd_ne z]; exact e) n
  · by_cases z : a = d
    · subst z
      exact ⟨u, upd_same, du⟩
    · exact nb_upd (k.th a o (by rw [upd_ne z]; exact e) n) (.inl z)
  · by_cases q : a = d
    · subst q
      rw [h] at e; cases e
      exact ⟨.inl upd_same, (k.fz a _ upd_same trivial n).2⟩
    · rw [upd_ne q]
      exact k.fz a o (by rw [upd_ne q]; exact e) z n
/-- a tuple is none of what changes -/
theorem RG.tupFr {T : Tx} {m : Mm} {G : Gs} {H : Hp} (R : RG T m G H) {a : Addr} {vs : List V} (h : H a = some (.tup vs)) : m.fr a := by
  refine ⟨fun q => ?_, fun q => ?_⟩
  · obtain ⟨i, e⟩ := List.getElem?_of_mem q
    have hi : i < G.length := by rw [← R.len]; exact (List.getElem?_eq_some_iff.mp e).1
    obtain ⟨u, e2, n⟩ := (R.ob i G[i] a (by simp [hi]) e).nt
    rw [h] at e2; cases e2; exact n
  · obtain ⟨u, e2, n⟩ := R.av a q
    rw [h] at e2; cases e2; exact n
/-! ### the slots -/
structure RL (T : Tx) (m : Mm) (H : Hp) (ls : Ls) (σ : St) : Prop where
  len : ls.length = σ.length
  at_ : ∀ (i : Nat) (w : W), ls[i]? = some (some w) → ∃ v, σ[i]? = some (some v) ∧ RW T m H w v
theorem RL.keep {T : Tx} {m m' : Mm} {H H' : Hp} {ls : Ls} {σ : St} (h : RL T m H ls σ) (k : Keep m H m' H') : RL T m' H' ls σ :=
  ⟨h.len, fun i w e => by
    obtain ⟨v, e1, r⟩ := h.at_ i w e
    exact ⟨v, e1, r.keep k⟩⟩
theorem RL.set {T : Tx} {m : Mm} {H : Hp} {ls : Ls} {σ : St} (h : RL T m H ls σ) (i : Nat) {w : W} {v : V} (r : RW T m H w v) : RL T m H (ls.set i (some w)) (σ.set i (some v)) := by
  refine ⟨by rw [List.length_set, List.length_set, h.len], fun j x e => ?_⟩
  by_cases hj : j = i
  · subst hj
    have hi : j < ls.length := by
      have := (List.getElem?_eq_some_iff.mp e).1
      rwa [List.length_set] at this
    rw [List.getElem?_set_self hi] at e
    cases e
    exact ⟨v, List.getElem?_set_self (by rw [← h.len]; exact hi), r⟩
  · rw [List.getElem?_set_ne (Ne.symm hj)] at e
    obtain ⟨v', e1, r1⟩ := h.at_ j x e
    exact ⟨v', by rw [List.getElem?_set_ne (Ne.symm hj)]; exact e1, r1⟩
theorem RL.pen {T : Tx} {m : Mm} {H : Hp} {ls : Ls} {σ : St} {p : Addr} {o : HO} (h : RL T m H ls σ) (hp : p ∈ m.av) : RL T m (upd H p o) ls σ :=
  ⟨h.len, fun i w e => by
    obtain ⟨v, e1, r⟩ := h.at_ i w e
    exact ⟨v, e1, r.pen hp⟩⟩
theorem RL.kr {T : Tx} {m m' : Mm} {H H' : Hp} {ls : Ls} {σ : St} (h : RL T m H ls σ) (k : KR m H m' H') : RL T m' H' ls σ :=
  ⟨h.len, fun i w e => by
    obtain ⟨v, e1, r⟩ := h.at_ i w e
    exact ⟨v, e1, r.kr k⟩⟩
/-- slots emptied -/
def wipeL (ls : Ls) : List Nat → Ls
  | [] => ls
  | i :: r => (wipeL ls r).set i none
@[simp] theorem wipeL_nil (ls : Ls) : wipeL ls [] = ls := rfl
@[simp] theorem wipeL_cons (ls : Ls) (i : Nat) (r : List Nat) : wipeL ls (i :: r) = (wipeL ls r).set i none := rfl
theorem RL.wipe {T : Tx} {m : Mm} {H : Hp} {ls : Ls} {σ : St} (h : RL T m H ls σ) : ∀ vs : List Nat, RL T m H (wipeL ls vs) (L2.wipe σ vs)
  | [] => h
  | i :: r => by
    have q := RL.wipe h r
    refine ⟨by show ((wipeL ls r).set i none).length = ((L2.wipe σ r).set i none).length; rw [List.length_set, List.length_set, q.len], fun j w e => ?_⟩
    have e : ((wipeL ls r).set i none)[j]? = some (some w) := e
    show ∃ v, ((L2.wipe σ r).set i none)[j]? = some (some v) ∧ _
    by_cases hj : j = i
    · subst hj
      rw [List.getElem?_set] at e
      simp at e
    · rw [List.getElem?_set_ne (Ne.symm hj)] at e
      rw [List.getElem?_set_ne (Ne.symm hj)]
      exact q.at_ j w e
/-- only these slots were written -/
structure Chg (is : List Nat) (σ σ' : St) : Prop where
  len : σ'.length = σ.length
  at_ : ∀ j, j ∉ is → σ'[j]? = σ[j]?
theorem Chg.refl (is : List Nat) (σ : St) : Chg is σ σ := ⟨rfl, fun _ _ => rfl⟩
theorem Chg.trans {is : List Nat} {σ σ1 σ2 : St} (a : Chg is σ σ1) (b : Chg is σ1 σ2) : Chg is σ σ2 := ⟨b.len.trans a.len, fun j h => (b.at_ j h).trans (a.at_ j h)⟩
theorem Chg.mono {is js : List Nat} {σ σ1 : St} (a : Chg is σ σ1) (h : ∀ j ∈ is, j ∈ js) : Chg js σ σ1 := ⟨a.len, fun j n => a.at_ j fun q => n (h j q)⟩
theorem Chg.set {i : Nat} {σ : St} {v : Option V} : Chg [i] σ (σ.set i v) := ⟨List.length_set, fun j h => by rw [List.getElem?_set_ne (fun e => h (by simp [e]))]⟩
theorem wipe_at (σ : St) : ∀ (vs : List Nat) (j : Nat), (L2.wipe σ vs)[j]? = if j ∈ vs then (if j < σ.length then some none else none) else σ[j]?
  | [], j => by simp [L2.wipe]
  | v :: vs, j => by
    show ((L2.wipe σ vs).set v none)[j]? = _
    rw [List.getElem?_set]
    by_cases h : v = j
    · subst h
      rw [if_pos rfl, wipe_length]
      simp
    · rw [if_neg h, wipe_at σ vs j]
      have h' : ¬ j = v := fun e => h e.symm
      simp [h']
theorem Chg.wipe {is vs : List Nat} {σ σ' : St} (c : Chg is (L2.wipe σ vs) σ') (h : ∀ j ∈ is, j ∈ vs) : L2.wipe σ' vs = L2.wipe σ vs := by
  refine List.ext_getElem? fun j => ?_
  have hl : σ'.length = σ.length := by rw [c.len, wipe_length]
  rw [wipe_at, wipe_at, hl]
  by_cases hj : j ∈ vs
  · rw [if_pos hj, if_pos hj]
  · rw [if_neg hj, if_neg hj, c.at_ j (fun q => hj (h j q)), wipe_at, if_neg hj]
end U


namespace U
open PySem
open L2

/-- an exception that was raised: its class and its own dict -/
def RX (T : Tx) (m : Mm) (H : Hp) (w : W) (cls : Value) (d : Option Addr) : Prop :=
  ∃ (c : Nat) (ws : List W) (C dd : Addr) (vs : List V), w = .obj c ws ∧ T.ct c = some C ∧ cls = .ref C ∧ d = some dd ∧ m.fr dd ∧ H dd = some (.xd (List.zip (T.lay c) vs)) ∧ vs.length ≤ (T.lay c).length ∧ RWs T m H ws vs

def Out (T : Tx) (W0 : WX) (m : Mm) (H : Hp) (σ : St) (Q : VK) : Res → Prop
  | .ok w G' => ∀ m' v H', Keep m H m' H' → RG T m' G' H' → RW T m' H' w v → Q v H'
  | .exc w G' => ∀ m' c d H', Keep m H m' H' → RG T m' G' H' → RX T m' H' w c d → W0 c d σ H'
  | .stuck => False
def OutS (T : Tx) (W0 : WX) (m : Mm) (H : Hp) (D : Ends) : SRes → Prop
  | .nx ls' G' => ∀ m' σ' H', Keep m H m' H' → RG T m' G' H' → RL T m' H' ls' σ' → D.nx σ' H'
  | .rt w G' => ∀ m' v H', Keep m H m' H' → RG T m' G' H' → RW T m' H' w v → D.rt v H'
  | .bk ls' G' => ∀ m' σ' H', Keep m H m' H' → RG T m' G' H' → RL T m' H' ls' σ' → D.bk σ' H'
  | .ct ls' G' => ∀ m' σ' H', Keep m H m' H' → RG T m' G' H' → RL T m' H' ls' σ' → D.ct σ' H'
  | .exc w ls' G' => ∀ m' σ' c d H', Keep m H m' H' → RG T m' G' H' → RL T m' H' ls' σ' → RX T m' H' w c d → W0 c d σ' H'
  | .stuck => False
theorem Out.keep {T : Tx} {W0 : WX} {m m1 : Mm} {H H1 : Hp} {σ : St} {Q : VK} (k : Keep m H m1 H1) {r : Res} (h : Out T W0 m H σ Q r) : Out T W0 m1 H1 σ Q r := by
  cases r with
  | ok w G => exact fun m' v H' k' => h m' v H' (k.trans k')
  | exc w G => exact fun m' c d H' k' => h m' c d H' (k.trans k')
  | stuck => exact h
theorem OutS.keep {T : Tx} {W0 : WX} {m m1 : Mm} {H H1 : Hp} {D : Ends} (k : Keep m H m1 H1) {r : SRes} (h : OutS T W0 m H D r) : OutS T W0 m1 H1 D r := by
  cases r with
  | nx ls G => exact fun m' σ' H' k' => h m' σ' H' (k.trans k')
  | rt w G => exact fun m' v H' k' => h m' v H' (k.trans k')
  | bk ls G => exact fun m' σ' H' k' => h m' σ' H' (k.trans k')
  | ct ls G => exact fun m' σ' H' k' => h m' σ' H' (k.trans k')
  | exc w ls G => exact fun m' σ' c d H' k' => h m' σ' c d H' (k.trans k')
  | stuck => exact h

/-- what a body knows of where it stands -/
structure Ctx (T : Tx) (X : Cx) (W0 : WX) : Prop where
  tk : Takes X W0
  po : PassesOwn (model X.prog X.w) X.A X.env X.xe
  calm : X.calm = true
  nd : X.N.Nodup
  hu : X.A.units + 64 < cLine
  hK : X.K = T.K

abbrev EF := Ls → Gs → Res
abbrev SF := Ls → Gs → SRes

def Imp (T : Tx) (W0 : WX) (t : TE) (f : EF) : Prop :=
  ∀ (m : Mm) (ls : Ls) (G : Gs) (σ : St) (H : Hp) (Q : VK), RG T m G H → RL T m H ls σ → Out T W0 m H σ Q (f ls G) → t σ H Q
/-- a test: the value is a bool -/
def ImpT (T : Tx) (W0 : WX) (t : TT) (f : EF) : Prop :=
  ∀ (m : Mm) (ls : Ls) (G : Gs) (σ : St) (H : Hp) (Q : Bool → Hp → Prop), RG T m G H → RL T m H ls σ → Out T W0 m H σ (fun v H' => ∃ b, v = .bl b ∧ Q b H') (f ls G) → t σ H Q
def ImpS (T : Tx) (W0 : WX) (t : TS) (g : SF) : Prop :=
  ∀ (m : Mm) (ls : Ls) (G : Gs) (σ : St) (H : Hp) (D : Ends), RG T m G H → RL T m H ls σ → OutS T W0 m H D (g ls G) → t D σ H
/-- arguments: as a tuple of values -/
def ImpA (T : Tx) (W0 : WX) (t : TA) (f : EF) : Prop :=
  ∀ (m : Mm) (ls : Ls) (G : Gs) (σ : St) (H : Hp) (Q : List V → Hp → Prop), RG T m G H → RL T m H ls σ →
    (match f ls G with
      | .ok w G' => ∃ ws, w = .tup ws ∧ ∀ m' vs H', Keep m H m' H' → RG T m' G' H' → RWs T m' H' ws vs → Q vs H'
      | .exc w G' => ∀ m' c d H', Keep m H m' H' → RG T m' G' H' → RX T m' H' w c d → W0 c d σ H'
      | .stuck => False) → t σ H Q

def FE (T : Tx) (X : Cx) (W0 : WX) (e : Expr) (f : EF) : Prop := ∃ t, PE X e t ∧ Imp T W0 t f
def FT (T : Tx) (X : Cx) (W0 : WX) (e : Expr) (f : EF) : Prop := ∃ t, PT X e t ∧ ImpT T W0 t f
def FW (T : Tx) (X : Cx) (W0 : WX) (e : Expr) (f : EF) : Prop := ∃ t, PW X e t ∧ ImpT T W0 t f
def FS (T : Tx) (X : Cx) (W0 : WX) (st : Stmt) (g : SF) : Prop := ∃ t, PS X st t ∧ ImpS T W0 t g
def FSs (T : Tx) (X : Cx) (W0 : WX) (st : List Stmt) (g : SF) : Prop := ∃ t, PSs X st t ∧ ImpS T W0 t g
def FA (T : Tx) (X : Cx) (W0 : WX) (es : List Expr) (f : EF) : Prop := ∃ t, PA X es t ∧ ImpA T W0 t f

section
variable {T : Tx} {W0 : WX} {m : Mm} {ls : Ls} {G : Gs} {σ : St} {H : Hp}
/-- an expression, then what is done with its value -/
theorem Imp.go {t : TE} {f : EF} (h : Imp T W0 t f) {Q R : VK} {k : W → Gs → Res} (hG : RG T m G H) (hL : RL T m H ls σ) (ho : Out T W0 m H σ Q ((f ls G).bind k))
    (hk : ∀ (w : W) (G1 : Gs) (m1 : Mm) (v : V) (H1 : Hp), Keep m H m1 H1 → RG T m1 G1 H1 → RW T m1 H1 w v → RL T m1 H1 ls σ → Out T W0 m1 H1 σ Q (k w G1) → R v H1) : t σ H R := by
  refine h m ls G σ H R hG hL ?_
  cases e : f ls G with
  | ok w G1 =>
    rw [e] at ho
    exact fun m1 v H1 k1 g1 r1 => hk w G1 m1 v H1 k1 g1 r1 (hL.keep k1) (Out.keep k1 ho)
  | exc w G1 => rw [e] at ho; exact ho
  | stuck => rw [e] at ho; exact ho
theorem Imp.goS {t : TE} {f : EF} (h : Imp T W0 t f) {D : Ends} {R : VK} {k : W → Gs → SRes} (hG : RG T m G H) (hL : RL T m H ls σ) (ho : OutS T W0 m H D ((f ls G).sbind ls k))
    (hk : ∀ (w : W) (G1 : Gs) (m1 : Mm) (v : V) (H1 : Hp), Keep m H m1 H1 → RG T m1 G1 H1 → RW T m1 H1 w v → RL T m1 H1 ls σ → OutS T W0 m1 H1 D (k w G1) → R v H1) : t σ H R := by
  refine h m ls G σ H R hG hL ?_
  cases e : f ls G with
  | ok w G1 =>
    rw [e] at ho
    exact fun m1 v H1 k1 g1 r1 => hk w G1 m1 v H1 k1 g1 r1 (hL.keep k1) (OutS.keep k1 ho)
  | exc w G1 =>
    rw [e] at ho
    exact fun m1 c d H1 k1 g1 r1 => ho m1 σ c d H1 k1 g1 (hL.keep k1) r1
  | stuck => rw [e] at ho; exact ho
/-- the value of a test -/
def asB : W → (Bool → Res) → Res
  | .bl b, k => k b
  | _, _ => .stuck
@[simp] theorem asB_e1 : asB (.bl b) k = k b := rfl
def asBS : W → (Bool → SRes) → SRes
  | .bl b, k => k b
  | _, _ => .stuck
@[simp] theorem asBS_e1 : asBS (.bl b) k = k b := rfl
theorem ImpT.go {t : TT} {f : EF} (h : ImpT T W0 t f) {Q : VK} {R : Bool → Hp → Prop} {k : Bool → Gs → Res} (hG : RG T m G H) (hL : RL T m H ls σ) (ho : Out T W0 m H σ Q ((f ls G).bind fun w G1 => asB w fun b => k b G1))
    (hk : ∀ (b : Bool) (G1 : Gs) (m1 : Mm) (H1 : Hp), Keep m H m1 H1 → RG T m1 G1 H1 → RL T m1 H1 ls σ → Out T W0 m1 H1 σ Q (k b G1) → R b H1) : t σ H R := by
  refine h m ls G σ H R hG hL ?_
  cases e : f ls G with
  | ok w G1 =>
    rw [e] at ho
    intro m1 v H1 k1 g1 r1
    cases r1 with
    | bl b => exact ⟨b, rfl, hk b G1 m1 H1 k1 g1 (hL.keep k1) (Out.keep k1 ho)⟩
    | _ => exact False.elim ho
  | exc w G1 => rw [e] at ho; exact ho
  | stuck => rw [e] at ho; exact ho
theorem ImpT.goS {t : TT} {f : EF} (h : ImpT T W0 t f) {D : Ends} {R : Bool → Hp → Prop} {k : Bool → Gs → SRes} (hG : RG T m G H) (hL : RL T m H ls σ) (ho : OutS T W0 m H D ((f ls G).sbind ls fun w G1 => asBS w fun b => k b G1))
    (hk : ∀ (b : Bool) (G1 : Gs) (m1 : Mm) (H1 : Hp), Keep m H m1 H1 → RG T m1 G1 H1 → RL T m1 H1 ls σ → OutS T W0 m1 H1 D (k b G1) → R b H1) : t σ H R := by
  refine h m ls G σ H R hG hL ?_
  cases e : f ls G with
  | ok w G1 =>
    rw [e] at ho
    intro m1 v H1 k1 g1 r1
    cases r1 with
    | bl b => exact ⟨b, rfl, hk b G1 m1 H1 k1 g1 (hL.keep k1) (OutS.keep k1 ho)⟩
    | _ => exact False.elim ho
  | exc w G1 =>
    rw [e] at ho
    exact fun m1 c d H1 k1 g1 r1 => ho m1 σ c d H1 k1 g1 (hL.keep k1) r1
  | stuck => rw [e] at ho; exact ho
/-- arguments, then what is done with them -/
def asT : W → (List W → Res) → Res
  | .tup ws, k => k ws
  | _, _ => .stuck
@[simp] theorem asT_e1 : asT (.tup ws) k = k ws := rfl
theorem ImpA.go {t : TA} {f : EF} (h : ImpA T W0 t f) {Q : VK} {R : List V → Hp → Prop} {k : List W → Gs → Res} (hG : RG T m G H) (hL : RL T m H ls σ) (ho : Out T W0 m H σ Q ((f ls G).bind fun w G1 => asT w fun ws => k ws G1))
    (hk : ∀ (ws : List W) (G1 : Gs) (m1 : Mm) (vs : List V) (H1 : Hp), Keep m H m1 H1 → RG T m1 G1 H1 → RWs T m1 H1 ws vs → RL T m1 H1 ls σ → Out T W0 m1 H1 σ Q (k ws G1) → R vs H1) : t σ H R := by
  refine h m ls G σ H R hG hL ?_
  cases e : f ls G with
  | ok w G1 =>
    rw [e] at ho
    cases w with
    | tup ws => exact ⟨ws, rfl, fun m1 vs H1 k1 g1 r1 => hk ws G1 m1 vs H1 k1 g1 r1 (hL.keep k1) (Out.keep k1 ho)⟩
    | _ => exact False.elim ho
  | exc w G1 => rw [e] at ho; exact ho
  | stuck => rw [e] at ho; exact ho
end

/-! ### names, constants -/
@[simp] def lget : Ls → Nat → Option W
  | [], _ => none
  | x :: _, 0 => x
  | _ :: r, i + 1 => lget r i
theorem lget_some : ∀ {ls : Ls} {i : Nat} {w : W}, lget ls i = some w → ls[i]? = some (some w)
  | [], _, _, h => by cases h
  | x :: _, 0, _, h => by simp only [lget] at h; subst h; rfl
  | _ :: r, i + 1, _, h => by rw [List.getElem?_cons_succ]; exact lget_some (ls := r) h
@[simp] def eVar (i : Nat) : EF := fun ls G => match lget ls i with
  | some w => .ok w G
  | none => .stuck
@[simp] def eC (w : W) : EF := fun _ G => .ok w G
section
variable {T : Tx} {X : Cx} {W0 : WX}
theorem fe_var (i : Nat) {x : Str} {pos : Pos} (hN : X.N[i]? = some x := by rfl) (hv : Vis X.env.scope x := by first | exact Or.inl rfl | exact Or.inr (Or.inl rfl) | exact Or.inr (Or.inr rfl))
    (hd : (x == ("__debug__" : Str)) = false := by decide +kernel) (hcd : (x == ("__classdict__" : Str)) = false := by decide +kernel) : FE T X W0 (.Name x pos) (eVar i) := by
  refine ⟨_, pe_var hN hv hd hcd, fun m ls G σ H Q hG hL ho => ?_⟩
  unfold eVar at ho
  cases e : lget ls i with
  | none => rw [e] at ho; exact False.elim ho
  | some w =>
    rw [e] at ho
    obtain ⟨v, hv, r⟩ := hL.at_ i w (lget_some e)
    exact ⟨v, hv, ho m v H (.refl m H) hG r⟩
theorem fe_int {i : Int} {j pos} : FE T X W0 (.Constant (.int i) j pos) (eC (.int i)) := ⟨_, pe_int, fun m _ _ _ H _ hG _ ho => ho m _ H (.refl m H) hG (.int i)⟩
theorem fe_bl {b : Bool} {j pos} : FE T X W0 (.Constant (.bool b) j pos) (eC (.bl b)) := ⟨_, pe_bl, fun m _ _ _ H _ hG _ ho => ho m _ H (.refl m H) hG (.bl b)⟩
theorem fe_non {j pos} : FE T X W0 (.Constant .none j pos) (eC .non) := ⟨_, pe_non, fun m _ _ _ H _ hG _ ho => ho m _ H (.refl m H) hG .non⟩
theorem fe_str {x : Str} (s : List Nat) {j pos} (h : x = ⟨s.toArray⟩ := by decide +kernel) : FE T X W0 (.Constant (.str x) j pos) (eC (.str s)) := by
  subst h
  exact ⟨_, pe_str, fun m _ _ _ H _ hG _ ho => ho m _ H (.refl m H) hG (.str s)⟩
end

/-! ### two-place operations by values -/
abbrev OF := W → W → Gs → Res
/-- the reading r of an operation is implied by f -/
def ImpO (T : Tx) (W0 : WX) (r : R2) (f : OF) : Prop :=
  ∀ (m : Mm) (G : Gs) (σ : St) (H : Hp) (Q : VK) (a b : W) (x y : V), RG T m G H → RW T m H a x → RW T m H b y → Out T W0 m H σ Q (f a b G) → r x y H Q
@[simp] def eOp (f : OF) (fa fb : EF) : EF := fun ls G => (fa ls G).bind fun a G1 => (fb ls G1).bind fun b G2 => f a b G2
section
variable {T : Tx} {X : Cx} {W0 : WX} {a b c : Expr} {fa fb fc : EF} {pos : Pos}
theorem imp_op {r : R2} {f : OF} {ta tb : TE} (hr : ImpO T W0 r f) (ha : Imp T W0 ta fa) (hb : Imp T W0 tb fb) : Imp T W0 (tOp r ta tb) (eOp f fa fb) := by
  intro m ls G σ H Q hG hL ho
  refine ha.go hG hL ho fun w G1 m1 v H1 k1 g1 r1 l1 o1 => ?_
  refine hb.go g1 l1 o1 fun w2 G2 m2 v2 H2 k2 g2 r2 l2 o2 => ?_
  exact hr m2 G2 σ H2 Q w w2 v v2 g2 (r1.keep k2) r2 o2
theorem fe_op {op : Operator} {r : R2} {f : OF} (ho : OpR X (binaryOp op) r) (hr : ImpO T W0 r f) (ha : FE T X W0 a fa) (hb : FE T X W0 b fb) : FE T X W0 (.BinOp a op b pos) (eOp f fa fb) := by
  obtain ⟨ta, ha, ia⟩ := ha
  obtain ⟨tb, hb, ib⟩ := hb
  exact ⟨_, pe_op ho ha hb, imp_op hr ia ib⟩
theorem fe_cmp {op : CmpOp} {r : R2} {f : OF} (ho : OpR X (compareOp op) r) (hr : ImpO T W0 r f) (ha : FE T X W0 a fa) (hb : FE T X W0 b fb) (hm : behindInMarks op b = false := by rfl) : FE T X W0 (.Compare a [op] [b] pos) (eOp f fa fb) := by
  obtain ⟨ta, ha, ia⟩ := ha
  obtain ⟨tb, hb, ib⟩ := hb
  exact ⟨_, pe_cmpR ho ha hb hm, imp_op hr ia ib⟩
theorem impT_of {t : TE} {f : EF} (h : Imp T W0 t f) : ImpT T W0 (tTest t) f := fun m ls G σ H Q hG hL ho => h m ls G σ H _ hG hL ho
theorem ft_cmp {op : CmpOp} {r : R2} {f : OF} (ho : OpR X (compareOp op) r) (hr : ImpO T W0 r f) (ha : FE T X W0 a fa) (hb : FE T X W0 b fb) (hm : behindInMarks op b = false := by rfl) : FT T X W0 (.Compare a [op] [b] pos) (eOp f fa fb) := by
  obtain ⟨ta, ha, ia⟩ := ha
  obtain ⟨tb, hb, ib⟩ := hb
  exact ⟨_, pt_cmpR ho ha hb hm, impT_of (imp_op hr ia ib)⟩
/-- a < b < c -/
@[simp] def eChain (f f' : OF) (fa fb fc : EF) : EF := fun ls G => (fa ls G).bind fun a G1 => (fb ls G1).bind fun b G2 => (f a b G2).bind fun z G3 => asB z fun k => if k then (fc ls G3).bind fun c G4 => f' b c G4 else .ok (.bl false) G3
theorem imp_chain {r r' : R2} {f f' : OF} {ta tb tc : TE} (hr : ImpO T W0 r f) (hr' : ImpO T W0 r' f') (ha : Imp T W0 ta fa) (hb : Imp T W0 tb fb) (hc : Imp T W0 tc fc) : Imp T W0 (tChain r r' ta tb tc) (eChain f f' fa fb fc) := by
  intro m ls G σ H Q hG hL ho
  refine ha.go hG hL ho fun w G1 m1 v H1 k1 g1 r1 l1 o1 => ?_
  refine hb.go g1 l1 o1 fun w2 G2 m2 v2 H2 k2 g2 r2 l2 o2 => ?_
  refine hr m2 G2 σ H2 _ w w2 v v2 g2 (r1.keep k2) r2 ?_
  cases e : f w w2 G2 with
  | stuck => rw [e] at o2; exact o2
  | exc x G3 => rw [e] at o2; exact o2
  | ok z G3 =>
    rw [e] at o2
    intro m3 v3 H3 k3 g3 r3
    cases r3 with
    | bl k =>
      refine ⟨k, rfl, ?_⟩
      cases k with
      | false => exact (Out.keep k3 o2) m3 _ H3 (.refl _ _) g3 (.bl false)
      | true => exact hc.go g3 (l2.keep k3) (Out.keep k3 o2) fun w4 G4 m4 v4 H4 k4 g4 r4 l4 o4 => hr' m4 G4 σ H4 Q w2 w4 v2 v4 g4 ((r2.keep k3).keep k4) r4 o4
    | _ => exact False.elim o2
theorem fe_chain {op op' : CmpOp} {r r' : R2} {f f' : OF} (ho : OpR X (compareOp op) r) (ho' : OpR X (compareOp op') r') (hr : ImpO T W0 r f) (hr' : ImpO T W0 r' f') (ha : FE T X W0 a fa) (hb : FE T X W0 b fb) (hc : FE T X W0 c fc)
    (hm : lastMarks [op, op'] [b, c] = false := by rfl) : FE T X W0 (.Compare a [op, op'] [b, c] pos) (eChain f f' fa fb fc) := by
  obtain ⟨ta, ha, ia⟩ := ha
  obtain ⟨tb, hb, ib⟩ := hb
  obtain ⟨tc, hc, ic⟩ := hc
  exact ⟨_, pe_chain ho ho' ha hb hc hm, imp_chain hr hr' ia ib ic⟩
theorem ft_chain {op op' : CmpOp} {r r' : R2} {f f' : OF} (ho : OpR X (compareOp op) r) (ho' : OpR X (compareOp op') r') (hr : ImpO T W0 r f) (hr' : ImpO T W0 r' f') (ha : FE T X W0 a fa) (hb : FE T X W0 b fb) (hc : FE T X W0 c fc)
    (hm : lastMarks [op, op'] [b, c] = false := by rfl) : FT T X W0 (.Compare a [op, op'] [b, c] pos) (eChain f f' fa fb fc) := by
  obtain ⟨ta, ha, ia⟩ := ha
  obtain ⟨tb, hb, ib⟩ := hb
  obtain ⟨tc, hc, ic⟩ := hc
  exact ⟨_, pt_chain ho ho' ha hb hc hm, impT_of (imp_chain hr hr' ia ib ic)⟩

/-! ### tests -/
theorem ft_val {e : Expr} {f : EF} (h : FE T X W0 e f) (he : ∀ whole, isTrue e X.env whole = (do let v ← whole; standAt e.pos; holding [v] (truthy v)) := by intro _; rfl) : FT T X W0 e f := by
  obtain ⟨t, h, i⟩ := h
  exact ⟨_, pt_val h he, fun m ls G σ H Q hG hL ho => i m ls G σ H _ hG hL ho⟩
@[simp] def eNot (fa : EF) : EF := fun ls G => (fa ls G).bind fun w G1 => asB w fun b => .ok (.bl (!b)) G1
@[simp] def eAnd (fa fb : EF) : EF := fun ls G => (fa ls G).bind fun w G1 => asB w fun b => if b then fb ls G1 else .ok (.bl false) G1
@[simp] def eOr (fa fb : EF) : EF := fun ls G => (fa ls G).bind fun w G1 => asB w fun b => if b then .ok (.bl true) G1 else fb ls G1
@[simp] def eIf (fc fa fb : EF) : EF := fun ls G => (fc ls G).bind fun w G1 => asB w fun b => if b then fa ls G1 else fb ls G1
theorem ft_not (h : FT T X W0 a fa) : FT T X W0 (.UnaryOp .Not a pos) (eNot fa) := by
  obtain ⟨t, h, i⟩ := h
  refine ⟨_, pt_not h, fun m ls G σ H Q hG hL ho => ?_⟩
  refine i.go hG hL ho fun b G1 m1 H1 k1 g1 l1 o1 => ?_
  obtain ⟨b', e, q⟩ := o1 m1 _ H1 (.refl _ _) g1 (.bl _)
  cases e
  exact q
theorem fe_not (h : FE T X W0 a fa) : FE T X W0 (.UnaryOp .Not a pos) (eNot fa) := by
  obtain ⟨t, h, i⟩ := h
  refine ⟨_, pe_not h, fun m ls G σ H Q hG hL ho => ?_⟩
  refine i.go hG hL ho fun w G1 m1 v H1 k1 g1 r1 l1 o1 => ?_
  cases r1 with
  | bl b => exact ⟨b, rfl, o1 m1 _ H1 (.refl _ _) g1 (.bl _)⟩
  | _ => exact False.elim o1
variable {rest : List Expr}
theorem fw_and1 (h : FT T X W0 a fa) : FW T X W0 (.BoolOp .And [a] pos) fa := let ⟨t, h, i⟩ := h; ⟨t, pw_and1 h, i⟩
theorem fw_or1 (h : FT T X W0 a fa) : FW T X W0 (.BoolOp .Or [a] pos) fa := let ⟨t, h, i⟩ := h; ⟨t, pw_or1 h, i⟩
theorem fw_and (ha : FT T X W0 a fa) (hb : FW T X W0 (.BoolOp .And (b :: rest) pos) fb) : FW T X W0 (.BoolOp .And (a :: b :: rest) pos) (eAnd fa fb) := by
  obtain ⟨ta, ha, ia⟩ := ha
  obtain ⟨tb, hb, ib⟩ := hb
  refine ⟨_, pw_and ha hb, fun m ls G σ H Q hG hL ho => ?_⟩
  refine ia.go hG hL ho fun b G1 m1 H1 k1 g1 l1 o1 => ?_
  cases b with
  | true => exact ib m1 ls G1 σ H1 Q g1 l1 o1
  | false =>
    obtain ⟨b', e, q⟩ := o1 m1 _ H1 (.refl _ _) g1 (.bl false)
    cases e
    exact q
theorem fw_or (ha : FT T X W0 a fa) (hb : FW T X W0 (.BoolOp .Or (b :: rest) pos) fb) : FW T X W0 (.BoolOp .Or (a :: b :: rest) pos) (eOr fa fb) := by
  obtain ⟨ta, ha, ia⟩ := ha
  obtain ⟨tb, hb, ib⟩ := hb
  refine ⟨_, pw_or ha hb, fun m ls G σ H Q hG hL ho => ?_⟩
  refine ia.go hG hL ho fun b G1 m1 H1 k1 g1 l1 o1 => ?_
  cases b with
  | false => exact ib m1 ls G1 σ H1 Q g1 l1 o1
  | true =>
    obtain ⟨b', e, q⟩ := o1 m1 _ H1 (.refl _ _) g1 (.bl true)
    cases e
    exact q
theorem ft_w {e : Expr} (h : FW T X W0 e fa) : FT T X W0 e fa := let ⟨t, h, i⟩ := h; ⟨t, h.pt, i⟩
theorem fe_one {op} (h : FE T X W0 a fa) : FE T X W0 (.BoolOp op [a] pos) fa := let ⟨t, h, i⟩ := h; ⟨t, pe_one h, i⟩
theorem fe_and (ha : FE T X W0 a fa) (hb : FE T X W0 (.BoolOp .And (b :: rest) pos) fb) : FE T X W0 (.BoolOp .And (a :: b :: rest) pos) (eAnd fa fb) := by
  obtain ⟨ta, ha, ia⟩ := ha
  obtain ⟨tb, hb, ib⟩ := hb
  refine ⟨_, pe_and ha hb, fun m ls G σ H Q hG hL ho => ?_⟩
  refine ia.go hG hL ho fun w G1 m1 v H1 k1 g1 r1 l1 o1 => ?_
  cases r1 with
  | bl b =>
    refine ⟨b, rfl, ?_⟩
    cases b with
    | true => exact ib m1 ls G1 σ H1 Q g1 l1 o1
    | false => exact o1 m1 _ H1 (.refl _ _) g1 (.bl false)
  | _ => exact False.elim o1
theorem fe_or (ha : FE T X W0 a fa) (hb : FE T X W0 (.BoolOp .Or (b :: rest) pos) fb) : FE T X W0 (.BoolOp .Or (a :: b :: rest) pos) (eOr fa fb) := by
  obtain ⟨ta, ha, ia⟩ := ha
  obtain ⟨tb, hb, ib⟩ := hb
  refine ⟨_, pe_or ha hb, fun m ls G σ H Q hG hL ho => ?_⟩
  refine ia.go hG hL ho fun w G1 m1 v H1 k1 g1 r1 l1 o1 => ?_
  cases r1 with
  | bl b =>
    refine ⟨b, rfl, ?_⟩
    cases b with
    | false => exact ib m1 ls G1 σ H1 Q g1 l1 o1
    | true => exact o1 m1 _ H1 (.refl _ _) g1 (.bl true)
  | _ => exact False.elim o1
theorem fe_if (hc : FT T X W0 c fc) (ha : FE T X W0 a fa) (hb : FE T X W0 b fb) : FE T X W0 (.IfExp c a b pos) (eIf fc fa fb) := by
  obtain ⟨tc, hc, ic⟩ := hc
  obtain ⟨ta, ha, ia⟩ := ha
  obtain ⟨tb, hb, ib⟩ := hb
  refine ⟨_, pe_ifExp hc ha hb, fun m ls G σ H Q hG hL ho => ?_⟩
  refine ic.go hG hL ho fun b G1 m1 H1 k1 g1 l1 o1 => ?_
  cases b with
  | true => exact ia m1 ls G1 σ H1 Q g1 l1 o1
  | false => exact ib m1 ls G1 σ H1 Q g1 l1 o1
end
end U

namespace U
open PySem
open L2

@[simp] def SZ : Nat := 16777216
theorem sz_eq : SZ = sizeLine := by decide +kernel

section
variable {T : Tx} {W0 : WX} {m : Mm} {G : Gs} {σ : St} {H : Hp} {Q : VK}
theorem Out.now {w : W} {v : V} (hG : RG T m G H) (h : Out T W0 m H σ Q (.ok w G)) (r : RW T m H w v) : Q v H := h m v H (.refl m H) hG r
theorem Out.newL {ws : List W} {vs : List V} {p : Addr} (hG : RG T m G H) (h : Out T W0 m H σ Q (.ok (.lst ws) G)) (r : RWs T m H ws vs) (hp : H p = none) : Q (.ref p) (upd H p (.lst vs)) :=
  h m _ _ (.new hG hp) (hG.new hp) (.lst (r.keep (.new hG hp)) (hG.free hp) upd_same)
theorem Out.newT {ws : List W} {vs : List V} {p : Addr} (hG : RG T m G H) (h : Out T W0 m H σ Q (.ok (.tup ws) G)) (r : RWs T m H ws vs) (hp : H p = none) : Q (.ref p) (upd H p (.tup vs)) :=
  h m _ _ (.new hG hp) (hG.new hp) (.tup (r.keep (.new hG hp)) (.inl ⟨hG.free hp, upd_same⟩))
/-- a new list that may change -/
theorem Out.newM {ws : List W} {vs : List V} {p : Addr} (hG : RG T m G H) (h : Out T W0 m H σ Q (.ok (.ref G.length) (G ++ [.lst ws]))) (r : RWs T m H ws vs) (hp : H p = none) : Q (.ref p) (upd H p (.lst vs)) := by
  have k : Keep m H (m.push p) (upd H p (.lst vs)) := Keep.push hG hp
  refine h (m.push p) _ _ k (hG.push hp ⟨vs, upd_same, r.keep k⟩) (.ref ?_)
  show (m.r ++ [p])[G.length]? = some p
  rw [← hG.len, List.getElem?_append_right (Nat.le_refl _), Nat.sub_self]
  rfl
end

/-! ### +, -, *, //, %, ** -/
def addW : OF
  | .int i, .int j, G => .ok (.int (i + j)) G
  | .str s, .str t, G => if s.length + t.length ≤ SZ then .ok (.str (s ++ t)) G else .stuck
  | .lst xs, .lst ys, G => if xs.length + ys.length ≤ SZ then .ok (.lst (xs ++ ys)) G else .stuck
  | .tup xs, .tup ys, G => if xs.length + ys.length ≤ SZ then .ok (.tup (xs ++ ys)) G else .stuck
  | _, _, _ => .stuck
@[simp] theorem addW_e1 : addW (.int i) (.int j) G = .ok (.int (i + j)) G := rfl
@[simp] theorem addW_e2 : addW (.str s) (.str t) G = if s.length + t.length ≤ SZ then .ok (.str (s ++ t)) G else .stuck := rfl
@[simp] theorem addW_e3 : addW (.lst xs) (.lst ys) G = if xs.length + ys.length ≤ SZ then .ok (.lst (xs ++ ys)) G else .stuck := rfl
@[simp] theorem addW_e4 : addW (.tup xs) (.tup ys) G = if xs.length + ys.length ≤ SZ then .ok (.tup (xs ++ ys)) G else .stuck := rfl
theorem str_app (s t : List Nat) : ((⟨s.toArray⟩ : Str) ++ (⟨t.toArray⟩ : Str)) = ⟨(s ++ t).toArray⟩ := by
  show (⟨s.toArray ++ t.toArray⟩ : Str) = _
  simp
theorem str_len (s : List Nat) : (⟨s.toArray⟩ : Str).length = s.length := by simp [Str.length]
def rAddU (K : PySem.W.Frag) : R2 := fun x y H Q => rI0 (fun i j => .int (i + j)) x y H Q ∨ (∃ i j, x = .str i ∧ y = .str j ∧ i.length + j.length ≤ sizeLine ∧ Q (.str (i ++ j)) H) ∨ rCat x y H Q ∨ rCatA K x y H Q
theorem or_addU {X : Cx} : OpR X (binaryOp .Add) (rAddU X.K) := op_add.or (op_add_str.or (op_cat.or op_catA))
theorem io_add {T : Tx} {W0 : WX} : ImpO T W0 (rAddU T.K) addW := by
  intro m G σ H Q a b x y hG ra rb ho
  cases ra with
  | int i => cases rb with
    | int j => exact .inl ⟨i, j, rfl, rfl, ho.now hG (.int _)⟩
    | _ => exact False.elim ho
  | str s => cases rb with
    | str t =>
      simp only [addW] at ho
      split at ho
      · rename_i h
        refine .inr (.inl ⟨_, _, rfl, rfl, by rw [str_len, str_len, ← sz_eq]; exact h, ?_⟩)
        rw [str_app]
        exact ho.now hG (.str _)
      · exact False.elim ho
    | _ => exact False.elim ho
  | lst ra na ea => cases rb with
    | lst rb nb eb =>
      simp only [addW] at ho
      split at ho
      · rename_i h
        exact .inr (.inr (.inl ⟨_, _, _, _, rfl, rfl, ea, eb, by rw [← ra.length, ← rb.length, ← sz_eq]; exact h, fun p hp => ho.newL hG (ra.append rb) hp⟩))
      · exact False.elim ho
    | _ => exact False.elim ho
  | tup ra ea => cases rb with
    | tup rb eb =>
      simp only [addW] at ho
      split at ho
      · rename_i h
        refine .inr (.inr (.inr ⟨_, _, _, _, rfl, rfl, ea.sq, eb.sq, by rw [← ra.length, ← rb.length, ← sz_eq]; exact h, fun e => ?_, fun _ e => ?_, fun _ _ p hp => ho.newT hG (ra.append rb) hp⟩))
        · subst e
          cases ra
          exact ho.now hG (.tup rb eb)
        · subst e
          cases rb
          rw [List.append_nil] at ho
          exact ho.now hG (.tup ra ea)
      · exact False.elim ho
    | _ => exact False.elim ho
  | _ => exact False.elim ho
def subW : OF
  | .int i, .int j, G => .ok (.int (i - j)) G
  | _, _, _ => .stuck
@[simp] theorem subW_e1 : subW (.int i) (.int j) G = .ok (.int (i - j)) G := rfl
theorem io_sub {T : Tx} {W0 : WX} : ImpO T W0 (rI0 fun i j => .int (i - j)) subW := by
  intro m G σ H Q a b x y hG ra rb ho
  cases ra with
  | int i => cases rb with
    | int j => exact ⟨i, j, rfl, rfl, ho.now hG (.int _)⟩
    | _ => exact False.elim ho
  | _ => exact False.elim ho
def cMul (i j : Int) : Bool := i.natAbs.log2 + j.natAbs.log2 < 1000000
def mulW : OF
  | .int i, .int j, G => if cMul i j then .ok (.int (i * j)) G else .stuck
  | .lst xs, .int k, G => if k < 16777216 ∧ -16777216 < k ∧ xs.length * k.toNat ≤ SZ then .ok (.lst (List.replicate k.toNat xs).flatten) G else .stuck
  | _, _, _ => .stuck
@[simp] theorem mulW_e1 : mulW (.int i) (.int j) G = if cMul i j then .ok (.int (i * j)) G else .stuck := rfl
@[simp] theorem mulW_e2 : mulW (.lst xs) (.int k) G = if k < 16777216 ∧ -16777216 < k ∧ xs.length * k.toNat ≤ SZ then .ok (.lst (List.replicate k.toNat xs).flatten) G else .stuck := rfl
def rMulU : R2 := fun x y H Q => rI CMulW (fun i j => .int (i * j)) x y H Q ∨ rRep x y H Q
theorem or_mulU {X : Cx} : OpR X (binaryOp .Mult) rMulU := op_mulW.or op_rep
theorem RWs.rep {T : Tx} {m : Mm} {H : Hp} {ws : List W} {vs : List V} (r : RWs T m H ws vs) : ∀ n : Nat, RWs T m H (List.replicate n ws).flatten (List.replicate n vs).flatten
  | 0 => .nil
  | n + 1 => by
    rw [List.replicate_succ, List.replicate_succ, List.flatten_cons, List.flatten_cons]
    exact r.append (RWs.rep r n)
theorem io_mul {T : Tx} {W0 : WX} : ImpO T W0 rMulU mulW := by
  intro m G σ H Q a b x y hG ra rb ho
  cases ra with
  | int i => cases rb with
    | int j =>
      simp only [mulW] at ho
      split at ho
      · rename_i h
        exact .inl ⟨i, j, rfl, rfl, (show i.natAbs.log2 + j.natAbs.log2 < 1000000 from of_decide_eq_true h), ho.now hG (.int _)⟩
      · exact False.elim ho
    | _ => exact False.elim ho
  | lst ra na ea => cases rb with
    | int k =>
      simp only [mulW] at ho
      split at ho
      · rename_i h
        refine .inr ⟨_, k, _, rfl, rfl, ea, by have := h.2.1; omega, by have := h.1; omega, by rw [← ra.length, ← sz_eq]; exact h.2.2, fun p hp => ho.newL hG (ra.rep _) hp⟩
      · exact False.elim ho
    | _ => exact False.elim ho
  | _ => exact False.elim ho
def cDiv (j : Int) : Bool := decide (0 < j) && decide (j.natAbs.log2 < 9000)
def divW : OF
  | .int i, .int j, G => if cDiv j then .ok (.int (i / j)) G else .stuck
  | _, _, _ => .stuck
@[simp] theorem divW_e1 : divW (.int i) (.int j) G = if cDiv j then .ok (.int (i / j)) G else .stuck := rfl
theorem io_div {T : Tx} {W0 : WX} : ImpO T W0 (rI CDivW fun i j => .int (i / j)) divW := by
  intro m G σ H Q a b x y hG ra rb ho
  cases ra with
  | int i => cases rb with
    | int j =>
      simp only [divW] at ho
      split at ho
      · rename_i h
        unfold cDiv at h
        rw [Bool.and_eq_true] at h
        exact ⟨i, j, rfl, rfl, ⟨of_decide_eq_true h.1, of_decide_eq_true h.2⟩, ho.now hG (.int _)⟩
      · exact False.elim ho
    | _ => exact False.elim ho
  | _ => exact False.elim ho
def modW : OF
  | .int i, .int j, G => if 0 < j then .ok (.int (i % j)) G else .stuck
  | _, _, _ => .stuck
@[simp] theorem modW_e1 : modW (.int i) (.int j) G = if 0 < j then .ok (.int (i % j)) G else .stuck := rfl
theorem io_mod {T : Tx} {W0 : WX} : ImpO T W0 (rI (fun _ j => 0 < j) fun i j => .int (i % j)) modW := by
  intro m G σ H Q a b x y hG ra rb ho
  cases ra with
  | int i => cases rb with
    | int j =>
      simp only [modW] at ho
      split at ho
      · rename_i h
        exact ⟨i, j, rfl, rfl, h, ho.now hG (.int _)⟩
      · exact False.elim ho
    | _ => exact False.elim ho
  | _ => exact False.elim ho
def cPow (i j : Int) : Bool := decide (0 ≤ j) && decide (j ≤ 1000000) && decide (i.natAbs < 2 ^ 64)
def powW : OF
  | .int i, .int j, G => if cPow i j then .ok (.int (i ^ j.toNat)) G else .stuck
  | _, _, _ => .stuck
@[simp] theorem powW_e1 : powW (.int i) (.int j) G = if cPow i j then .ok (.int (i ^ j.toNat)) G else .stuck := rfl
theorem io_pow {T : Tx} {W0 : WX} : ImpO T W0 (rI CPow fun i j => .int (i ^ j.toNat)) powW := by
  intro m G σ H Q a b x y hG ra rb ho
  cases ra with
  | int i => cases rb with
    | int j =>
      simp only [powW] at ho
      split at ho
      · rename_i h
        unfold cPow at h
        rw [Bool.and_eq_true, Bool.and_eq_true] at h
        exact ⟨i, j, rfl, rfl, ⟨of_decide_eq_true h.1.1, of_decide_eq_true h.1.2, of_decide_eq_true h.2⟩, ho.now hG (.int _)⟩
      · exact False.elim ho
    | _ => exact False.elim ho
  | _ => exact False.elim ho

/-! ### order -/
def cmpI (p : Int → Int → Bool) (q : List Nat → List Nat → Bool) : OF
  | .int i, .int j, G => .ok (.bl (p i j)) G
  | .str s, .str t, G => .ok (.bl (q s t)) G
  | _, _, _ => .stuck
@[simp] theorem cmpI_e1 : cmpI p q (.int i) (.int j) G = .ok (.bl (p i j)) G := rfl
@[simp] theorem cmpI_e2 : cmpI p q (.str s) (.str t) G = .ok (.bl (q s t)) G := rfl
def rCmpU (p : Int → Int → Bool) (q : List Nat → List Nat → Bool) : R2 := fun x y H Q => rI0 (fun i j => .bl (p i j)) x y H Q ∨ ∃ i j, x = .str i ∧ y = .str j ∧ Q (.bl (q i.cps.toList j.cps.toList)) H
theorem io_cmp {T : Tx} {W0 : WX} {p : Int → Int → Bool} {q : List Nat → List Nat → Bool} : ImpO T W0 (rCmpU p q) (cmpI p q) := by
  intro m G σ H Q a b x y hG ra rb ho
  cases ra with
  | int i => cases rb with
    | int j => exact .inl ⟨i, j, rfl, rfl, ho.now hG (.bl _)⟩
    | _ => exact False.elim ho
  | str s => cases rb with
    | str t => exact .inr ⟨_, _, rfl, rfl, by simpa using ho.now hG (.bl _)⟩
    | _ => exact False.elim ho
  | _ => exact False.elim ho
@[simp] def ltW : OF := cmpI (fun i j => decide (i < j)) (fun s t => decide (s < t))
@[simp] def leW : OF := cmpI (fun i j => decide (i ≤ j)) (fun s t => !decide (t < s))
@[simp] def gtW : OF := cmpI (fun i j => decide (j < i)) (fun s t => decide (t < s))
@[simp] def geW : OF := cmpI (fun i j => decide (j ≤ i)) (fun s t => !decide (s < t))
section
variable {X : Cx}
theorem or_lt : OpR X (compareOp .Lt) (rCmpU (fun i j => decide (i < j)) (fun s t => decide (s < t))) := op_lt.or op_lt_str
theorem or_le : OpR X (compareOp .LtE) (rCmpU (fun i j => decide (i ≤ j)) (fun s t => !decide (t < s))) := op_le.or op_le_str
theorem or_gt : OpR X (compareOp .Gt) (rCmpU (fun i j => decide (j < i)) (fun s t => decide (t < s))) := op_gt.or op_gt_str
theorem or_ge : OpR X (compareOp .GtE) (rCmpU (fun i j => decide (j ≤ i)) (fun s t => !decide (s < t))) := op_ge.or op_ge_str
end

/-! ### equality -/
def eqS : W → W → Option Bool
  | .non, .non => some true | .non, .int _ => some false | .int _, .non => some false | .non, .bl _ => some false | .bl _, .non => some false | .non, .str _ => some false | .str _, .non => some false
  | .int i, .int j => some (decide (i = j)) | .bl i, .bl j => some (decide (i = j)) | .str s, .str t => some (decide (s = t))
  | .int _, .str _ => some false | .str _, .int _ => some false | .bl _, .str _ => some false | .str _, .bl _ => some false
  | _, _ => none
@[simp] theorem eqS_e1 : eqS (.non) (.non) = some true := rfl
@[simp] theorem eqS_e2 : eqS (.non) (.int x1) = some false := rfl
@[simp] theorem eqS_e3 : eqS (.int x1) (.non) = some false := rfl
@[simp] theorem eqS_e4 : eqS (.non) (.bl x1) = some false := rfl
@[simp] theorem eqS_e5 : eqS (.bl x1) (.non) = some false := rfl
@[simp] theorem eqS_e6 : eqS (.non) (.str x1) = some false := rfl
@[simp] theorem eqS_e7 : eqS (.str x1) (.non) = some false := rfl
@[simp] theorem eqS_e8 : eqS (.int i) (.int j) = some (decide (i = j)) := rfl
@[simp] theorem eqS_e9 : eqS (.bl i) (.bl j) = some (decide (i = j)) := rfl
@[simp] theorem eqS_e10 : eqS (.str s) (.str t) = some (decide (s = t)) := rfl
@[simp] theorem eqS_e11 : eqS (.int x1) (.str x2) = some false := rfl
@[simp] theorem eqS_e12 : eqS (.str x1) (.int x2) = some false := rfl
@[simp] theorem eqS_e13 : eqS (.bl x1) (.str x2) = some false := rfl
@[simp] theorem eqS_e14 : eqS (.str x1) (.bl x2) = some false := rfl
mutual
def toD : W → Option PyData
  | .non => some .none
  | .bl b => some (.bool b)
  | .int i => some (.int i)
  | .str s => some (.str ⟨s.toArray⟩)
  | .tup xs => (toDs xs).map .tuple
  | .lst xs => (toDs xs).map .list
  | _ => none
def toDs : List W → Option (List PyData)
  | [] => some []
  | x :: r => match toD x, toDs r with
    | some d, some ds => some (d :: ds)
    | _, _ => none
end
@[simp] def eqB (a b : W) : Option Bool := match eqS a b with
  | some r => some r
  | none => match toD a, toD b with
    | some d, some e => if SeqAt.shaped d && SeqAt.shaped e then some (PyData.eqv d e) else none
    | _, _ => none
@[simp] def eqW : OF := fun a b G => match eqB a b with
  | some r => .ok (.bl r) G
  | none => .stuck
@[simp] def neW : OF := fun a b G => match eqB a b with
  | some r => .ok (.bl (!r)) G
  | none => .stuck
section
variable {T : Tx} {m : Mm} {H : Hp}
theorem eqS_ok {a b : W} {x y : V} {r : Bool} (ra : RW T m H a x) (rb : RW T m H b y) (h : eqS a b = some r) : scal x y = true ∧ decide (x = y) = r := by
  cases ra <;> cases rb <;> simp only [eqS] at h <;> first
    | (cases h; done)
    | (cases h; exact ⟨rfl, by simp⟩)
    | (injection h with h; subst h; exact ⟨rfl, by simp⟩)
    | (injection h with h; subst h; refine ⟨rfl, ?_⟩; rw [Bool.eq_iff_iff]; simp)
mutual
theorem toD_ok : ∀ {w : W} {v : V} {d : PyData}, RW T m H w v → toD w = some d → Dp T.K H v d
  | _, _, _, .non, h => by simp only [toD] at h; cases h; exact .non
  | _, _, _, .bl b, h => by simp only [toD] at h; cases h; exact .bl b
  | _, _, _, .int b, h => by simp only [toD] at h; cases h; exact .int b
  | _, _, _, .str b, h => by simp only [toD] at h; cases h; exact .str _
  | .tup ws, _, _, .tup r f, h => by
    simp only [toD] at h
    cases e : toDs ws with
    | none => rw [e] at h; cases h
    | some ds => rw [e] at h; cases h; exact .tup f.sq (toDs_ok r e)
  | .lst ws, _, _, .lst r n f, h => by
    simp only [toD] at h
    cases e : toDs ws with
    | none => rw [e] at h; cases h
    | some ds => rw [e] at h; cases h; exact .lst (SqL.of f) (toDs_ok r e)
  | _, _, _, .fz _ _, h => by simp only [toD] at h; cases h
  | _, _, _, .dic _ _ _, h => by simp only [toD] at h; cases h
  | _, _, _, .dit _ _ _ _, h => by simp only [toD] at h; cases h
  | _, _, _, .obj _ _ _ _ _, h => by simp only [toD] at h; cases h
  | _, _, _, .ref _, h => by simp only [toD] at h; cases h
  | _, _, _, .ty _, h => by simp only [toD] at h; cases h
  | _, _, _, .cls _, h => by simp only [toD] at h; cases h
theorem toDs_ok : ∀ {ws : List W} {vs : List V} {ds : List PyData}, RWs T m H ws vs → toDs ws = some ds → DpAll T.K H vs ds
  | _, _, _, .nil, h => by simp only [toDs] at h; cases h; exact .nil
  | w :: ws, _, _, .cons r t, h => by
    simp only [toDs] at h
    cases e1 : toD w with
    | none => rw [e1] at h; cases h
    | some d =>
      cases e2 : toDs ws with
      | none => rw [e1, e2] at h; cases h
      | some ds => rw [e1, e2] at h; cases h; exact .cons (toD_ok r e1) (toDs_ok t e2)
end
theorem eqB_ok {a b : W} {x y : V} {r : Bool} (ra : RW T m H a x) (rb : RW T m H b y) (h : eqB a b = some r) :
    (scal x y = true ∧ decide (x = y) = r) ∨ ∃ d e, Dp T.K H x d ∧ Dp T.K H y e ∧ SeqAt.shaped d = true ∧ SeqAt.shaped e = true ∧ PyData.eqv d e = r := by
  unfold eqB at h
  split at h
  · rename_i q e
    cases h
    exact .inl (eqS_ok ra rb e)
  · split at h
    · rename_i d e h1 h2
      split at h
      · rename_i hs
        rw [Bool.and_eq_true] at hs
        cases h
        exact .inr ⟨d, e, toD_ok ra h1, toD_ok rb h2, hs.1, hs.2, rfl⟩
      · cases h
    · cases h
end
def rEqU (K : PySem.W.Frag) : R2 := fun x y H Q => rEq x y H Q ∨ rEqD K x y H Q
def rNeU (K : PySem.W.Frag) : R2 := fun x y H Q => rNe x y H Q ∨ rNeD K x y H Q
theorem or_eqU {X : Cx} (hu : X.A.units + 64 < cLine) : OpR X (compareOp .Eq) (rEqU X.K) := op_eq.or (op_eqD hu)
theorem or_neU {X : Cx} (hu : X.A.units + 64 < cLine) : OpR X (compareOp .NotEq) (rNeU X.K) := op_ne.or (op_neD hu)
theorem io_eq {T : Tx} {W0 : WX} : ImpO T W0 (rEqU T.K) eqW := by
  intro m G σ H Q a b x y hG ra rb ho
  unfold eqW at ho
  split at ho
  · rename_i r e
    have q := ho.now hG (.bl r)
    rcases eqB_ok ra rb e with ⟨h1, h2⟩ | ⟨d, e, h1, h2, h3, h4, h5⟩
    · exact .inl ⟨h1, by rw [h2]; exact q⟩
    · exact .inr ⟨d, e, h1, h2, h3, h4, by rw [h5]; exact q⟩
  · exact False.elim ho
theorem io_ne {T : Tx} {W0 : WX} : ImpO T W0 (rNeU T.K) neW := by
  intro m G σ H Q a b x y hG ra rb ho
  unfold neW at ho
  split at ho
  · rename_i r e
    have q := ho.now hG (.bl (!r))
    rcases eqB_ok ra rb e with ⟨h1, h2⟩ | ⟨d, e, h1, h2, h3, h4, h5⟩
    · exact .inl ⟨h1, by rw [h2]; exact q⟩
    · exact .inr ⟨d, e, h1, h2, h3, h4, by rw [h5]; exact q⟩
  · exact False.elim ho

/-! ### in, is -/
def isFlat : W → Bool
  | .non => true | .bl _ => true | .int _ => true | .str _ => true | _ => false
@[simp] theorem isFlat_e1 : isFlat (.non) = true := rfl
@[simp] theorem isFlat_e2 : isFlat (.bl x1) = true := rfl
@[simp] theorem isFlat_e3 : isFlat (.int x1) = true := rfl
@[simp] theorem isFlat_e4 : isFlat (.str x1) = true := rfl
@[simp] theorem isFlat_f0 : isFlat (.tup x) = false := rfl
@[simp] theorem isFlat_f1 : isFlat (.lst x) = false := rfl
@[simp] theorem isFlat_f2 : isFlat (.fz x) = false := rfl
@[simp] theorem isFlat_f3 : isFlat (.dic x) = false := rfl
@[simp] theorem isFlat_f4 : isFlat (.obj x y) = false := rfl
@[simp] theorem isFlat_f5 : isFlat (.ref x) = false := rfl
@[simp] theorem isFlat_f6 : isFlat (.ty x) = false := rfl
@[simp] theorem isFlat_f7 : isFlat (.cls x) = false := rfl
def eqF : W → W → Bool
  | .non, .non => true
  | .bl a, .bl b => a == b
  | .bl a, .int b => (if a then 1 else 0) == b
  | .int a, .bl b => a == (if b then 1 else 0)
  | .int a, .int b => a == b
  | .str a, .str b => a == b
  | _, _ => false
@[simp] theorem eqF_e1 : eqF (.non) (.non) = (true) := rfl
@[simp] theorem eqF_e2 : eqF (.bl a) (.bl b) = (a == b) := rfl
@[simp] theorem eqF_e3 : eqF (.bl a) (.int b) = ((if a then 1 else 0) == b) := rfl
@[simp] theorem eqF_e4 : eqF (.int a) (.bl b) = (a == (if b then 1 else 0)) := rfl
@[simp] theorem eqF_e5 : eqF (.int a) (.int b) = (a == b) := rfl
@[simp] theorem eqF_e6 : eqF (.str a) (.str b) = (a == b) := rfl
def inB (a b : W) : Option Bool := match b with
  | .str s => match a with
    | .str [c] => some (decide (c ∈ s))
    | _ => none
  | .lst xs => if isFlat a && xs.all isFlat then some (xs.any fun y => eqF y a) else none
  | .tup xs => if isFlat a && xs.all isFlat then some (xs.any fun y => eqF y a) else none
  | _ => none
@[simp] theorem inB_str (c : Nat) (s : List Nat) : inB (.str [c]) (.str s) = some (decide (c ∈ s)) := rfl
@[simp] theorem inB_lst (a : W) (xs : List W) : inB a (.lst xs) = if isFlat a && xs.all isFlat then some (xs.any fun y => eqF y a) else none := rfl
@[simp] theorem inB_tup (a : W) (xs : List W) : inB a (.tup xs) = if isFlat a && xs.all isFlat then some (xs.any fun y => eqF y a) else none := rfl
@[simp] def inW : OF := fun a b G => match inB a b with
  | some r => .ok (.bl r) G
  | none => .stuck
@[simp] def ninW : OF := fun a b G => match inB a b with
  | some r => .ok (.bl (!r)) G
  | none => .stuck
section
variable {T : Tx} {m : Mm} {H : Hp}
theorem flat_ok {w : W} {v : V} (r : RW T m H w v) (h : isFlat w = true) : flatV v = true := by
  cases r <;> first | rfl | cases h
theorem flat_all : ∀ {ws : List W} {vs : List V}, RWs T m H ws vs → ws.all isFlat = true → vs.all flatV = true
  | _, _, .nil, _ => rfl
  | _, _, .cons r t, h => by
    rw [List.all_cons, Bool.and_eq_true] at h ⊢
    exact ⟨flat_ok r h.1, flat_all t h.2⟩
theorem eqF_ok {a b : W} {x y : V} (ra : RW T m H a x) (rb : RW T m H b y) (fa : isFlat a = true) (fb : isFlat b = true) : eqV x y = eqF a b := by
  cases ra <;> first
    | (cases fa; done)
    | (cases rb <;> first
        | (cases fb; done)
        | rfl
        | (simp only [eqV, eqF]; rw [Bool.eq_iff_iff]; simp))
theorem inF_ok {a : W} {x : V} (ra : RW T m H a x) (fa : isFlat a = true) : ∀ {ws : List W} {vs : List V}, RWs T m H ws vs → ws.all isFlat = true → inV x vs = ws.any fun y => eqF y a
  | _, _, .nil, _ => rfl
  | _, _, .cons r t, h => by
    rw [List.all_cons, Bool.and_eq_true] at h
    have e := inF_ok ra fa t h.2
    unfold inV at e ⊢
    rw [List.any_cons, List.any_cons, e, eqF_ok r ra h.1 fa]
def rInU (K : PySem.W.Frag) (neg : Bool) : R2 := fun x y H Q => rIn K neg x y H Q ∨ ∃ (c : Nat) (z : Str), x = .str ⟨#[c]⟩ ∧ y = .str z ∧ Q (.bl (if neg then !decide (c ∈ z.cps.toList) else decide (c ∈ z.cps.toList))) H
theorem or_inU {X : Cx} : OpR X (compareOp .In) (rInU X.K false) := op_in_seq.or op_in_sign
theorem or_ninU {X : Cx} : OpR X (compareOp .NotIn) (rInU X.K true) := op_notIn_seq.or op_notIn_sign
theorem inB_ok {neg : Bool} {a b : W} {x y : V} {r : Bool} {Q : VK} (ra : RW T m H a x) (rb : RW T m H b y) (h : inB a b = some r) (q : Q (.bl (if neg then !r else r)) H) : rInU T.K neg x y H Q := by
  cases rb with
  | str s =>
    unfold inB at h
    cases ra with
    | str t =>
      match t, h with
      | [c], h => cases h; exact .inr ⟨c, _, rfl, rfl, by simpa using q⟩
    | _ => cases h
  | lst rb nb eb =>
    unfold inB at h
    simp only at h
    split at h
    · rename_i hf
      rw [Bool.and_eq_true] at hf
      cases h
      exact .inl ⟨_, _, rfl, .inl (SqL.of eb), flat_ok ra hf.1, flat_all rb hf.2, by rw [inF_ok ra hf.1 rb hf.2]; exact q⟩
    · cases h
  | tup rb eb =>
    unfold inB at h
    simp only at h
    split at h
    · rename_i hf
      rw [Bool.and_eq_true] at hf
      cases h
      exact .inl ⟨_, _, rfl, .inr eb.sq, flat_ok ra hf.1, flat_all rb hf.2, by rw [inF_ok ra hf.1 rb hf.2]; exact q⟩
    · cases h
  | _ => cases h
end
theorem io_in {T : Tx} {W0 : WX} : ImpO T W0 (rInU T.K false) inW := by
  intro m G σ H Q a b x y hG ra rb ho
  unfold inW at ho
  split at ho
  · rename_i r e
    exact inB_ok ra rb e (ho.now hG (.bl r))
  · exact False.elim ho
theorem io_nin {T : Tx} {W0 : WX} : ImpO T W0 (rInU T.K true) ninW := by
  intro m G σ H Q a b x y hG ra rb ho
  unfold ninW at ho
  split at ho
  · rename_i r e
    exact inB_ok ra rb e (ho.now hG (.bl (!r)))
  · exact False.elim ho
def isNon : W → Bool
  | .non => true
  | _ => false
@[simp] theorem isNon_e1 : isNon (.non) = true := rfl
@[simp] theorem isNon_f0 : isNon (.bl x) = false := rfl
@[simp] theorem isNon_f1 : isNon (.int x) = false := rfl
@[simp] theorem isNon_f2 : isNon (.str x) = false := rfl
@[simp] theorem isNon_f3 : isNon (.tup x) = false := rfl
@[simp] theorem isNon_f4 : isNon (.lst x) = false := rfl
@[simp] theorem isNon_f5 : isNon (.fz x) = false := rfl
@[simp] theorem isNon_f6 : isNon (.dic x) = false := rfl
@[simp] theorem isNon_f7 : isNon (.obj x y) = false := rfl
@[simp] theorem isNon_f8 : isNon (.ref x) = false := rfl
@[simp] theorem isNon_f9 : isNon (.ty x) = false := rfl
@[simp] theorem isNon_f10 : isNon (.cls x) = false := rfl
def isW : OF
  | a, .non, G => .ok (.bl (isNon a)) G
  | _, _, _ => .stuck
@[simp] theorem isW_e1 : isW a (.non) G = .ok (.bl (isNon a)) G := rfl
def isnW : OF
  | a, .non, G => .ok (.bl (!isNon a)) G
  | _, _, _ => .stuck
@[simp] theorem isnW_e1 : isnW a (.non) G = .ok (.bl (!isNon a)) G := rfl
theorem isNon_ok {T : Tx} {m : Mm} {H : Hp} {a : W} {x : V} (r : RW T m H a x) : decide (x = V.non) = isNon a := by
  cases r <;> first | rfl | (simp [isNon])
theorem io_is {T : Tx} {W0 : WX} : ImpO T W0 (fun x y H Q => y = .non ∧ Q (.bl (decide (x = .non))) H) isW := by
  intro m G σ H Q a b x y hG ra rb ho
  cases rb with
  | non => exact ⟨rfl, by rw [isNon_ok ra]; exact ho.now hG (.bl _)⟩
  | _ => exact False.elim ho
theorem io_isn {T : Tx} {W0 : WX} : ImpO T W0 (fun x y H Q => y = .non ∧ Q (.bl (!decide (x = .non))) H) isnW := by
  intro m G σ H Q a b x y hG ra rb ho
  cases rb with
  | non => exact ⟨rfl, by rw [isNon_ok ra]; exact ho.now hG (.bl _)⟩
  | _ => exact False.elim ho
/-- -a -/
@[simp] def eNeg (fa : EF) : EF := fun ls G => (fa ls G).bind fun w G1 => match w with
  | .int i => .ok (.int (-i)) G1
  | _ => .stuck
theorem fe_neg {T : Tx} {X : Cx} {W0 : WX} {a : Expr} {fa : EF} {pos : Pos} (h : FE T X W0 a fa) : FE T X W0 (.UnaryOp .USub a pos) (eNeg fa) := by
  obtain ⟨t, h, i⟩ := h
  refine ⟨_, pe_un un_neg h, fun m ls G σ H Q hG hL ho => ?_⟩
  refine i.go hG hL ho fun w G1 m1 v H1 k1 g1 r1 l1 o1 => ?_
  cases r1 with
  | int i => exact ⟨i, rfl, o1.now g1 (.int _)⟩
  | _ => exact False.elim o1
end U

namespace U
open PySem
open L2

/-! ### targets -/
abbrev TF := W → SF
def OutG (T : Tx) (is : List Nat) (m : Mm) (H : Hp) (σ : St) (Q : St → Hp → Prop) : SRes → Prop
  | .nx ls' G' => ∀ m' σ' H', Keep m H m' H' → RG T m' G' H' → RL T m' H' ls' σ' → Chg is σ σ' → Q σ' H'
  | _ => False
def ImpG (T : Tx) (is : List Nat) (t : TG) (g : TF) : Prop :=
  ∀ (m : Mm) (ls : Ls) (G : Gs) (σ : St) (H : Hp) (w : W) (v : V) (Q : St → Hp → Prop), RG T m G H → RL T m H ls σ → RW T m H w v → OutG T is m H σ Q (g w ls G) → t v σ H Q
def ImpGs (T : Tx) (is : List Nat) (t : TGs) (g : List W → SF) : Prop :=
  ∀ (m : Mm) (ls : Ls) (G : Gs) (σ : St) (H : Hp) (ws : List W) (vs : List V) (Q : St → Hp → Prop), RG T m G H → RL T m H ls σ → RWs T m H ws vs → OutG T is m H σ Q (g ws ls G) → t vs σ H Q
def FG (T : Tx) (X : Cx) (is : List Nat) (tg : Expr) (g : TF) : Prop := ∃ t, PG X tg t ∧ ImpG T is t g
def FGs (T : Tx) (X : Cx) (is : List Nat) (tgs : List Expr) (g : List W → SF) : Prop := ∃ t, PGs X tgs t ∧ ImpGs T is t g
theorem OutG.keep {T : Tx} {is js : List Nat} {m m1 : Mm} {H H1 : Hp} {σ σ1 : St} {Q : St → Hp → Prop} (k : Keep m H m1 H1) (c : Chg is σ σ1) (hj : ∀ j ∈ js, j ∈ is) {r : SRes} (h : OutG T is m H σ Q r) : OutG T js m1 H1 σ1 Q r := by
  cases r with
  | nx ls G => exact fun m' σ' H' k' g' l' c' => h m' σ' H' (k.trans k') g' l' (c.trans (c'.mono hj))
  | _ => exact h
@[simp] def gN (i : Nat) : TF := fun w ls G => .nx (ls.set i (some w)) G
@[simp] def gs0 : List W → SF := fun ws ls G => match ws with
  | [] => .nx ls G
  | _ => .stuck
@[simp] def gs1 (g : TF) (r : List W → SF) : List W → SF := fun ws ls G => match ws with
  | w :: ws => (match g w ls G with
    | .nx ls1 G1 => r ws ls1 G1
    | _ => .stuck)
  | [] => .stuck
@[simp] def gT (n : Nat) (g : List W → SF) : TF := fun w ls G => match w with
  | .tup ws => if ws.length = n then g ws ls G else .stuck
  | _ => .stuck
section
variable {T : Tx} {X : Cx} {W0 : WX} {pos : Pos}
theorem fg_name (i : Nat) {x : Str} (c : Ctx T X W0) (hi : X.N[i]? = some x := by rfl) (hx : Loc X.env.scope x := by first | exact Or.inl rfl | exact Or.inr rfl) (hf : X.fn x = true ∨ X.env.scope.names.lookup x = some .local := by first | exact .inl rfl | exact .inr rfl) : FG T X [i] (.Name x pos) (gN i) :=
  ⟨_, pg_name c.nd hi hx hf, fun m ls G σ H w v Q hG hL r ho => ho m _ H (.refl _ _) hG (hL.set i r) Chg.set⟩
theorem fgs_nil : FGs T X [] [] gs0 := ⟨_, pgs_nil, fun m ls G σ H ws vs Q hG hL r ho => by
  cases r with
  | nil => exact ⟨rfl, ho m σ H (.refl _ _) hG hL (.refl _ _)⟩
  | cons _ _ => exact False.elim ho⟩
theorem fgs_cons {is js : List Nat} {e : Expr} {es : List Expr} {g : TF} {r : List W → SF} (h : FG T X is e g) (hr : FGs T X js es r) (hs : (assignEach (e :: es) X.env).map (·.2) = assign e X.env :: (assignEach es X.env).map (·.2) := by rfl) : FGs T X (is ++ js) (e :: es) (gs1 g r) := by
  obtain ⟨t, h, i⟩ := h
  obtain ⟨u, hr, ir⟩ := hr
  refine ⟨_, pgs_cons h hr hs, fun m ls G σ H ws vs Q hG hL rw_ ho => ?_⟩
  cases rw_ with
  | nil => exact False.elim ho
  | cons r1 r2 =>
    refine ⟨_, _, rfl, i m ls G σ H _ _ _ hG hL r1 ?_⟩
    simp only [gs1] at ho
    cases e : g _ ls G with
    | nx ls1 G1 =>
      rw [e] at ho
      exact fun m1 σ1 H1 k1 g1 l1 c1 => ir m1 ls1 G1 σ1 H1 _ _ Q g1 l1 (r2.keep k1) (OutG.keep k1 (c1.mono fun j h => List.mem_append_left _ h) (fun j h => List.mem_append_right _ h) ho)
    | _ => rw [e] at ho; exact False.elim ho
theorem fg_tup {is : List Nat} {es : List Expr} {k n : Nat} {g : List W → SF} (c : Ctx T X W0) (h : FGs T X is es g) (hn : (assignEach es X.env).length = n := by rfl) (hst : (assignEach es X.env).findIdx? (·.1) = none := by rfl) : FG T X is (.Tuple es k pos) (gT n g) := by
  obtain ⟨t, h, i⟩ := h
  refine ⟨_, pg_tup c.calm h hn hst, fun m ls G σ H w v Q hG hL r ho => ?_⟩
  cases r with
  | tup r f =>
    simp only [gT] at ho
    split at ho
    · rename_i hl
      exact ⟨_, _, rfl, by rw [c.hK]; exact f.sq, by rw [← r.length]; exact hl, i m ls G σ H _ _ Q hG hL r ho⟩
    · exact False.elim ho
  | _ => exact False.elim ho
end

/-! ### statements -/
def SRes.seq : SRes → SF → SRes
  | .nx ls G, k => k ls G
  | .rt w G, _ => .rt w G
  | .bk ls G, _ => .bk ls G
  | .ct ls G, _ => .ct ls G
  | .exc w ls G, _ => .exc w ls G
  | .stuck, _ => .stuck
@[simp] theorem SRes_seq_e1 : SRes.seq (.nx ls G) k = k ls G := rfl
@[simp] theorem SRes_seq_e2 : SRes.seq (.rt w G) x1 = .rt w G := rfl
@[simp] theorem SRes_seq_e3 : SRes.seq (.bk ls G) x1 = .bk ls G := rfl
@[simp] theorem SRes_seq_e4 : SRes.seq (.ct ls G) x1 = .ct ls G := rfl
@[simp] theorem SRes_seq_e5 : SRes.seq (.exc w ls G) x1 = .exc w ls G := rfl
@[simp] theorem SRes_seq_e6 : SRes.seq (.stuck) x1 = .stuck := rfl
@[simp] def sNil : SF := fun ls G => .nx ls G
@[simp] def sSeq (g k : SF) : SF := fun ls G => (g ls G).seq k
@[simp] def sAsg (f : EF) (g : TF) : SF := fun ls G => (f ls G).sbind ls fun w G1 => g w ls G1
@[simp] def sExp (f : EF) : SF := fun ls G => (f ls G).sbind ls fun _ G1 => .nx ls G1
@[simp] def sRet (f : EF) : SF := fun ls G => (f ls G).sbind ls fun w G1 => .rt w G1
@[simp] def sRetN : SF := fun _ G => .rt .non G
@[simp] def sBrk : SF := fun ls G => .bk ls G
@[simp] def sCnt : SF := fun ls G => .ct ls G
@[simp] def sIf (c : EF) (a b : SF) : SF := fun ls G => (c ls G).sbind ls fun w G1 => asBS w fun k => if k then a ls G1 else b ls G1
@[simp] def sStuck : SF := fun _ _ => .stuck
theorem OutS.of_g {T : Tx} {W0 : WX} {is : List Nat} {m : Mm} {H : Hp} {σ : St} {D : Ends} {r : SRes} (h : OutS T W0 m H D r) (hn : ∃ ls G, r = .nx ls G) : OutG T is m H σ D.nx r := by
  obtain ⟨ls, G, rfl⟩ := hn
  exact fun m' σ' H' k g l _ => h m' σ' H' k g l
section
variable {T : Tx} {X : Cx} {W0 : WX} {pos : Pos} {e : Expr} {f : EF} {st : Stmt} {rest : List Stmt} {g k : SF}
theorem fss_nil : FSs T X W0 [] sNil := ⟨_, pss_nil, fun m ls G σ H D hG hL ho => ho m σ H (.refl _ _) hG hL⟩
theorem fss_cons (h : FS T X W0 st g) (hr : FSs T X W0 rest k) : FSs T X W0 (st :: rest) (sSeq g k) := by
  obtain ⟨t, h, i⟩ := h
  obtain ⟨u, hr, ir⟩ := hr
  refine ⟨_, pss_cons h hr, fun m ls G σ H D hG hL ho => ?_⟩
  refine i m ls G σ H { D with nx := u D } hG hL ?_
  simp only [sSeq] at ho
  cases e : g ls G with
  | nx ls1 G1 =>
    rw [e] at ho
    exact fun m1 σ1 H1 k1 g1 l1 => ir m1 ls1 G1 σ1 H1 D g1 l1 (OutS.keep k1 ho)
  | rt w G1 => rw [e] at ho; exact ho
  | bk ls1 G1 => rw [e] at ho; exact ho
  | ct ls1 G1 => rw [e] at ho; exact ho
  | exc w ls1 G1 => rw [e] at ho; exact ho
  | stuck => rw [e] at ho; exact ho
theorem fss_one (h : FS T X W0 st g) : FSs T X W0 [st] g := by
  obtain ⟨t, h, i⟩ := h
  exact ⟨_, pss_one h, i⟩
theorem fs_pass : FS T X W0 (.Pass pos) sNil := ⟨_, ps_pass, fun m ls G σ H D hG hL ho => ho m σ H (.refl _ _) hG hL⟩
theorem fs_brk : FS T X W0 (.Break pos) sBrk := ⟨_, ps_break, fun m ls G σ H D hG hL ho => ho m σ H (.refl _ _) hG hL⟩
theorem fs_cnt : FS T X W0 (.Continue pos) sCnt := ⟨_, ps_continue, fun m ls G σ H D hG hL ho => ho m σ H (.refl _ _) hG hL⟩
/-- a statement that is never reached -/
theorem fs_stuck : FS T X W0 st sStuck := ⟨fun _ _ _ => False, ⟨fun _ _ _ _ _ _ h => False.elim h⟩, fun _ _ _ _ _ _ _ _ ho => ho⟩
theorem fe_stuck : FE T X W0 e (fun _ _ => .stuck) := ⟨fun _ _ _ => False, ⟨fun _ _ _ _ _ _ h => False.elim h⟩, fun _ _ _ _ _ _ _ _ ho => ho⟩
theorem fs_exp (h : FE T X W0 e f) (hs : swapsWith e none pos.line X.env = pure false := by rfl) : FS T X W0 (.Expr e pos) (sExp f) := by
  obtain ⟨t, h, i⟩ := h
  refine ⟨_, ps_expr h hs, fun m ls G σ H D hG hL ho => ?_⟩
  exact i.goS hG hL ho fun w G1 m1 v H1 k1 g1 r1 l1 o1 => o1 m1 σ H1 (.refl _ _) g1 l1
theorem fs_ret (h : FE T X W0 e f) : FS T X W0 (.Return (some e) pos) (sRet f) := by
  obtain ⟨t, h, i⟩ := h
  refine ⟨_, ps_ret h, fun m ls G σ H D hG hL ho => ?_⟩
  exact i.goS hG hL ho fun w G1 m1 v H1 k1 g1 r1 l1 o1 => o1 m1 v H1 (.refl _ _) g1 r1
theorem fs_retN : FS T X W0 (.Return none pos) sRetN := ⟨_, ps_retN, fun m ls G σ H D hG hL ho => ho m _ H (.refl _ _) hG .non⟩
theorem fs_if {c : Expr} {a b : List Stmt} {fc : EF} {ga gb : SF} (hc : FT T X W0 c fc) (ha : FSs T X W0 a ga) (hb : FSs T X W0 b gb) : FS T X W0 (.If c a b pos) (sIf fc ga gb) := by
  obtain ⟨tc, hc, ic⟩ := hc
  obtain ⟨ta, ha, ia⟩ := ha
  obtain ⟨tb, hb, ib⟩ := hb
  refine ⟨_, ps_if hc ha hb, fun m ls G σ H D hG hL ho => ?_⟩
  refine ic.goS hG hL ho fun b G1 m1 H1 k1 g1 l1 o1 => ?_
  cases b with
  | true => exact ia m1 ls G1 σ H1 D g1 l1 o1
  | false => exact ib m1 ls G1 σ H1 D g1 l1 o1
theorem asg_ok {is : List Nat} {g : TF} {tg : TG} (hg : ImpG T is tg g) {m : Mm} {ls : Ls} {G : Gs} {σ : St} {H : Hp} {D : Ends} {w : W} {v : V} (hG : RG T m G H) (hL : RL T m H ls σ) (r : RW T m H w v) (hn : ∀ w ls G, (∃ ls' G', g w ls G = .nx ls' G') ∨ g w ls G = .stuck) (ho : OutS T W0 m H D (g w ls G)) : tg v σ H D.nx := by
  rcases hn w ls G with h | h
  · exact hg m ls G σ H w v D.nx hG hL r (OutS.of_g ho h)
  · rw [h] at ho; exact False.elim ho
/-- a target that only stores -/
def Sto (g : TF) : Prop := ∀ w ls G, (∃ ls' G', g w ls G = .nx ls' G') ∨ g w ls G = .stuck
def Stos (g : List W → SF) : Prop := ∀ w ls G, (∃ ls' G', g w ls G = .nx ls' G') ∨ g w ls G = .stuck
theorem sto_n {i : Nat} : Sto (gN i) := fun w ls G => .inl ⟨_, _, rfl⟩
theorem stos_0 : Stos gs0 := fun w ls G => by
  cases w with
  | nil => exact .inl ⟨_, _, rfl⟩
  | cons _ _ => exact .inr rfl
theorem stos_1 {g : TF} {r : List W → SF} (h : Sto g) (hr : Stos r) : Stos (gs1 g r) := fun w ls G => by
  cases w with
  | nil => exact .inr rfl
  | cons w ws =>
    simp only [gs1]
    rcases h w ls G with ⟨l1, G1, e⟩ | e
    · rw [e]; exact hr ws l1 G1
    · rw [e]; exact .inr rfl
theorem sto_t {n : Nat} {g : List W → SF} (h : Stos g) : Sto (gT n g) := fun w ls G => by
  cases w with
  | tup ws =>
    simp only [gT]
    split
    · exact h ws ls G
    · exact .inr rfl
  | _ => exact .inr rfl
theorem fs_asg {is : List Nat} {tg : Expr} {g : TF} (he : FE T X W0 e f) (hg : FG T X is tg g) (hn : Sto g) (hs : swapsWithSole [tg] e pos.line X.env = pure false := by rfl) (hw : swappedStores [tg] e X.env = pure none := by rfl) (h1 : (assignEach [tg] X.env).map (·.2) = [assign tg X.env] := by rfl) : FS T X W0 (.Assign [tg] e pos) (sAsg f g) := by
  obtain ⟨t, he, i⟩ := he
  obtain ⟨tg', hg, ig⟩ := hg
  refine ⟨_, ps_asg he hg hs hw h1, fun m ls G σ H D hG hL ho => ?_⟩
  exact i.goS hG hL ho fun w G1 m1 v H1 k1 g1 r1 l1 o1 => asg_ok ig g1 l1 r1 hn o1
theorem fs_set (i : Nat) {x : Str} {p' : Pos} (c : Ctx T X W0) (he : FE T X W0 e f) (hs : swapsWith e (some (.Name x p')) pos.line X.env = pure false := by rfl) (hi : X.N[i]? = some x := by rfl) (hx : Loc X.env.scope x := by first | exact Or.inl rfl | exact Or.inr rfl) (hf : X.fn x = true ∨ X.env.scope.names.lookup x = some .local := by first | exact .inl rfl | exact .inr rfl) : FS T X W0 (.Assign [.Name x p'] e pos) (sAsg f (gN i)) := by
  obtain ⟨t, he, ie⟩ := he
  refine ⟨_, ps_set c.nd hi hx he hs hf, fun m ls G σ H D hG hL ho => ?_⟩
  exact ie.goS hG hL ho fun w G1 m1 v H1 k1 g1 r1 l1 o1 => o1 m1 _ H1 (.refl _ _) g1 (l1.set i r1)
/-- a, b = x, y at once -/
@[simp] def sPar (i j : Nat) (f : EF) : SF := fun ls G => (f ls G).sbind ls fun w G1 => match w with
  | .tup [a, b] => .nx ((ls.set i (some a)).set j (some b)) G1
  | _ => .stuck
theorem fs_par (i j : Nat) {x y : Str} {a b : Expr} {px py pt : Pos} {kt k2 : Nat} {pt2 : Pos} {fa : EF} (c : Ctx T X W0) (ha : FA T X W0 [a, b] fa) (hi : X.N[i]? = some x := by rfl) (hj : X.N[j]? = some y := by rfl) (hij : i ≠ j := by decide)
    (hx : X.env.scope.names.lookup x = some .local := by rfl) (hy : X.env.scope.names.lookup y = some .local := by rfl)
    (hw : swappedStores [.Tuple [.Name x px, .Name y py] kt pt] (.Tuple [a, b] k2 pt2) X.env = pure (some [x, y]) := by rfl)
    (hs : swapsWithSole [.Tuple [.Name x px, .Name y py] kt pt] (.Tuple [a, b] k2 pt2) pos.line X.env = pure false := by rfl) : FS T X W0 (.Assign [.Tuple [.Name x px, .Name y py] kt pt] (.Tuple [a, b] k2 pt2) pos) (sPar i j fa) := by
  obtain ⟨t, ha, ia⟩ := ha
  refine ⟨_, ps_par c.calm c.nd hi hj hij hx hy ha hw hs, fun m ls G σ H D hG hL ho => ?_⟩
  refine ia m ls G σ H _ hG hL ?_
  simp only [sPar] at ho
  cases e : fa ls G with
  | ok w G1 =>
    rw [e] at ho
    simp only [Res.sbind] at ho
    split at ho
    · rename_i a b
      refine ⟨_, rfl, fun m1 vs H1 k1 g1 r1 => ?_⟩
      cases r1 with
      | cons r1 r2 => cases r2 with
        | cons r2 r3 =>
          cases r3
          exact ⟨_, _, rfl, ho m1 _ H1 k1 g1 (((hL.keep k1).set i r1).set j r2)⟩
    · exact False.elim ho
  | exc w G1 => rw [e] at ho; exact fun m1 c d H1 k1 g1 r1 => ho m1 σ c d H1 k1 g1 (hL.keep k1) r1
  | stuck => rw [e] at ho; exact ho
end

/-! ### what is walked -/
/-- the items that a walk yields, at every later heap -/
def ItOk (T : Tx) (m : Mm) (H : Hp) (J : It) (ws : List W) : Prop :=
  ∀ m' G' H', Keep m H m' H' → RG T m' G' H' →
    (∀ (i : Nat) (w : W), ws[i]? = some w → J.go i H' ∧ ∀ x H'', J.yld i H' x H'' → Keep m' H' m' H'' ∧ RG T m' G' H'' ∧ RW T m' H'' w x) ∧ ∀ i, ws.length ≤ i → J.stop i H'
def ImpI (T : Tx) (W0 : WX) (t : TI) (f : EF) : Prop :=
  ∀ (m : Mm) (ls : Ls) (G : Gs) (σ : St) (H : Hp) (R : It → Hp → Prop), RG T m G H → RL T m H ls σ →
    (match f ls G with
      | .ok w G' => ∃ ws, w = .lst ws ∧ ∀ m' J H', Keep m H m' H' → RG T m' G' H' → ItOk T m' H' J ws → R J H'
      | .exc w G' => ∀ m' c d H', Keep m H m' H' → RG T m' G' H' → RX T m' H' w c d → W0 c d σ H'
      | .stuck => False) → t σ H R
def FI (T : Tx) (X : Cx) (W0 : WX) (tg e : Expr) (f : EF) : Prop := ∃ t, PI X tg e t ∧ ImpI T W0 t f
/-- the items of a list, a tuple -/
@[simp] def iSeq (f : EF) : EF := fun ls G => (f ls G).bind fun w G1 => match w with
  | .lst ws => .ok (.lst ws) G1
  | .tup ws => .ok (.lst ws) G1
  | .fz ws => .ok (.lst ws) G1
  | .str s => .ok (.lst (s.map fun c => .str [c])) G1
  | _ => .stuck
def itS (K : PySem.W.Frag) (te : TE) : TI := fun σ H R => te σ H fun v H1 =>
  (∃ a xs, v = .ref a ∧ SqL K H1 a xs ∧ R (Itl K a) H1) ∨ (∃ a xs, v = .ref a ∧ SqT K H1 a xs ∧ R (Itt K a) H1) ∨ ∃ x, v = .str x ∧ R (Its x) H1
/-- a walk over what a value is, told only when the value has come -/
theorem pi_sw {X : Cx} {tg e : Expr} {te : TE} (he : PE X e te) : PI X tg e (itS X.K te) := by
  refine ⟨fun pins s σ H R I h => ?_⟩
  -- the value is evaluated once; then it is walked as pi_list, pi_tup, pi_str walk a value that is at hand
  refine thn (he.run pins s σ H _ I h) fun v s1 ⟨x, H1, I1, r1, q1⟩ => ?_
  rcases q1 with ⟨a, xs, ex, hq, q⟩ | ⟨a, xs, ex, hq, q⟩ | ⟨z, ex, q⟩
  · subst ex
    cases r1
    obtain ⟨its, rv, p, hz⟩ := I1.list hq
    refine wpAny_pyIter_list p.isList ⟨_, [s1.heap.objs.size], _, _, H1, rfl,
      I1.kept (t' := s1.toks) (fun b o e => Heap.get?_push_of_some _ e), turn_list a s1.heap.objs.size, ⟨_, Heap.get?_push_size _ rfl, rfl, rfl⟩, fun b hb => ?_, q⟩
    rw [List.mem_singleton.mp hb]
    exact I1.fpOk (Nat.le_refl _) (I1.hok.fresh (Nat.le_refl _))
  · subst ex
    cases r1
    obtain ⟨its, rv, p, hz⟩ := I1.tuple hq
    refine wpAny_pyIter_tuple (show s1.heap.IsTuple a its.toArray from p) ⟨_, [s1.heap.objs.size], _, _, H1, rfl,
      I1.kept (t' := s1.toks) (fun b o e => Heap.get?_push_of_some _ e), turn_tuple a s1.heap.objs.size, ⟨_, Heap.get?_push_size _ rfl, rfl, rfl⟩, fun b hb => ?_, q⟩
    rw [List.mem_singleton.mp hb]
    exact I1.fpOk (Nat.le_refl _) (I1.hok.fresh (Nat.le_refl _))
  · subst ex
    obtain ⟨t, rfl⟩ := r1
    cases ha : z.cps.all (· < 128) with
    | false => exact wpAny_pyIter_wide ha (pi_one (tk := s1.toks) I1 _ (turn_str _ z t "str_iterator" (.inr rfl)) ⟨_, Heap.get?_push_size _ rfl, rfl, rfl⟩ q)
    | true => exact wpAny_pyIter_ascii ha (pi_one (tk := s1.toks) I1 _ (turn_str _ z t "str_ascii_iterator" (.inl rfl)) ⟨_, Heap.get?_push_size _ rfl, rfl, rfl⟩ q)

section
variable {T : Tx} {X : Cx} {W0 : WX} {tg e : Expr} {f : EF} {m : Mm} {H : Hp}
theorem it_lst {a : Addr} {ws : List W} {vs : List V} (r : RWs T m H ws vs) (h : ∀ m' H', Keep m H m' H' → SqL T.K H' a vs) : ItOk T m H (Itl T.K a) ws := fun m' G' H' k g => by
  have q := h m' H' k
  refine ⟨fun i w e => ?_, fun i hi => ⟨vs, q, by rw [← r.length]; exact hi⟩⟩
  obtain ⟨v, e1, r1⟩ := r.get e
  refine ⟨⟨vs, v, q, e1⟩, fun x H'' y => ?_⟩
  obtain ⟨rfl, y⟩ := y
  have e2 := y vs q
  rw [e1] at e2
  cases e2
  exact ⟨.refl _ _, g, r1.keep k⟩
theorem it_tup {a : Addr} {ws : List W} {vs : List V} (r : RWs T m H ws vs) (h : ∀ m' H', Keep m H m' H' → SqT T.K H' a vs) : ItOk T m H (Itt T.K a) ws := fun m' G' H' k g => by
  have q := h m' H' k
  refine ⟨fun i w e => ?_, fun i hi => ⟨vs, q, by rw [← r.length]; exact hi⟩⟩
  obtain ⟨v, e1, r1⟩ := r.get e
  refine ⟨⟨vs, v, q, e1⟩, fun x H'' y => ?_⟩
  obtain ⟨rfl, y⟩ := y
  have e2 := y vs q
  rw [e1] at e2
  cases e2
  exact ⟨.refl _ _, g, r1.keep k⟩
theorem it_str {s : List Nat} : ItOk T m H (Its ⟨s.toArray⟩) (s.map fun c => .str [c]) := fun m' G' H' k g => by
  refine ⟨fun i w e => ?_, fun i hi => (show s.toArray.size ≤ i by simpa using hi)⟩
  rw [List.getElem?_map] at e
  cases e1 : s[i]? with
  | none => rw [e1] at e; cases e
  | some c =>
    rw [e1] at e
    cases e
    refine ⟨(show i < s.toArray.size by simpa using (List.getElem?_eq_some_iff.mp e1).1), fun x H'' y => ?_⟩
    obtain ⟨rfl, c', e2, rfl⟩ := y
    have e2 : s.toArray[i]? = some c' := e2
    have e3 : s[i]? = some c' := by simpa using e2
    rw [e1] at e3
    cases e3
    exact ⟨.refl _ _, g, .str [c]⟩
theorem fi_seq (c : Ctx T X W0) (h : FE T X W0 e f) : FI T X W0 tg e (iSeq f) := by
  obtain ⟨t, h, i⟩ := h
  refine ⟨_, pi_sw h, fun m ls G σ H R hG hL ho => ?_⟩
  rw [c.hK]
  refine i m ls G σ H _ hG hL ?_
  simp only [iSeq] at ho
  cases e : f ls G with
  | stuck => rw [e] at ho; exact ho
  | exc w G1 => rw [e] at ho; exact ho
  | ok w G1 =>
    rw [e] at ho
    intro m1 v H1 k1 g1 r1
    cases r1 with
    | lst r n f =>
      obtain ⟨ws, ew, q⟩ := ho
      cases ew
      exact .inl ⟨_, _, rfl, SqL.of f, q m1 _ H1 k1 g1 (it_lst r fun m' H' k => SqL.of (k.at_ f n).1)⟩
    | fz r f =>
      obtain ⟨ws, ew, q⟩ := ho
      cases ew
      exact .inl ⟨_, _, rfl, f.sq, q m1 _ H1 k1 g1 (it_lst r fun m' H' k => (k.fzL f).sq)⟩
    | tup r f =>
      obtain ⟨ws, ew, q⟩ := ho
      cases ew
      exact .inr (.inl ⟨_, _, rfl, f.sq, q m1 _ H1 k1 g1 (it_tup r fun m' H' k => (k.fzT f).sq)⟩)
    | str s =>
      obtain ⟨ws, ew, q⟩ := ho
      cases ew
      exact .inr (.inr ⟨_, rfl, q m1 _ H1 k1 g1 it_str⟩)
    | _ => obtain ⟨ws, ew, q⟩ := ho; try cases ew
end

/-! ### for -/
def forL (g : TF) (body : SF) : List W → SF
  | [], ls, G => .nx ls G
  | w :: r, ls, G => match g w ls G with
    | .nx ls1 G1 => (match body ls1 G1 with
      | .nx ls2 G2 => forL g body r ls2 G2
      | .ct ls2 G2 => forL g body r ls2 G2
      | .bk ls2 G2 => .nx ls2 G2
      | .rt w G2 => .rt w G2
      | .exc w ls2 G2 => .exc w ls2 G2
      | .stuck => .stuck)
    | _ => .stuck
@[simp] def sFor (fi : EF) (g : TF) (body : SF) : SF := fun ls G => (fi ls G).sbind ls fun w G1 => match w with
  | .lst ws => forL g body ws ls G1
  | _ => .stuck
section
variable {T : Tx} {X : Cx} {W0 : WX} {pos : Pos} {tg iter : Expr} {body : List Stmt} {fi : EF} {g : TF} {gb : SF}
theorem fs_for {is : List Nat} (c : Ctx T X W0) (hi : FI T X W0 tg iter fi) (hg : FG T X is tg g) (hb : FSs T X W0 body gb) (hs : ∀ x, foldedSetIterable iter X.env x = pure x := by intro _; rfl) : FS T X W0 (.For tg iter body [] pos) (sFor fi g gb) := by
  obtain ⟨ti, hi, ii⟩ := hi
  obtain ⟨tg', hg, ig⟩ := hg
  obtain ⟨tb, hb, ib⟩ := hb
  refine ⟨_, ps_for c.po c.calm hi hg hb hs, fun m ls G σ H D hG hL ho => ?_⟩
  refine ii m ls G σ H _ hG hL ?_
  simp only [sFor] at ho
  cases e : fi ls G with
  | stuck => rw [e] at ho; exact ho
  | exc w G1 => rw [e] at ho; exact fun m1 c d H1 k1 g1 r1 => ho m1 σ c d H1 k1 g1 (hL.keep k1) r1
  | ok w G1 =>
    rw [e] at ho
    simp only [Res.sbind] at ho
    split at ho
    · rename_i ws
      refine ⟨ws, rfl, fun m1 J H1 k1 g1 it => ?_⟩
      refine ⟨fun i k σ H => k = ws.length - i ∧ ∃ m2 ls2 G2, Keep m1 H1 m2 H ∧ RG T m2 G2 H ∧ RL T m2 H ls2 σ ∧ OutS T W0 m2 H D (forL g gb (ws.drop i) ls2 G2), ⟨ws.length, rfl, m1, ls, G1, .refl _ _, g1, hL.keep k1, OutS.keep k1 ho⟩, ?_⟩
      rintro i k σ2 H2 ⟨rfl, m2, ls2, G2, k2, g2, l2, o2⟩
      obtain ⟨go, stop⟩ := it m2 G2 H2 k2 g2
      cases hw : ws[i]? with
      | none =>
        have hle : ws.length ≤ i := List.getElem?_eq_none_iff.mp hw
        rw [List.drop_eq_nil_of_le hle] at o2
        exact .inl ⟨stop i hle, o2 m2 σ2 H2 (.refl _ _) g2 l2⟩
      | some w =>
        have hlt : i < ws.length := (List.getElem?_eq_some_iff.mp hw).1
        have hd : ws.drop i = w :: ws.drop (i + 1) := by
          rw [List.drop_eq_getElem_cons hlt, (List.getElem?_eq_some_iff.mp hw).2]
        rw [hd] at o2
        obtain ⟨hgo, hy⟩ := go i w hw
        refine .inr ⟨hgo, fun σ H => ∃ m3 ls3 G3, Keep m1 H1 m3 H ∧ RG T m3 G3 H ∧ RL T m3 H ls3 σ ∧ OutS T W0 m3 H D (forL g gb (ws.drop (i + 1)) ls3 G3), fun σ' H' n => ⟨ws.length - (i + 1), by omega, rfl, n⟩, fun x H' yl => ?_⟩
        obtain ⟨k3, g3, r3⟩ := hy x H' yl
        refine ig m2 ls2 G2 σ2 H' w x _ g3 (l2.keep k3) r3 ?_
        simp only [forL] at o2
        cases eg : g w ls2 G2 with
        | nx ls4 G4 =>
          rw [eg] at o2
          intro m4 σ4 H4 k4 g4 l4 _
          refine ib m4 ls4 G4 σ4 H4 _ g4 l4 ?_
          have k14 := (k2.trans k3).trans k4
          have o4 := OutS.keep (k3.trans k4) o2
          simp only at o4
          cases eb : gb ls4 G4 with
          | nx ls5 G5 => rw [eb] at o4; exact fun m5 σ5 H5 k5 g5 l5 => ⟨m5, ls5, G5, k14.trans k5, g5, l5, OutS.keep k5 o4⟩
          | ct ls5 G5 => rw [eb] at o4; exact fun m5 σ5 H5 k5 g5 l5 => ⟨m5, ls5, G5, k14.trans k5, g5, l5, OutS.keep k5 o4⟩
          | bk ls5 G5 => rw [eb] at o4; exact o4
          | rt w G5 => rw [eb] at o4; exact o4
          | exc w ls5 G5 => rw [eb] at o4; exact o4
          | stuck => rw [eb] at o4; exact o4
        | rt w G4 => rw [eg] at o2; exact False.elim o2
        | bk ls4 G4 => rw [eg] at o2; exact False.elim o2
        | ct ls4 G4 => rw [eg] at o2; exact False.elim o2
        | exc w ls4 G4 => rw [eg] at o2; exact False.elim o2
        | stuck => rw [eg] at o2; exact False.elim o2
    · exact False.elim ho
end

/-! ### while -/
def whileL (c : EF) (body : SF) : Nat → SF
  | 0, _, _ => .stuck
  | n + 1, ls, G => (c ls G).sbind ls fun w G1 => asBS w fun k => if k then (match body ls G1 with
      | .nx ls2 G2 => whileL c body n ls2 G2
      | .ct ls2 G2 => whileL c body n ls2 G2
      | .bk ls2 G2 => .nx ls2 G2
      | .rt w G2 => .rt w G2
      | .exc w ls2 G2 => .exc w ls2 G2
      | .stuck => .stuck) else .nx ls G1
section
variable {T : Tx} {X : Cx} {W0 : WX} {pos : Pos} {ce : Expr} {body : List Stmt} {fc : EF} {gb : SF}
theorem fs_while (n : Nat) (c : Ctx T X W0) (hc : FT T X W0 ce fc) (hb : FSs T X W0 body gb) : FS T X W0 (.While ce body [] pos) (whileL fc gb n) := by
  obtain ⟨tc, hc, ic⟩ := hc
  obtain ⟨tb, hb, ib⟩ := hb
  refine ⟨_, ps_while c.po hc hb, fun m ls G σ H D hG hL ho => ?_⟩
  refine ⟨fun k σ H => ∃ m2 ls2 G2, RG T m2 G2 H ∧ RL T m2 H ls2 σ ∧ OutS T W0 m2 H D (whileL fc gb k ls2 G2), ⟨n, m, ls, G, hG, hL, ho⟩, ?_⟩
  rintro k σ2 H2 ⟨m2, ls2, G2, g2, l2, o2⟩
  cases k with
  | zero => exact False.elim o2
  | succ k =>
    simp only [whileL] at o2
    refine ic.goS g2 l2 o2 fun b G3 m3 H3 k3 g3 l3 o3 => ?_
    cases b with
    | false => exact o3 m3 σ2 H3 (.refl _ _) g3 l3
    | true =>
      simp only [if_true] at o3 ⊢
      refine ⟨fun σ H => ∃ m4 ls4 G4, RG T m4 G4 H ∧ RL T m4 H ls4 σ ∧ OutS T W0 m4 H D (whileL fc gb k ls4 G4), fun σ' H' q => ⟨k, Nat.lt_succ_self _, q⟩, ?_⟩
      refine ib m3 ls2 G3 σ2 H3 _ g3 l3 ?_
      cases eb : gb ls2 G3 with
      | nx ls5 G5 => rw [eb] at o3; exact fun m5 σ5 H5 k5 g5 l5 => ⟨m5, ls5, G5, g5, l5, OutS.keep k5 o3⟩
      | ct ls5 G5 => rw [eb] at o3; exact fun m5 σ5 H5 k5 g5 l5 => ⟨m5, ls5, G5, g5, l5, OutS.keep k5 o3⟩
      | bk ls5 G5 => rw [eb] at o3; exact o3
      | rt w G5 => rw [eb] at o3; exact o3
      | exc w ls5 G5 => rw [eb] at o3; exact o3
      | stuck => rw [eb] at o3; exact o3
end

/-! ### arguments, displays -/
@[simp] def aNil : EF := fun _ G => .ok (.tup []) G
@[simp] def aCons (f r : EF) : EF := fun ls G => (f ls G).bind fun w G1 => (r ls G1).bind fun ws G2 => asT ws fun ws => .ok (.tup (w :: ws)) G2
section
variable {T : Tx} {X : Cx} {W0 : WX} {e : Expr} {es : List Expr} {f r : EF} {pos : Pos}
theorem fa_nil : FA T X W0 [] aNil := ⟨_, pa_nil, fun m ls G σ H Q hG hL ho => by
  obtain ⟨ws, ew, q⟩ := ho
  cases ew
  exact q m [] H (.refl _ _) hG .nil⟩
theorem fa_cons (h : FE T X W0 e f) (hr : FA T X W0 es r) (hs : starEach (e :: es) X.env = (false, eval e X.env) :: starEach es X.env := by rfl) : FA T X W0 (e :: es) (aCons f r) := by
  obtain ⟨t, h, i⟩ := h
  obtain ⟨u, hr, ir⟩ := hr
  refine ⟨_, pa_cons h hr hs, fun m ls G σ H Q hG hL ho => ?_⟩
  refine i m ls G σ H _ hG hL ?_
  simp only [aCons] at ho
  cases e : f ls G with
  | stuck => rw [e] at ho; exact ho
  | exc w G1 => rw [e] at ho; exact ho
  | ok w G1 =>
    rw [e] at ho
    simp only [Res.bind] at ho
    intro m1 v H1 k1 g1 r1
    refine ir m1 ls G1 σ H1 _ g1 (hL.keep k1) ?_
    cases e2 : r ls G1 with
    | stuck => rw [e2] at ho; exact ho
    | exc w2 G2 => rw [e2] at ho; exact fun m2 c d H2 k2 g2 r2 => ho m2 c d H2 (k1.trans k2) g2 r2
    | ok w2 G2 =>
      rw [e2] at ho
      cases w2 with
      | tup ws =>
        obtain ⟨us, eu, q⟩ := ho
        cases eu
        exact ⟨ws, rfl, fun m2 vs H2 k2 g2 r2 => q m2 _ H2 (k1.trans k2) g2 (.cons (r1.keep k2) r2)⟩
      | _ => obtain ⟨us, eu, q⟩ := ho; try cases eu
@[simp] def eTup (fa : EF) : EF := fun ls G => (fa ls G).bind fun w G1 => asT w fun ws => if ws.length ≤ SZ then .ok (.tup ws) G1 else .stuck
@[simp] def eLst (fa : EF) : EF := fun ls G => (fa ls G).bind fun w G1 => asT w fun ws => if ws.length ≤ SZ then .ok (.lst ws) G1 else .stuck
/-- a list that will change -/
@[simp] def eLstM (fa : EF) : EF := fun ls G => (fa ls G).bind fun w G1 => asT w fun ws => if ws.length ≤ SZ then .ok (.ref G1.length) (G1 ++ [.lst ws]) else .stuck
theorem fe_tup {k : Nat} (h : FA T X W0 es f) : FE T X W0 (.Tuple es k pos) (eTup f) := by
  obtain ⟨t, h, i⟩ := h
  refine ⟨_, pe_tup h, fun m ls G σ H Q hG hL ho => ?_⟩
  refine i.go hG hL ho fun ws G1 m1 vs H1 k1 g1 r1 l1 o1 => ?_
  split at o1
  · rename_i h
    exact ⟨by rw [← r1.length, ← sz_eq]; exact h, fun p hp => o1.newT g1 r1 hp⟩
  · exact False.elim o1
theorem fe_lst (h : FA T X W0 es f) : FE T X W0 (.List es pos) (eLst f) := by
  obtain ⟨t, h, i⟩ := h
  refine ⟨_, pe_lst h, fun m ls G σ H Q hG hL ho => ?_⟩
  refine i.go hG hL ho fun ws G1 m1 vs H1 k1 g1 r1 l1 o1 => ?_
  split at o1
  · rename_i h
    exact ⟨by rw [← r1.length, ← sz_eq]; exact h, fun p hp => o1.newL g1 r1 hp⟩
  · exact False.elim o1
theorem fe_lstM (h : FA T X W0 es f) : FE T X W0 (.List es pos) (eLstM f) := by
  obtain ⟨t, h, i⟩ := h
  refine ⟨_, pe_lst h, fun m ls G σ H Q hG hL ho => ?_⟩
  refine i.go hG hL ho fun ws G1 m1 vs H1 k1 g1 r1 l1 o1 => ?_
  split at o1
  · rename_i h
    exact ⟨by rw [← r1.length, ← sz_eq]; exact h, fun p hp => o1.newM g1 r1 hp⟩
  · exact False.elim o1

/-! ### built-in functions and types by values -/
/-- the reading of a call by values is implied by f -/
def ImpB (T : Tx) (W0 : WX) (r : List V → Hp → VK → Prop) (f : List W → Gs → Res) : Prop :=
  ∀ (m : Mm) (G : Gs) (σ : St) (H : Hp) (Q : VK) (ws : List W) (vs : List V), RG T m G H → RWs T m H ws vs → Out T W0 m H σ Q (f ws G) → r vs H Q
@[simp] def eCall (f : List W → Gs → Res) (fa : EF) : EF := fun ls G => (fa ls G).bind fun w G1 => asT w fun ws => f ws G1
variable {x : Str} {p : Pos} {id : String} {rd : List V → Hp → VK → Prop} {fb : List W → Gs → Res}
theorem fe_blt (hc : CallR X (.builtin id) rd) (hi : ImpB T W0 rd fb) (hm : X.mg x = none) (ha : FA T X W0 (e :: es) f) (hv : bootBuiltins x = some (.builtin id) := by decide +kernel) (hg : Gl X x := by rfl) (hn : x ≠ "__name__" := by decide +kernel) (hdb : (x == ("__debug__" : Str)) = false := by decide +kernel)
    (he : starEach (e :: es) X.env = (false, eval e X.env) :: starEach es X.env := by rfl) (hpl : (backTo pos (starEach es X.env)).any (·.1) = false := by rfl) : FE T X W0 (.Call (.Name x p) (e :: es) [] pos) (eCall fb f) := by
  obtain ⟨t, ha, ia⟩ := ha
  refine ⟨_, pe_callB hc hg hm hv ha hn hdb he hpl, fun m ls G σ H Q hG hL ho => ?_⟩
  exact ia.go hG hL ho fun ws G1 m1 vs H1 k1 g1 r1 l1 o1 => hi m1 G1 σ H1 Q ws vs g1 r1 o1
theorem fe_bty {Tn : String} (hc : CallR X (.type Tn) rd) (hi : ImpB T W0 rd fb) (hm : X.mg x = none) (ha : FA T X W0 (e :: es) f) (hv : bootBuiltins x = some (.type Tn) := by decide +kernel) (hg : Gl X x := by rfl) (hn : x ≠ "__name__" := by decide +kernel) (hdb : (x == ("__debug__" : Str)) = false := by decide +kernel)
    (he : starEach (e :: es) X.env = (false, eval e X.env) :: starEach es X.env := by rfl) (hpl : (backTo pos (starEach es X.env)).any (·.1) = false := by rfl) : FE T X W0 (.Call (.Name x p) (e :: es) [] pos) (eCall fb f) := by
  obtain ⟨t, ha, ia⟩ := ha
  refine ⟨_, pe_callTy hc hg hm hv ha hn hdb he hpl, fun m ls G σ H Q hG hL ho => ?_⟩
  exact ia.go hG hL ho fun ws G1 m1 vs H1 k1 g1 r1 l1 o1 => hi m1 G1 σ H1 Q ws vs g1 r1 o1
/-- a built-in type as a value -/
theorem fe_ty (ty : Ty) (hm : X.mg x = none) (hv : bootBuiltins x = some (.type ty.nm) := by decide +kernel) (hg : Gl X x := by rfl) (hn : x ≠ "__name__" := by decide +kernel) (hdb : (x == ("__debug__" : Str)) = false := by decide +kernel) : FE T X W0 (.Name x p) (eC (.ty ty)) :=
  ⟨_, pe_bltn (v := .ty ty.nm) hg hm hv rfl hn hdb, fun m _ _ _ H _ hG _ ho => ho m _ H (.refl m H) hG (.ty ty)⟩
end
end U

namespace U
open PySem
open L2

/-! ### comprehensions -/
/-- nothing raised leaves a comprehension's block -/
abbrev WN : WX := fun _ _ _ _ => False
def FTs (T : Tx) (X : Cx) (W0 : WX) (ifs : List Expr) (f : EF) : Prop := ∃ t, PTs X ifs t ∧ ImpT T W0 t f
theorem fts_nil {T : Tx} {X : Cx} {W0 : WX} : FTs T X W0 [] (eC (.bl true)) := ⟨_, pts_nil, fun m ls G σ H Q hG hL ho => by
  obtain ⟨b, e, q⟩ := ho m _ H (.refl _ _) hG (.bl true)
  cases e
  exact q⟩
theorem fts_one {T : Tx} {X : Cx} {W0 : WX} {c : Expr} {f : EF} (h : FT T X W0 c f) : FTs T X W0 [c] f := let ⟨_, h, i⟩ := h; ⟨_, pts_one h, i⟩
/-- a context in which nothing is raised out of -/
theorem ctx_blk {T : Tx} {X : Cx} {W0 : WX} (c : Ctx T X W0) (s : Shared) (H : Hp) (scope : Scope) (ce : Env) (fp : List Addr) : Ctx T (X.blk s H scope ce fp) WN :=
  ⟨takes0, PassesOwn.never, c.calm, c.nd, c.hu, c.hK⟩

def compL (g : TF) (ft fe : EF) (ls0 : Ls) : List W → List W → Gs → Res
  | [], acc, G => .ok (.lst acc) G
  | w :: r, acc, G => match g w ls0 G with
    | .nx ls1 G1 => (match ft ls1 G1 with
      | .ok (.bl true) G2 => (match fe ls1 G2 with
        | .ok y G3 => if acc.length < SZ then compL g ft fe ls0 r (acc ++ [y]) G3 else .stuck
        | _ => .stuck)
      | .ok (.bl false) G2 => compL g ft fe ls0 r acc G2
      | _ => .stuck)
    | _ => .stuck
@[simp] def eComp (vs : List Nat) (fi : EF) (g : TF) (ft fe : EF) : EF := fun ls G => (fi ls G).bind fun w G1 => match w with
  | .lst ws => compL g ft fe (wipeL ls vs) ws [] G1
  | _ => .stuck
section
variable {T : Tx} {X : Cx} {W0 : WX}
theorem imp_comp {is vs : List Nat} {wi : TI} {tg : TG} {tt : TT} {te : TE} {fi : EF} {g : TF} {ft fe : EF} (ii : ImpI T W0 wi fi) (ig : ImpG T is tg g) (it' : ImpT T WN tt ft) (ie : Imp T WN te fe) (hs : ∀ j ∈ is, j ∈ vs) : Imp T W0 (tLc wi tg tt te vs) (eComp vs fi g ft fe) := by
  intro m ls G σ H Q hG hL ho
  refine ii m ls G σ H _ hG hL ?_
  simp only [eComp] at ho
  cases e : fi ls G with
  | stuck => rw [e] at ho; exact ho
  | exc w G1 => rw [e] at ho; exact ho
  | ok w G1 =>
    rw [e] at ho
    simp only [Res.bind] at ho
    split at ho
    · rename_i ws
      refine ⟨ws, rfl, fun m1 J H1 k1 g1 it D hD => ?_⟩
      have o1 := Out.keep k1 ho
      have hDr : D ∉ m1.r := g1.freeR hD
      refine ⟨fun i k H => k = ws.length - i ∧ ∃ m2 acc accV G2, Keep m1 H1 m2 H ∧ RG T m2 G2 H ∧ D ∈ m2.av ∧ D ∉ m2.r ∧ H D = some (.lst accV) ∧ RWs T m2 H acc accV ∧ RL T m2 H (wipeL ls vs) (L2.wipe σ vs) ∧
        Out T W0 m1 H1 σ Q (compL g ft fe (wipeL ls vs) (ws.drop i) acc G2), ⟨ws.length, rfl, m1.hide D, [], [], G1, Keep.hide g1 hD, g1.hide hD, List.mem_cons_self, hDr, upd_same, .nil, (((hL.keep k1).keep (Keep.hide g1 hD)).wipe vs), o1⟩, ?_⟩
      rintro i k H2 ⟨rfl, m2, acc, accV, G2, k2, g2, hDa, hDr2, eD, ra, l2, o2⟩
      obtain ⟨go, stop⟩ := it m2 G2 H2 k2 g2
      cases hw : ws[i]? with
      | none =>
        have hle : ws.length ≤ i := List.getElem?_eq_none_iff.mp hw
        rw [List.drop_eq_nil_of_le hle] at o2
        refine .inl ⟨stop i hle, ?_⟩
        refine o2 (m2.unh D) (.ref D) H2 (Keep.back g1 hD k2) g2.unh (.lst ra.unh ⟨hDr2, fun q => ?_⟩ eD)
        have := (List.mem_filter.mp q).2
        simp at this
      | some w =>
        have hlt : i < ws.length := (List.getElem?_eq_some_iff.mp hw).1
        have hd : ws.drop i = w :: ws.drop (i + 1) := by
          rw [List.drop_eq_getElem_cons hlt, (List.getElem?_eq_some_iff.mp hw).2]
        rw [hd] at o2
        obtain ⟨hgo, hy⟩ := go i w hw
        refine .inr ⟨hgo, fun H => ∃ m2 acc accV G2, Keep m1 H1 m2 H ∧ RG T m2 G2 H ∧ D ∈ m2.av ∧ D ∉ m2.r ∧ H D = some (.lst accV) ∧ RWs T m2 H acc accV ∧ RL T m2 H (wipeL ls vs) (L2.wipe σ vs) ∧
          Out T W0 m1 H1 σ Q (compL g ft fe (wipeL ls vs) (ws.drop (i + 1)) acc G2), fun H' n => ⟨ws.length - (i + 1), by omega, rfl, n⟩, fun x H' yl => ?_⟩
        obtain ⟨k3, g3, r3⟩ := hy x H' yl
        refine ig m2 (wipeL ls vs) G2 (L2.wipe σ vs) H' w x _ g3 (l2.keep k3) r3 ?_
        simp only [compL] at o2
        cases eg : g w (wipeL ls vs) G2 with
        | nx ls4 G4 =>
          rw [eg] at o2
          simp only at o2
          intro m4 σ4 H4 k4 g4 l4 c4
          refine ⟨c4.wipe hs, ?_⟩
          refine it' m4 ls4 G4 σ4 H4 _ g4 l4 ?_
          cases et : ft ls4 G4 with
          | ok b G5 =>
            rw [et] at o2
            intro m5 v5 H5 k5 g5 r5
            have kk : Keep m2 H2 m5 H5 := (k3.trans k4).trans k5
            have fin : ∀ {m6 : Mm} {H6 : Hp} {G6 : Gs} (_ : Keep m2 H2 m6 H6) (_ : RG T m6 G6 H6), D ∈ m6.av ∧ D ∉ m6.r ∧ H6 D = some (.lst accV) := fun {m6 H6 G6} k6 g6 => ⟨k6.avL D hDa, (k6.fzE eD hDr2).2, (k6.fzE eD hDr2).1⟩
            cases r5 with
            | bl b =>
              refine ⟨b, rfl, ?_⟩
              cases b with
              | false =>
                simp only [Bool.false_eq_true, if_false]
                obtain ⟨f1, f2, f3⟩ := fin kk g5
                exact ⟨m5, acc, accV, G5, k2.trans kk, g5, f1, f2, f3, ra.keep kk, l2.keep kk, o2⟩
              | true =>
                simp only [if_true]
                refine ie m5 ls4 G5 σ4 H5 _ g5 (l4.keep k5) ?_
                simp only at o2
                cases ee : fe ls4 G5 with
                | ok y G6 =>
                  rw [ee] at o2
                  simp only at o2
                  split at o2
                  · rename_i hz
                    intro m6 v6 H6 k6 g6 r6
                    have kk' := kk.trans k6
                    obtain ⟨f1, f2, f3⟩ := fin kk' g6
                    have ra6 := ra.keep kk'
                    refine ⟨accV, f3, by rw [← ra6.length, ← sz_eq]; exact hz, m6, acc ++ [y], accV ++ [v6], G6, Keep.pen hD (k2.trans kk'), g6.pen f1 f2, f1, f2, upd_same, ?_, (l2.keep kk').pen f1, o2⟩
                    exact (ra6.append (.cons r6 .nil)).pen f1
                  · exact False.elim o2
                | exc y G6 => rw [ee] at o2; exact False.elim o2
                | stuck => rw [ee] at o2; exact False.elim o2
            | _ => exact False.elim o2
          | exc b G5 => rw [et] at o2; exact False.elim o2
          | stuck => rw [et] at o2; exact False.elim o2
        | _ => rw [eg] at o2; exact False.elim o2
    · exact False.elim ho

section
variable {elt tg iter : Expr} {ifs : List Expr} {scope : Scope} {pos : Pos} {is : List Nat} {fi : EF} {g : TF} {ft fe : EF}
/-- many readings as one -/
theorem one_g {P : Type} {Y : P → Cx} {e : Expr} {is : List Nat} {g : TF} (h : ∀ p, FG T (Y p) is e g) : ∃ t, (∀ p, PG (Y p) e t) ∧ ImpG T is t g :=
  ⟨fun v σ H Q => ∀ p, Classical.choose (h p) v σ H Q, fun p => ⟨fun pins s σ H v u Q I r hq => (Classical.choose_spec (h p)).1.run pins s σ H v u Q I r (hq p)⟩,
    fun m ls G σ H w v Q hG hL r ho p => (Classical.choose_spec (h p)).2 m ls G σ H w v Q hG hL r ho⟩
theorem one_e {P : Type} {Y : P → Cx} {e : Expr} {f : EF} (h : ∀ p, FE T (Y p) WN e f) : ∃ t, (∀ p, PE (Y p) e t) ∧ Imp T WN t f :=
  ⟨fun σ H Q => ∀ p, Classical.choose (h p) σ H Q, fun p => ⟨fun pins s σ H Q I hq => (Classical.choose_spec (h p)).1.run pins s σ H Q I (hq p)⟩,
    fun m ls G σ H Q hG hL ho p => (Classical.choose_spec (h p)).2 m ls G σ H Q hG hL ho⟩
theorem one_t {P : Type} {Y : P → Cx} {ifs : List Expr} {f : EF} (h : ∀ p, FTs T (Y p) WN ifs f) : ∃ t, (∀ p, PTs (Y p) ifs t) ∧ ImpT T WN t f :=
  ⟨fun σ H Q => ∀ p, Classical.choose (h p) σ H Q, fun p => ⟨fun pins s σ H Q I hq => (Classical.choose_spec (h p)).1.run pins s σ H Q I (hq p)⟩,
    fun m ls G σ H Q hG hL ho p => (Classical.choose_spec (h p)).2 m ls G σ H Q hG hL ho⟩
/-- where a block may stand -/
structure BP where
  s : Shared
  H : Hp
  C : Addr
  cl : List (Str × Addr)
  fp : List Addr
abbrev BP.cx (p : BP) (X : Cx) (scope : Scope) : Cx := X.blk p.s p.H scope (compEnvC scope p.cl p.C X.env) p.fp
theorem Ctx.blk {X : Cx} (c : Ctx T X W0) (p : BP) (scope : Scope) : Ctx T (p.cx X scope) WN := ctx_blk c _ _ _ _ _
theorem fe_comp (own : List (Str × Nat)) (c : Ctx T X W0) (hi : FI T X W0 tg iter fi) (hg : ∀ p : BP, Ctx T (p.cx X scope) WN → FG T (p.cx X scope) is tg g) (ht : ∀ p : BP, Ctx T (p.cx X scope) WN → FTs T (p.cx X scope) WN ifs ft) (he : ∀ p : BP, Ctx T (p.cx X scope) WN → FE T (p.cx X scope) WN elt fe)
    (ok : blkC X.N X.env.scope scope own = true := by kernel_rfl) (hs : ∀ j ∈ is, j ∈ own.map (·.2) := by decide) (hf : ∀ x, foldedSetIterable iter X.env x = pure x := by intro _; rfl) :
    FE T X W0 (.ListComp elt [⟨tg, iter, ifs, 0⟩] scope pos) (eComp (own.map (·.2)) fi g ft fe) := by
  obtain ⟨wi, hi, ii⟩ := hi
  obtain ⟨tg', hg, ig⟩ := one_g fun p => hg p (c.blk p scope)
  obtain ⟨tt, ht, it⟩ := one_t fun p => ht p (c.blk p scope)
  obtain ⟨te, he, ie⟩ := one_e fun p => he p (c.blk p scope)
  exact ⟨_, pe_lc c.calm c.nd hi (blkOk_by ok) (fun s H C cl fp => hg ⟨s, H, C, cl, fp⟩) (fun s H C cl fp => ht ⟨s, H, C, cl, fp⟩) (fun s H C cl fp => he ⟨s, H, C, cl, fp⟩) hf, imp_comp ii ig it ie hs⟩
/-- x = [..] on one line, x a plain local -/
theorem fs_setLc (i : Nat) {y : Str} {py spos : Pos} (own : List (Str × Nat)) (c : Ctx T X W0) (hi : FI T X W0 tg iter fi) (hg : ∀ p : BP, Ctx T (p.cx X scope) WN → FG T (p.cx X scope) is tg g) (ht : ∀ p : BP, Ctx T (p.cx X scope) WN → FTs T (p.cx X scope) WN ifs ft) (he : ∀ p : BP, Ctx T (p.cx X scope) WN → FE T (p.cx X scope) WN elt fe)
    (hy : X.N[i]? = some y := by rfl) (hyl : X.env.scope.names.lookup y = some .local := by rfl) (hsw : swapsWith (.ListComp elt [⟨tg, iter, ifs, 0⟩] scope pos) (some (.Name y py)) spos.line X.env = pure true := by exact sw_true rfl rfl rfl (by decide +kernel))
    (ok : blkC X.N X.env.scope scope own = true := by kernel_rfl) (hs : ∀ j ∈ is, j ∈ own.map (·.2) := by decide) (hf : ∀ x, foldedSetIterable iter X.env x = pure x := by intro _; rfl) :
    FS T X W0 (.Assign [.Name y py] (.ListComp elt [⟨tg, iter, ifs, 0⟩] scope pos) spos) (sAsg (eComp (own.map (·.2)) fi g ft fe) (gN i)) := by
  obtain ⟨wi, hi, ii⟩ := hi
  obtain ⟨tg', hg, ig⟩ := one_g fun p => hg p (c.blk p scope)
  obtain ⟨tt, ht, it⟩ := one_t fun p => ht p (c.blk p scope)
  obtain ⟨te, he, ie⟩ := one_e fun p => he p (c.blk p scope)
  refine ⟨_, ps_setLc c.calm c.nd hy hyl hsw hi (blkOk_by ok) (fun s H C cl fp => hg ⟨s, H, C, cl, fp⟩) (fun s H C cl fp => ht ⟨s, H, C, cl, fp⟩) (fun s H C cl fp => he ⟨s, H, C, cl, fp⟩) hf, fun m ls G σ H D hG hL ho => ?_⟩
  exact (imp_comp ii ig it ie hs).goS hG hL ho fun w G1 m1 v H1 k1 g1 r1 l1 o1 => o1 m1 _ H1 (.refl _ _) g1 (l1.set i r1)
end
end
end U

namespace U
open PySem
open L2

section
variable {T : Tx} {W0 : WX} {m : Mm} {G : Gs} {H : Hp}
/-- the list that stands behind a reference -/
theorem RG.lst {i : Nat} {a : Addr} {xs : List W} (R : RG T m G H) (h : m.r[i]? = some a) (e : G[i]? = some (.lst xs)) : ∃ vs, H a = some (.lst vs) ∧ RWs T m H xs vs := R.ob i _ a e h
/-- a store into a list -/
theorem RG.lstW {i : Nat} {a : Addr} {ys : List W} {us : List V} (R : RG T m G H) (h : m.r[i]? = some a) (r : RWs T m H ys us) : Keep m H m (upd H a (.lst us)) ∧ RG T m (G.set i (.lst ys)) (upd H a (.lst us)) := by
  have k : Keep m H m (upd H a (.lst us)) := Keep.write (List.mem_of_getElem? h)
  exact ⟨k, R.write h ⟨us, upd_same, r.keep k⟩⟩
end

/-! ### len, list, tuple, all, any, sum, int, str, abs, min, max -/
def lenW : List W → Gs → Res
  | [.str s], G => if s.length ≤ SZ then .ok (.int s.length) G else .stuck
  | [.lst xs], G => .ok (.int xs.length) G
  | [.tup xs], G => .ok (.int xs.length) G
  | [.fz xs], G => .ok (.int xs.length) G
  | [.ref i], G => (match G[i]? with
    | some (.lst xs) => .ok (.int xs.length) G
    | _ => .stuck)
  | _, _ => .stuck
@[simp] theorem lenW_e1 : lenW [.str s] G = if s.length ≤ SZ then .ok (.int s.length) G else .stuck := rfl
@[simp] theorem lenW_e2 : lenW [.lst xs] G = .ok (.int xs.length) G := rfl
@[simp] theorem lenW_e3 : lenW [.tup xs] G = .ok (.int xs.length) G := rfl
@[simp] theorem lenW_e4 : lenW [.fz xs] G = .ok (.int xs.length) G := rfl
@[simp] theorem lenW_e5 : lenW [.ref i] G = (match G[i]? with
    | some (.lst xs) => .ok (.int xs.length) G
    | _ => .stuck) := rfl
theorem RWs.inv1 {T : Tx} {m : Mm} {H : Hp} {w : W} {vs : List V} (r : RWs T m H [w] vs) : ∃ v, vs = [v] ∧ RW T m H w v := by
  cases r with
  | cons r t => cases t; exact ⟨_, rfl, r⟩
theorem RWs.inv2 {T : Tx} {m : Mm} {H : Hp} {w u : W} {vs : List V} (r : RWs T m H [w, u] vs) : ∃ v x, vs = [v, x] ∧ RW T m H w v ∧ RW T m H u x := by
  cases r with
  | cons r t => cases t with
    | cons q t => cases t; exact ⟨_, _, rfl, r, q⟩
theorem ib_len {T : Tx} {W0 : WX} : ImpB T W0 (fun xs H Q => ∃ x n, xs = [x] ∧ LenV T.K x H n ∧ Q (.int n) H) lenW := by
  intro m G σ H Q ws vs hG r0 ho
  unfold lenW at ho
  split at ho
  · rename_i s
    obtain ⟨v, rfl, r⟩ := r0.inv1
    split at ho
    · rename_i h
      cases r
      exact ⟨.str ⟨s.toArray⟩, s.length, rfl, ⟨by rw [str_len, ← sz_eq]; exact h, (str_len s).symm⟩, ho.now hG (.int _)⟩
    · exact False.elim ho
  · obtain ⟨v, rfl, r⟩ := r0.inv1
    cases r with
    | @lst _ _ a r n f => exact ⟨.ref a, _, rfl, .inl ⟨_, SqL.of f, r.length⟩, ho.now hG (.int _)⟩
  · obtain ⟨v, rfl, r⟩ := r0.inv1
    cases r with
    | @tup _ _ a r f => exact ⟨.ref a, _, rfl, .inr ⟨_, f.sq, r.length⟩, ho.now hG (.int _)⟩
  · obtain ⟨v, rfl, r⟩ := r0.inv1
    cases r with
    | @fz _ _ a r f => exact ⟨.ref a, _, rfl, .inl ⟨_, f.sq, r.length⟩, ho.now hG (.int _)⟩
  · obtain ⟨v, rfl, r⟩ := r0.inv1
    cases r with
    | @ref _ a h =>
      split at ho
      · rename_i xs e
        obtain ⟨us, e1, r1⟩ := hG.lst h e
        exact ⟨.ref a, _, rfl, .inl ⟨_, SqL.of e1, r1.length⟩, ho.now hG (.int _)⟩
      · exact False.elim ho
  · exact False.elim ho
/-- what may be walked at once -/
def itemsW : W → Gs → Option (List W)
  | .lst xs, G => some xs
  | .tup xs, G => some xs
  | .fz xs, G => some xs
  | .ref i, G => (match G[i]? with
    | some (.lst xs) => some xs
    | _ => none)
  | _, _ => none
@[simp] theorem itemsW_e1 : itemsW (.lst xs) G = some xs := rfl
@[simp] theorem itemsW_e2 : itemsW (.tup xs) G = some xs := rfl
@[simp] theorem itemsW_e3 : itemsW (.fz xs) G = some xs := rfl
@[simp] theorem itemsW_e4 : itemsW (.ref i) G = (match G[i]? with
    | some (.lst xs) => some xs
    | _ => none) := rfl
theorem items_ok {T : Tx} {m : Mm} {G : Gs} {H : Hp} {w : W} {v : V} {xs : List W} (hG : RG T m G H) (r : RW T m H w v) (e : itemsW w G = some xs) : ∃ p ys, v = .ref p ∧ (SqL T.K H p ys ∨ SqT T.K H p ys) ∧ RWs T m H xs ys := by
  cases r with
  | lst r n f => cases e; exact ⟨_, _, rfl, .inl (SqL.of f), r⟩
  | tup r f => cases e; exact ⟨_, _, rfl, .inr f.sq, r⟩
  | fz r f => cases e; exact ⟨_, _, rfl, .inl f.sq, r⟩
  | @ref i a h =>
    unfold itemsW at e
    simp only at e
    split at e
    · rename_i ys e2
      cases e
      obtain ⟨us, e1, r1⟩ := hG.lst h e2
      exact ⟨_, _, rfl, .inl (SqL.of e1), r1⟩
    · cases e
  | _ => cases e
def listW : List W → Gs → Res
  | [w], G => (match itemsW w G with
    | some xs => .ok (.lst xs) G
    | none => .stuck)
  | _, _ => .stuck
@[simp] theorem listW_e1 : listW [w] G = (match itemsW w G with
    | some xs => .ok (.lst xs) G
    | none => .stuck) := rfl
def listMW : List W → Gs → Res
  | [w], G => (match itemsW w G with
    | some xs => .ok (.ref G.length) (G ++ [.lst xs])
    | none => .stuck)
  | _, _ => .stuck
@[simp] theorem listMW_e1 : listMW [w] G = (match itemsW w G with
    | some xs => .ok (.ref G.length) (G ++ [.lst xs])
    | none => .stuck) := rfl
theorem ib_list {T : Tx} {W0 : WX} : ImpB T W0 (fun xs H Q => ∃ p ys, xs = [.ref p] ∧ (SqL T.K H p ys ∨ SqT T.K H p ys) ∧ ∀ l, H l = none → Q (.ref l) (upd H l (.lst ys))) listW := by
  intro m G σ H Q ws vs hG r0 ho
  unfold listW at ho
  split at ho
  · obtain ⟨v, rfl, r⟩ := r0.inv1
    split at ho
    · rename_i xs e
      obtain ⟨p, ys, rfl, h, q⟩ := items_ok hG r e
      exact ⟨p, ys, rfl, h, fun l hl => ho.newL hG q hl⟩
    · exact False.elim ho
  · exact False.elim ho
theorem ib_listM {T : Tx} {W0 : WX} : ImpB T W0 (fun xs H Q => ∃ p ys, xs = [.ref p] ∧ (SqL T.K H p ys ∨ SqT T.K H p ys) ∧ ∀ l, H l = none → Q (.ref l) (upd H l (.lst ys))) listMW := by
  intro m G σ H Q ws vs hG r0 ho
  unfold listMW at ho
  split at ho
  · obtain ⟨v, rfl, r⟩ := r0.inv1
    split at ho
    · rename_i xs e
      obtain ⟨p, ys, rfl, h, q⟩ := items_ok hG r e
      exact ⟨p, ys, rfl, h, fun l hl => ho.newM hG q hl⟩
    · exact False.elim ho
  · exact False.elim ho
def tupleW : List W → Gs → Res
  | [.tup xs], G => .ok (.tup xs) G
  | [.lst xs], G => .ok (.tup xs) G
  | [.ref i], G => (match G[i]? with
    | some (.lst xs) => .ok (.tup xs) G
    | _ => .stuck)
  | _, _ => .stuck
@[simp] theorem tupleW_e1 : tupleW [.tup xs] G = .ok (.tup xs) G := rfl
@[simp] theorem tupleW_e2 : tupleW [.lst xs] G = .ok (.tup xs) G := rfl
@[simp] theorem tupleW_e3 : tupleW [.ref i] G = (match G[i]? with
    | some (.lst xs) => .ok (.tup xs) G
    | _ => .stuck) := rfl
theorem ib_tuple {T : Tx} {W0 : WX} : ImpB T W0 (fun xs H Q => ∃ p ys, xs = [.ref p] ∧ ((SqL T.K H p ys ∧ ∀ l, H l = none → Q (.ref l) (upd H l (.tup ys))) ∨ (SqT T.K H p ys ∧ Q (.ref p) H))) tupleW := by
  intro m G σ H Q ws vs hG r0 ho
  unfold tupleW at ho
  split at ho
  · obtain ⟨v, rfl, r⟩ := r0.inv1
    cases r with
    | tup r f => exact ⟨_, _, rfl, .inr ⟨f.sq, ho.now hG (.tup r f)⟩⟩
  · obtain ⟨v, rfl, r⟩ := r0.inv1
    cases r with
    | lst r n f => exact ⟨_, _, rfl, .inl ⟨SqL.of f, fun l hl => ho.newT hG r hl⟩⟩
  · obtain ⟨v, rfl, r⟩ := r0.inv1
    cases r with
    | ref h =>
      split at ho
      · rename_i xs e
        obtain ⟨us, e1, r1⟩ := hG.lst h e
        exact ⟨_, _, rfl, .inl ⟨SqL.of e1, fun l hl => ho.newT hG r1 hl⟩⟩
      · exact False.elim ho
  · exact False.elim ho
@[simp] def blsOf : List W → Option (List Bool)
  | [] => some []
  | .bl b :: r => (blsOf r).map (b :: ·)
  | _ => none
@[simp] def intsOf : List W → Option (List Int)
  | [] => some []
  | .int i :: r => (intsOf r).map (i :: ·)
  | _ => none
@[simp] def strsOf : List W → Option (List (List Nat))
  | [] => some []
  | .str s :: r => (strsOf r).map (s :: ·)
  | _ => none
theorem bls_ok {T : Tx} {m : Mm} {H : Hp} : ∀ {ws : List W} {vs : List V} {bs : List Bool}, RWs T m H ws vs → blsOf ws = some bs → vs = bs.map V.bl
  | _, _, _, .nil, e => by cases e; rfl
  | w :: ws, _, _, .cons r t, e => by
    cases r with
    | bl b =>
      simp only [blsOf] at e
      cases e1 : blsOf ws with
      | none => rw [e1] at e; cases e
      | some bs => rw [e1] at e; cases e; rw [bls_ok t e1]; rfl
    | _ => cases e
theorem ints_ok {T : Tx} {m : Mm} {H : Hp} : ∀ {ws : List W} {vs : List V} {bs : List Int}, RWs T m H ws vs → intsOf ws = some bs → vs = bs.map V.int
  | _, _, _, .nil, e => by cases e; rfl
  | w :: ws, _, _, .cons r t, e => by
    cases r with
    | int b =>
      simp only [intsOf] at e
      cases e1 : intsOf ws with
      | none => rw [e1] at e; cases e
      | some bs => rw [e1] at e; cases e; rw [ints_ok t e1]; rfl
    | _ => cases e
theorem strs_ok {T : Tx} {m : Mm} {H : Hp} : ∀ {ws : List W} {vs : List V} {bs : List (List Nat)}, RWs T m H ws vs → strsOf ws = some bs → vs = (bs.map fun s => (⟨s.toArray⟩ : Str)).map V.str
  | _, _, _, .nil, e => by cases e; rfl
  | w :: ws, _, _, .cons r t, e => by
    cases r with
    | str b =>
      simp only [strsOf] at e
      cases e1 : strsOf ws with
      | none => rw [e1] at e; cases e
      | some bs => rw [e1] at e; cases e; rw [strs_ok t e1]; rfl
    | _ => cases e
/-- the items of a list, frozen or not -/
def lstW : W → Gs → Option (List W)
  | .lst xs, G => some xs
  | .ref i, G => (match G[i]? with
    | some (.lst xs) => some xs
    | _ => none)
  | _, _ => none
@[simp] theorem lstW_e1 : lstW (.lst xs) G = some xs := rfl
@[simp] theorem lstW_e2 : lstW (.ref i) G = (match G[i]? with
    | some (.lst xs) => some xs
    | _ => none) := rfl
theorem lst_ok {T : Tx} {m : Mm} {G : Gs} {H : Hp} {w : W} {v : V} {xs : List W} (hG : RG T m G H) (r : RW T m H w v) (e : lstW w G = some xs) : ∃ p ys, v = .ref p ∧ H p = some (.lst ys) ∧ RWs T m H xs ys := by
  cases r with
  | lst r n f => cases e; exact ⟨_, _, rfl, f, r⟩
  | @ref i a h =>
    unfold lstW at e
    simp only at e
    split at e
    · rename_i ys e2
      cases e
      obtain ⟨us, e1, r1⟩ := hG.lst h e2
      exact ⟨_, _, rfl, e1, r1⟩
    · cases e
  | _ => cases e
def allW : List W → Gs → Res
  | [w], G => (match (lstW w G).bind blsOf with
    | some bs => .ok (.bl (bs.all id)) G
    | none => .stuck)
  | _, _ => .stuck
@[simp] theorem allW_e1 : allW [w] G = (match (lstW w G).bind blsOf with
    | some bs => .ok (.bl (bs.all id)) G
    | none => .stuck) := rfl
def anyW : List W → Gs → Res
  | [w], G => (match (lstW w G).bind blsOf with
    | some bs => .ok (.bl (bs.any id)) G
    | none => .stuck)
  | _, _ => .stuck
@[simp] theorem anyW_e1 : anyW [w] G = (match (lstW w G).bind blsOf with
    | some bs => .ok (.bl (bs.any id)) G
    | none => .stuck) := rfl
def sumW : List W → Gs → Res
  | [w], G => (match (lstW w G).bind intsOf with
    | some bs => .ok (.int bs.sum) G
    | none => .stuck)
  | _, _ => .stuck
@[simp] theorem sumW_e1 : sumW [w] G = (match (lstW w G).bind intsOf with
    | some bs => .ok (.int bs.sum) G
    | none => .stuck) := rfl
theorem ib_all {T : Tx} {W0 : WX} : ImpB T W0 (rAll T.K) allW := by
  intro m G σ H Q ws vs hG r0 ho
  unfold allW at ho
  split at ho
  · obtain ⟨v, rfl, r⟩ := r0.inv1
    split at ho
    · rename_i bs e
      obtain ⟨xs, e1, e2⟩ := Option.bind_eq_some_iff.mp e
      obtain ⟨p, ys, rfl, f, r⟩ := lst_ok hG r e1
      have := bls_ok r e2
      subst this
      exact ⟨_, bs, rfl, SqL.of f, ho.now hG (.bl _)⟩
    · exact False.elim ho
  · exact False.elim ho
theorem ib_any {T : Tx} {W0 : WX} : ImpB T W0 (rAny T.K) anyW := by
  intro m G σ H Q ws vs hG r0 ho
  unfold anyW at ho
  split at ho
  · obtain ⟨v, rfl, r⟩ := r0.inv1
    split at ho
    · rename_i bs e
      obtain ⟨xs, e1, e2⟩ := Option.bind_eq_some_iff.mp e
      obtain ⟨p, ys, rfl, f, r⟩ := lst_ok hG r e1
      have := bls_ok r e2
      subst this
      exact ⟨_, bs, rfl, SqL.of f, ho.now hG (.bl _)⟩
    · exact False.elim ho
  · exact False.elim ho
theorem ib_sum {T : Tx} {W0 : WX} : ImpB T W0 (rSum T.K) sumW := by
  intro m G σ H Q ws vs hG r0 ho
  unfold sumW at ho
  split at ho
  · obtain ⟨v, rfl, r⟩ := r0.inv1
    split at ho
    · rename_i bs e
      obtain ⟨xs, e1, e2⟩ := Option.bind_eq_some_iff.mp e
      obtain ⟨p, ys, rfl, f, r⟩ := lst_ok hG r e1
      have := ints_ok r e2
      subst this
      exact ⟨_, bs, rfl, SqL.of f, ho.now hG (.int _)⟩
    · exact False.elim ho
  · exact False.elim ho
def intW : List W → Gs → Res
  | [.int i], G => .ok (.int i) G
  | [.bl b], G => .ok (.int (if b then 1 else 0)) G
  | _, _ => .stuck
@[simp] theorem intW_e1 : intW [.int i] G = .ok (.int i) G := rfl
@[simp] theorem intW_e2 : intW [.bl b] G = .ok (.int (if b then 1 else 0)) G := rfl
theorem ib_int {T : Tx} {W0 : WX} : ImpB T W0 (fun xs H Q => (∃ i, xs = [.int i] ∧ Q (.int i) H) ∨ ∃ k, xs = [.bl k] ∧ Q (.int (if k then 1 else 0)) H) intW := by
  intro m G σ H Q ws vs hG r0 ho
  unfold intW at ho
  split at ho
  · obtain ⟨v, rfl, r⟩ := r0.inv1
    cases r with
    | int i => exact .inl ⟨_, rfl, ho.now hG (.int _)⟩
  · obtain ⟨v, rfl, r⟩ := r0.inv1
    cases r with
    | bl i => exact .inr ⟨_, rfl, ho.now hG (.int _)⟩
  · exact False.elim ho
def absW : List W → Gs → Res
  | [.int i], G => .ok (.int (if i < 0 then -i else i)) G
  | _, _ => .stuck
@[simp] theorem absW_e1 : absW [.int i] G = .ok (.int (if i < 0 then -i else i)) G := rfl
theorem ib_abs {T : Tx} {W0 : WX} : ImpB T W0 (fun xs H Q => ∃ i, xs = [.int i] ∧ Q (.int (if i < 0 then -i else i)) H) absW := by
  intro m G σ H Q ws vs hG r0 ho
  unfold absW at ho
  split at ho
  · obtain ⟨v, rfl, r⟩ := r0.inv1
    cases r with
    | int i => exact ⟨_, rfl, ho.now hG (.int _)⟩
  · exact False.elim ho
def min2W : List W → Gs → Res
  | [.int i, .int j], G => .ok (.int (if j < i then j else i)) G
  | _, _ => .stuck
@[simp] theorem min2W_e1 : min2W [.int i, .int j] G = .ok (.int (if j < i then j else i)) G := rfl
theorem ib_min2 {T : Tx} {W0 : WX} : ImpB T W0 (fun xs H Q => ∃ i j, xs = [.int i, .int j] ∧ Q (.int (if j < i then j else i)) H) min2W := by
  intro m G σ H Q ws vs hG r0 ho
  unfold min2W at ho
  split at ho
  · obtain ⟨v, u, rfl, r, q⟩ := r0.inv2
    cases r with
    | int i => cases q with
      | int j => exact ⟨_, _, rfl, ho.now hG (.int _)⟩
  · exact False.elim ho
def max2W : List W → Gs → Res
  | [.int i, .int j], G => .ok (.int (if j > i then j else i)) G
  | _, _ => .stuck
@[simp] theorem max2W_e1 : max2W [.int i, .int j] G = .ok (.int (if j > i then j else i)) G := rfl
theorem ib_max2 {T : Tx} {W0 : WX} : ImpB T W0 (fun xs H Q => ∃ i j, xs = [.int i, .int j] ∧ Q (.int (if j > i then j else i)) H) max2W := by
  intro m G σ H Q ws vs hG r0 ho
  unfold max2W at ho
  split at ho
  · obtain ⟨v, u, rfl, r, q⟩ := r0.inv2
    cases r with
    | int i => cases q with
      | int j => exact ⟨_, _, rfl, ho.now hG (.int _)⟩
  · exact False.elim ho

/-! ### isinstance with built-in types -/
def isTy : W → Gs → Ty → Option Bool
  | .non, G, t => some false
  | .bl _, G, t => some (t == .bool || t == .int)
  | .int _, G, t => some (t == .int)
  | .str _, G, t => some (t == .str)
  | .tup _, G, t => some (t == .tuple)
  | .lst _, G, t => some (t == .list)
  | .fz _, G, t => some (t == .list)
  | .dic _, G, t => some (t == .dict)
  | .ref i, G, t => (match G[i]? with
    | some (.lst _) => some (t == .list)
    | some (.dic _) => some (t == .dict)
    | _ => none)
  | _, _, _ => none
@[simp] theorem isTy_e1 : isTy (.non) G t = some false := rfl
@[simp] theorem isTy_e2 : isTy (.bl x1) G t = some (t == .bool || t == .int) := rfl
@[simp] theorem isTy_e3 : isTy (.int x1) G t = some (t == .int) := rfl
@[simp] theorem isTy_e4 : isTy (.str x1) G t = some (t == .str) := rfl
@[simp] theorem isTy_e5 : isTy (.tup x1) G t = some (t == .tuple) := rfl
@[simp] theorem isTy_e6 : isTy (.lst x1) G t = some (t == .list) := rfl
@[simp] theorem isTy_e7 : isTy (.fz x1) G t = some (t == .list) := rfl
@[simp] theorem isTy_e8 : isTy (.dic x1) G t = some (t == .dict) := rfl
@[simp] theorem isTy_e9 : isTy (.ref i) G t = (match G[i]? with
    | some (.lst _) => some (t == .list)
    | some (.dic _) => some (t == .dict)
    | _ => none) := rfl
/-- the keys are numbers and texts -/
def dFlat : List W → Bool
  | .tup [.tup _, _] :: _ => false
  | _ => true
theorem RWt.nflat {T : Tx} {m : Mm} {H : Hp} : ∀ {es : List W} {kvs : List (List Key × V)}, RWt T m H es kvs → es ≠ [] → dFlat es = false
  | _, _, .nil, z => absurd rfl z
  | _, _, .cons _ _, _ => rfl
def tyName : W → Gs → Option String
  | .non, _ => some "NoneType"
  | .bl _, _ => some "bool"
  | .int _, _ => some "int"
  | .str _, _ => some "str"
  | .tup _, _ => some "tuple"
  | .lst _, _ => some "list"
  | .fz _, _ => some "list"
  | .dic es, _ => if dFlat es then some "dict" else none
  | .ref i, G => (match G[i]? with
    | some (.lst _) => some "list"
    | some (.dic es) => if dFlat es then some "dict" else none
    | _ => none)
  | _, _ => none
@[simp] theorem tyName_e1 : tyName (.non) x1 = some "NoneType" := rfl
@[simp] theorem tyName_e2 : tyName (.bl x1) x2 = some "bool" := rfl
@[simp] theorem tyName_e3 : tyName (.int x1) x2 = some "int" := rfl
@[simp] theorem tyName_e4 : tyName (.str x1) x2 = some "str" := rfl
@[simp] theorem tyName_e5 : tyName (.tup x1) x2 = some "tuple" := rfl
@[simp] theorem tyName_e6 : tyName (.lst x1) x2 = some "list" := rfl
@[simp] theorem tyName_e7 : tyName (.fz x1) x2 = some "list" := rfl
@[simp] theorem tyName_e8 : tyName (.dic x1) x2 = if dFlat x1 then some "dict" else none := rfl
@[simp] theorem tyName_e9 : tyName (.ref i) G = (match G[i]? with
    | some (.lst _) => some "list"
    | some (.dic es) => if dFlat es then some "dict" else none
    | _ => none) := rfl
theorem tyName_ok {T : Tx} {m : Mm} {G : Gs} {H : Hp} {w : W} {v : V} {n : String} (hG : RG T m G H) (r : RW T m H w v) (e : tyName w G = some n) : TyX T.K H v (.type n) := by
  cases r with
  | non => cases e; exact .base .non
  | bl b => cases e; exact .base (.bl b)
  | int b => cases e; exact .base (.int b)
  | str b => cases e; exact .base (.str _)
  | tup r f =>
    cases e
    rcases f with ⟨_, h⟩ | ⟨⟨o, its, n, h, c, _⟩, _⟩
    · exact .base (.tup h)
    · exact .kTuple h c
  | lst r n f => cases e; exact .base (.lst f)
  | fz r f =>
    cases e
    rcases f with ⟨_, h | ⟨o, h⟩⟩ | ⟨o, its, n, h, c, _⟩
    · exact .base (.lst h)
    · exact .base (.frz h)
    · exact .kList h c
  | dic r n f =>
    unfold tyName at e
    simp only at e
    split at e
    · cases e
      rcases f with h | ⟨o, h⟩
      · exact .base (.dK h)
      · exact .fDict h
    · cases e
  | dit r z n f =>
    unfold tyName at e
    simp only at e
    rw [RWt.nflat r z] at e
    cases e
  | @ref i a h =>
    unfold tyName at e
    simp only at e
    split at e
    · rename_i xs e2
      cases e
      obtain ⟨us, e1, _⟩ := hG.ob i _ a e2 h
      exact .base (.lst e1)
    · rename_i xs e2
      split at e
      · rename_i hf
        cases e
        rcases hG.ob i _ a e2 h with ⟨us, e1, _⟩ | ⟨us, e1, z, r⟩
        · exact .base (.dK e1)
        · rw [RWt.nflat r z] at hf; cases hf
      · cases e
    · cases e
  | _ => cases e
theorem kit_all {K : PySem.W.Frag} {w : W} {G : Gs} {n : String} {t : Ty} {b : Bool} (e : tyName w G = some n) (h : isTy w G t = some b) : PySem.W.kitOne K (.type n) (.type t.nm) = some b := by
  have key : ∀ {n : String}, kitB n t.nm = some b → PySem.W.kitOne K (.type n) (.type t.nm) = some b := fun h => kit_ty h
  cases w with
  | non => cases e; cases h; cases t <;> exact key (by decide +kernel)
  | bl _ => cases e; cases h; cases t <;> exact key (by decide +kernel)
  | int _ => cases e; cases h; cases t <;> exact key (by decide +kernel)
  | str _ => cases e; cases h; cases t <;> exact key (by decide +kernel)
  | tup _ => cases e; cases h; cases t <;> exact key (by decide +kernel)
  | lst _ => cases e; cases h; cases t <;> exact key (by decide +kernel)
  | fz _ => cases e; cases h; cases t <;> exact key (by decide +kernel)
  | dic _ =>
    unfold tyName at e
    simp only at e
    split at e
    · cases e; cases h; cases t <;> exact key (by decide +kernel)
    · cases e
  | ref i =>
    unfold tyName at e
    unfold isTy at h
    simp only at e h
    split at e
    · rename_i e2
      rw [e2] at h
      cases e; cases h; cases t <;> exact key (by decide +kernel)
    · rename_i e2
      rw [e2] at h
      split at e
      · cases e; cases h; cases t <;> exact key (by decide +kernel)
      · cases e
    · cases e
  | _ => cases e
/-- the answer against several types -/
@[simp] def isTys (w : W) (G : Gs) : List W → Option Bool
  | [] => some false
  | .ty t :: r => (match isTy w G t, isTys w G r with
    | some a, some b => some (a || b)
    | _, _ => none)
  | _ => none
def isiW : List W → Gs → Res
  | [w, .ty t], G => (match tyName w G, isTy w G t with
    | some _, some b => .ok (.bl b) G
    | _, _ => .stuck)
  | [w, .tup ts], G => (match tyName w G, isTys w G ts with
    | some _, some b => .ok (.bl b) G
    | _, _ => .stuck)
  | _, _ => .stuck
@[simp] theorem isiW_e1 : isiW [w, .ty t] G = (match tyName w G, isTy w G t with
    | some _, some b => .ok (.bl b) G
    | _, _ => .stuck) := rfl
@[simp] theorem isiW_e2 : isiW [w, .tup ts] G = (match tyName w G, isTys w G ts with
    | some _, some b => .ok (.bl b) G
    | _, _ => .stuck) := rfl
def rIsiU (K : PySem.W.Frag) : List V → Hp → VK → Prop := fun xs H Q => rIsi K xs H Q ∨ rIsiT K xs H Q ∨ rIsiK K xs H Q
theorem cr_isiU {X : Cx} : CallR X (.builtin "isinstance") (rIsiU X.K) := by
  intro pins s σ H xs us Q I r h
  rcases h with h | h | h
  · exact call_isi pins s σ H xs us Q I r h
  · exact call_isiT pins s σ H xs us Q I r h
  · exact call_isiK pins s σ H xs us Q I r h
theorem isTys_ok {T : Tx} {m : Mm} {G : Gs} {H : Hp} {w : W} {n : String} (e : tyName w G = some n) : ∀ {ts : List W} {vs : List V} {b : Bool}, RWs T m H ts vs → isTys w G ts = some b → ∃ us, Paired ClsV vs us ∧ PySem.W.kitAny T.K (.type n) us = some b
  | _, _, _, .nil, h => by cases h; exact ⟨[], .nil, rfl⟩
  | t :: ts, _, b, .cons r q, h => by
    cases r with
    | ty t =>
      simp only [isTys] at h
      split at h
      · rename_i a b' e1 e2
        cases h
        obtain ⟨us, p, k⟩ := isTys_ok e q e2
        refine ⟨_ :: us, .cons (.ty _) p, kitAny_cons (kit_all e e1) (fun z => ?_) (fun z => by rw [z]; rfl)⟩
        rw [z]
        exact k
      · cases h
    | _ => cases h
theorem ib_isi {T : Tx} {W0 : WX} : ImpB T W0 (rIsiU T.K) isiW := by
  intro m G σ H Q ws vs hG r0 ho
  unfold isiW at ho
  split at ho
  · rename_i w t
    obtain ⟨v, u, rfl, r, q⟩ := r0.inv2
    split at ho
    · rename_i n b e1 e2
      cases q with
      | ty t => exact .inl ⟨_, _, _, _, b, rfl, .ty _, tyName_ok hG r e1, kit_all e1 e2, ho.now hG (.bl b)⟩
    · exact False.elim ho
  · rename_i w ts
    obtain ⟨v, u, rfl, r, q⟩ := r0.inv2
    split at ho
    · rename_i n b e1 e2
      cases q with
      | tup q f =>
        obtain ⟨us, p, k⟩ := isTys_ok e1 q e2
        rcases f with ⟨_, h⟩ | ⟨⟨⟨cl, dd, da, sl⟩, its, n, h, c, d, z, vv⟩, _⟩
        · exact .inr (.inl ⟨_, _, _, _, us, b, rfl, h, p, tyName_ok hG r e1, k, ho.now hG (.bl b)⟩)
        · have c : cl = _ := c
          have d : da = _ := d
          subst c; subst d
          have eu := ClsV.all p vv
          refine .inr (.inr ⟨_, _, dd, its.toList, n, sl, _, b, rfl, by simpa using h, tyName_ok hG r e1, ?_, ho.now hG (.bl b)⟩)
          rw [eu]
          exact k
    · exact False.elim ho
  · exact False.elim ho
end U

namespace U
open PySem
open L2

/-! ### o[i], o[a:b] -/
def ixB : W → Int → Gs → Option W
  | .lst xs, i, G => atI xs i
  | .tup xs, i, G => atI xs i
  | .fz xs, i, G => atI xs i
  | .str s, i, G => if s.length ≤ SZ then (atI s i).map fun c => .str [c] else none
  | .ref k, i, G => (match G[k]? with
    | some (.lst xs) => atI xs i
    | _ => none)
  | _, _, _ => none
@[simp] theorem ixB_e1 : ixB (.lst xs) i G = atI xs i := rfl
@[simp] theorem ixB_e2 : ixB (.tup xs) i G = atI xs i := rfl
@[simp] theorem ixB_e3 : ixB (.fz xs) i G = atI xs i := rfl
@[simp] theorem ixB_e4 : ixB (.str s) i G = if s.length ≤ SZ then (atI s i).map fun c => .str [c] else none := rfl
@[simp] theorem ixB_e5 : ixB (.ref k) i G = (match G[k]? with
    | some (.lst xs) => atI xs i
    | _ => none) := rfl
def ixW : OF
  | a, .int i, G => (match ixB a i G with
    | some w => .ok w G
    | none => .stuck)
  | _, _, _ => .stuck
@[simp] theorem ixW_e1 : ixW a (.int i) G = (match ixB a i G with
    | some w => .ok w G
    | none => .stuck) := rfl
theorem atI_ok {T : Tx} {m : Mm} {H : Hp} {ws : List W} {vs : List V} {i : Int} {w : W} (r : RWs T m H ws vs) (e : atI ws i = some w) : ∃ v, atI vs i = some v ∧ RW T m H w v := by
  unfold atI at e ⊢
  obtain ⟨j, e1, e2⟩ := Option.bind_eq_some_iff.mp e
  obtain ⟨v, h1, h2⟩ := r.get e2
  exact ⟨v, by rw [← r.length, e1]; exact h1, h2⟩
theorem io_ix {T : Tx} {W0 : WX} : ImpO T W0 (rIx T.K) ixW := by
  intro m G σ H Q a b x y hG ra rb ho
  unfold ixW at ho
  split at ho
  · rename_i i
    cases rb
    split at ho
    · rename_i w e
      cases ra with
      | lst r n f =>
        obtain ⟨v, e1, r1⟩ := atI_ok r e
        exact .inl ⟨_, _, i, v, rfl, rfl, SqL.of f, e1, ho.now hG r1⟩
      | fz r f =>
        obtain ⟨v, e1, r1⟩ := atI_ok r e
        exact .inl ⟨_, _, i, v, rfl, rfl, f.sq, e1, ho.now hG r1⟩
      | tup r f =>
        obtain ⟨v, e1, r1⟩ := atI_ok r e
        exact .inr (.inl ⟨_, _, i, v, rfl, rfl, f.sq, e1, ho.now hG r1⟩)
      | str s =>
        unfold ixB at e
        simp only at e
        split at e
        · rename_i hz
          obtain ⟨c, e1, rfl⟩ := Option.map_eq_some_iff.mp e
          exact .inr (.inr ⟨_, i, c, rfl, rfl, by rw [str_len, ← sz_eq]; exact hz, by simpa using e1, ho.now hG (.str [c])⟩)
        · cases e
      | @ref k a h =>
        unfold ixB at e
        simp only at e
        split at e
        · rename_i xs e2
          obtain ⟨us, e3, r3⟩ := hG.lst h e2
          obtain ⟨v, e1, r1⟩ := atI_ok r3 e
          exact .inl ⟨_, _, i, v, rfl, rfl, SqL.of e3, e1, ho.now hG r1⟩
        · cases e
      | _ => cases e
    · exact False.elim ho
  · exact False.elim ho
section
variable {T : Tx} {X : Cx} {W0 : WX} {a b : Expr} {fa fb : EF} {pos : Pos}
theorem fe_ix (c : Ctx T X W0) (ha : FE T X W0 a fa) (hb : FE T X W0 b fb) (hs : PlainIx b := by exact fun _ _ => rfl) : FE T X W0 (.Subscript a b pos) (eOp ixW fa fb) := by
  obtain ⟨ta, ha, ia⟩ := ha
  obtain ⟨tb, hb, ib⟩ := hb
  refine ⟨_, pe_ix ix_seq ha hb hs, ?_⟩
  rw [c.hK]
  exact imp_op io_ix ia ib
end
def cut {α : Type} (xs : List α) (lo hi : Option Int) : List α := (xs.drop (HT.sIx xs.length 0 lo)).take (HT.sIx xs.length xs.length hi - HT.sIx xs.length 0 lo)
theorem RWs.cut {T : Tx} {m : Mm} {H : Hp} {ws : List W} {vs : List V} (r : RWs T m H ws vs) (lo hi : Option Int) : RWs T m H (U.cut ws lo hi) (cutV vs lo hi) := by
  unfold U.cut cutV
  rw [r.length]
  exact (r.drop _).take _
def cutW : W → Option Int → Option Int → Gs → Res
  | .lst xs, lo, hi, G => .ok (.lst (cut xs lo hi)) G
  | .fz xs, lo, hi, G => .ok (.lst (cut xs lo hi)) G
  | .tup xs, lo, hi, G => .ok (.tup (cut xs lo hi)) G
  | .str s, lo, hi, G => if s.length ≤ SZ then .ok (.str (cut s lo hi)) G else .stuck
  | .ref i, lo, hi, G => (match G[i]? with
    | some (.lst xs) => .ok (.lst (cut xs lo hi)) G
    | _ => .stuck)
  | _, _, _, _ => .stuck
@[simp] theorem cutW_e1 : cutW (.lst xs) lo hi G = .ok (.lst (cut xs lo hi)) G := rfl
@[simp] theorem cutW_e2 : cutW (.fz xs) lo hi G = .ok (.lst (cut xs lo hi)) G := rfl
@[simp] theorem cutW_e3 : cutW (.tup xs) lo hi G = .ok (.tup (cut xs lo hi)) G := rfl
@[simp] theorem cutW_e4 : cutW (.str s) lo hi G = if s.length ≤ SZ then .ok (.str (cut s lo hi)) G else .stuck := rfl
@[simp] theorem cutW_e5 : cutW (.ref i) lo hi G = (match G[i]? with
    | some (.lst xs) => .ok (.lst (cut xs lo hi)) G
    | _ => .stuck) := rfl
/-- a slice's bound -/
abbrev PF := Ls → Gs → (Option Int → Gs → Res) → Res
@[simp] def pNo : PF := fun _ G k => k none G
@[simp] def pSm (f : EF) : PF := fun ls G k => (f ls G).bind fun w G1 => match w with
  | .int i => k (some i) G1
  | _ => .stuck
def ImpP (T : Tx) (W0 : WX) (t : TO) (f : PF) : Prop :=
  ∀ (m : Mm) (ls : Ls) (G : Gs) (σ : St) (H : Hp) (Q : VK) (R : Option Int → Hp → Prop) (k : Option Int → Gs → Res), RG T m G H → RL T m H ls σ → Out T W0 m H σ Q (f ls G k) →
    (∀ (o : Option Int) (G1 : Gs) (m1 : Mm) (H1 : Hp), Keep m H m1 H1 → RG T m1 G1 H1 → RL T m1 H1 ls σ → Out T W0 m1 H1 σ Q (k o G1) → R o H1) → t σ H R
def FP (T : Tx) (X : Cx) (W0 : WX) (e : Option Expr) (f : PF) : Prop := ∃ t, PO X e t ∧ ImpP T W0 t f
@[simp] def eSl (fe : EF) (fl fh : PF) : EF := fun ls G => (fe ls G).bind fun w G1 => fl ls G1 fun lo G2 => fh ls G2 fun hi G3 => cutW w lo hi G3
section
variable {T : Tx} {X : Cx} {W0 : WX} {e : Expr} {fe : EF} {lo hi : Option Expr} {fl fh : PF} {pos p2 : Pos}
theorem fp_no : FP T X W0 none pNo := ⟨_, po_none, fun m ls G σ H Q R k hG hL ho hk => hk none G m H (.refl _ _) hG hL ho⟩
theorem fp_some (h : FE T X W0 e fe) : FP T X W0 (some e) (pSm fe) := by
  obtain ⟨t, h, i⟩ := h
  refine ⟨_, po_some h, fun m ls G σ H Q R k hG hL ho hk => ?_⟩
  refine i.go hG hL ho fun w G1 m1 v H1 k1 g1 r1 l1 o1 => ?_
  cases r1 with
  | int i => exact ⟨i, rfl, hk (some i) G1 m1 H1 k1 g1 l1 o1⟩
  | _ => exact False.elim o1
def rSlU (K : PySem.W.Frag) : V → Option Int → Option Int → Hp → VK → Prop := fun x lo hi H Q => rSlL K x lo hi H Q ∨ rSlA K x lo hi H Q ∨ rSlS x lo hi H Q
theorem sl_u : SlR X (rSlU X.K) := sl_list.or (sl_tupA.or sl_str)
theorem cut_whole {T : Tx} {m : Mm} {H : Hp} {ws : List W} {vs : List V} (r : RWs T m H ws vs) {lo hi : Option Int} (h : HT.sIx vs.length 0 lo = 0 ∧ HT.sIx vs.length vs.length hi = vs.length) : cut ws lo hi = ws := by
  unfold cut
  rw [r.length, h.1, h.2, List.drop_zero, Nat.sub_zero, ← r.length, List.take_length]
theorem fe_sl (c : Ctx T X W0) (he : FE T X W0 e fe) (hl : FP T X W0 lo fl) (hh : FP T X W0 hi fh) : FE T X W0 (.Subscript e (.Slice lo hi none p2) pos) (eSl fe fl fh) := by
  obtain ⟨t, he, i⟩ := he
  obtain ⟨tl, hl, il⟩ := hl
  obtain ⟨th, hh, ih⟩ := hh
  refine ⟨_, pe_slice sl_u he hl hh, fun m ls G σ H Q hG hL ho => ?_⟩
  refine i.go hG hL ho fun w G1 m1 v H1 k1 g1 r1 l1 o1 => ?_
  refine il m1 ls G1 σ H1 Q _ _ g1 l1 o1 fun lo G2 m2 H2 k2 g2 l2 o2 => ?_
  refine ih m2 ls G2 σ H2 Q _ _ g2 l2 o2 fun hi G3 m3 H3 k3 g3 l3 o3 => ?_
  have r3 := (r1.keep k2).keep k3
  rw [c.hK]
  cases r3 with
  | lst r n f => exact .inl ⟨_, _, rfl, SqL.of f, fun p hp => o3.newL g3 (r.cut lo hi) hp⟩
  | fz r f => exact .inl ⟨_, _, rfl, f.sq, fun p hp => o3.newL g3 (r.cut lo hi) hp⟩
  | tup r f =>
    refine .inr (.inl ⟨_, _, rfl, f.sq, fun h => ?_, fun h p hp => o3.newT g3 (r.cut lo hi) hp⟩)
    have o3 : Out T W0 m3 H3 σ Q (.ok (.tup (cut _ lo hi)) G3) := o3
    rw [cut_whole r h] at o3
    exact o3.now g3 (.tup r f)
  | str s =>
    simp only [cutW] at o3
    split at o3
    · rename_i hz
      refine .inr (.inr ⟨_, rfl, by rw [str_len, ← sz_eq]; exact hz, ?_⟩)
      have q := o3.now g3 (.str _)
      unfold cutS
      rw [str_len]
      exact q
    · exact False.elim o3
  | @ref k a h =>
    simp only [cutW] at o3
    split at o3
    · rename_i xs e
      obtain ⟨us, e3, r3⟩ := g3.lst h e
      exact .inl ⟨_, _, rfl, SqL.of e3, fun p hp => o3.newL g3 (r3.cut lo hi) hp⟩
    · exact False.elim o3
  | _ => exact False.elim o3
end

/-! ### lists that change -/
/-- a method of a list that changes: what it hands back, what the list becomes -/
@[simp] def mutL (f : List W → List W → Option (W × List W)) (fo fa : EF) : EF := fun ls G => (fo ls G).bind fun o G1 => match o with
  | .ref i => (match G1[i]? with
    | some (.lst _) => (fa ls G1).bind fun w G2 => asT w fun ws => (match G2[i]? with
      | some (.lst xs) => (match f xs ws with
        | some (w, ys) => .ok w (G2.set i (.lst ys))
        | none => .stuck)
      | _ => .stuck)
    | _ => .stuck)
  | _ => .stuck
@[simp] def appF : List W → List W → Option (W × List W) := fun xs ws => match ws with
  | [y] => if xs.length < SZ then some (.non, xs ++ [y]) else none
  | _ => none
@[simp] def insF : List W → List W → Option (W × List W) := fun xs ws => match ws with
  | [.int i, y] => if xs.length < SZ ∧ 0 ≤ i ∧ i < 16777216 then some (.non, xs.take i.toNat ++ [y] ++ xs.drop i.toNat) else none
  | _ => none
@[simp] def popF : List W → List W → Option (W × List W) := fun xs ws => match ws with
  | [] => (match xs[xs.length - 1]? with
    | some w => some (w, xs.dropLast)
    | none => none)
  | _ => none
section
variable {T : Tx} {X : Cx} {W0 : WX} {o e : Expr} {es : List Expr} {fo fa : EF} {pos apos : Pos}
theorem RWs.dropLast {T : Tx} {m : Mm} {H : Hp} : ∀ {ws : List W} {vs : List V}, RWs T m H ws vs → RWs T m H ws.dropLast vs.dropLast
  | _, _, .nil => .nil
  | _, _, .cons _ .nil => .nil
  | _, _, .cons r (.cons q t) => by
    rw [List.dropLast_cons_cons, List.dropLast_cons_cons]
    exact .cons r (RWs.dropLast (.cons q t))
/-- the reading of such a method, told by f -/
def ImpM (T : Tx) (r : V → List V → Hp → VK → Prop) (f : List W → List W → Option (W × List W)) : Prop :=
  ∀ (m : Mm) (G : Gs) (H : Hp) (Q : VK) (a : Addr) (xs ws ys : List W) (us vs : List V) (w : W), H a = some (.lst us) → RWs T m H xs us → RWs T m H ws vs → f xs ws = some (w, ys) →
    (∀ v zs, RW T m H w v → RWs T m H ys zs → Q v (upd H a (.lst zs))) → r (.ref a) vs H Q
theorem im_app {T : Tx} : ImpM T rAppend appF := by
  intro m G H Q a xs ws ys us vs w hH rx rw_ e hk
  unfold appF at e
  split at e
  · split at e
    · rename_i hz
      cases e
      obtain ⟨v, rfl, r⟩ := rw_.inv1
      exact ⟨_, _, _, rfl, rfl, hH, by rw [← rx.length, ← sz_eq]; exact hz, hk _ _ .non (rx.append (.cons r .nil))⟩
    · cases e
  · cases e
theorem im_ins {T : Tx} : ImpM T (fun x vs H Q => ∃ (l : Addr) (xs : List V) (i : Int) (y : V), x = .ref l ∧ vs = [.int i, y] ∧ H l = some (.lst xs) ∧ xs.length < sizeLine ∧ 0 ≤ i ∧ i < 2 ^ 63 ∧ Q .non (upd H l (.lst (xs.take i.toNat ++ [y] ++ xs.drop i.toNat)))) insF := by
  intro m G H Q a xs ws ys us vs w hH rx rw_ e hk
  unfold insF at e
  split at e
  · split at e
    · rename_i hz
      cases e
      obtain ⟨v, u, rfl, r, q⟩ := rw_.inv2
      cases r
      exact ⟨_, _, _, _, rfl, rfl, hH, by rw [← rx.length, ← sz_eq]; exact hz.1, hz.2.1, by have := hz.2.2; omega, hk _ _ .non (((rx.take _).append (.cons q .nil)).append (rx.drop _))⟩
    · cases e
  · cases e
theorem im_pop {T : Tx} : ImpM T rPop popF := by
  intro m G H Q a xs ws ys us vs w hH rx rw_ e hk
  unfold popF at e
  split at e
  · split at e
    · rename_i e1
      cases e
      obtain ⟨v, e2, r⟩ := rx.get e1
      cases rw_
      exact ⟨_, _, v, rfl, rfl, hH, by rw [← rx.length]; exact e2, hk _ _ r rx.dropLast⟩
    · cases e
  · cases e
theorem imp_mut {t : TE} {ta : TA} {r : V → List V → Hp → VK → Prop} {f : List W → List W → Option (W × List W)} (hm : ImpM T r f) (i : Imp T W0 t fo) (ia : ImpA T W0 ta fa) : Imp T W0 (tBM T.K "list" r t ta) (mutL f fo fa) := by
  intro m ls G σ H Q hG hL ho
  refine i.go hG hL ho fun w G1 m1 v H1 k1 g1 r1 l1 o1 => ?_
  cases r1 with
  | @ref k a h =>
    simp only at o1
    split at o1
    · rename_i e0
      obtain ⟨u0, e1, _⟩ := g1.lst h e0
      refine ⟨.inl ⟨rfl, u0, SqL.of e1⟩, ?_⟩
      refine ia.go g1 l1 o1 fun ws G2 m2 vs H2 k2 g2 r2 l2 o2 => ?_
      split at o2
      · rename_i xs e
        split at o2
        · rename_i w ys ef
          have h2 := k2.get h
          obtain ⟨us, e3, r3⟩ := g2.lst h2 e
          refine hm m2 G2 H2 Q a xs ws ys us vs w e3 r3 r2 ef fun v zs rv rz => ?_
          have k : Keep m2 H2 m2 (upd H2 a (.lst zs)) := Keep.write (List.mem_of_getElem? h2)
          exact o2 m2 v _ k (g2.write h2 ⟨zs, upd_same, rz.keep k⟩) (rv.keep k)
        · exact False.elim o2
      · exact False.elim o2
    · exact False.elim o1
  | _ => exact False.elim o1
theorem fe_app (c : Ctx T X W0) (ho : FE T X W0 o fo) (ha : FA T X W0 [e] fa) (hbase : attributeBase o "append" X.env (eval o X.env) = eval o X.env := by rfl)
    (hfew : ((backTo pos (starEach [e] X.env)).all (fun x => !x.1) && (backToKw pos (keywordEach [] X.env)).all (fun x => x.1.isSome) && decide ([e].length + ([] : List Keyword).length + (if ([] : List Keyword).isEmpty then 0 else 1) < 30)) = true := by rfl)
    (hline : (apos.endLine == pos.line) = true := by rfl) (hs : starEach [e] X.env = (false, eval e X.env) :: starEach [] X.env := by rfl) (hplain : (backTo pos (starEach [] X.env)).any (·.1) = false := by rfl) :
    FE T X W0 (.Call (.Attribute o "append" apos) [e] [] pos) (mutL appF fo fa) := by
  obtain ⟨t, ho, i⟩ := ho
  obtain ⟨ta, ha, ia⟩ := ha
  refine ⟨_, pe_bm PySem.F.plainAttrs_list PySem.F.slot_list_append PySem.F.type_list_append mt_append ho ha hbase hfew hline hs hplain, ?_⟩
  rw [c.hK]
  exact imp_mut im_app i ia
theorem fe_ins {e2 : Expr} (c : Ctx T X W0) (ho : FE T X W0 o fo) (ha : FA T X W0 [e, e2] fa) (hbase : attributeBase o "insert" X.env (eval o X.env) = eval o X.env := by rfl)
    (hfew : ((backTo pos (starEach [e, e2] X.env)).all (fun x => !x.1) && (backToKw pos (keywordEach [] X.env)).all (fun x => x.1.isSome) && decide ([e, e2].length + ([] : List Keyword).length + (if ([] : List Keyword).isEmpty then 0 else 1) < 30)) = true := by rfl)
    (hline : (apos.endLine == pos.line) = true := by rfl) (hs : starEach [e, e2] X.env = (false, eval e X.env) :: starEach [e2] X.env := by rfl) (hplain : (backTo pos (starEach [e2] X.env)).any (·.1) = false := by rfl) :
    FE T X W0 (.Call (.Attribute o "insert" apos) [e, e2] [] pos) (mutL insF fo fa) := by
  obtain ⟨t, ho, i⟩ := ho
  obtain ⟨ta, ha, ia⟩ := ha
  refine ⟨_, pe_bm PySem.F.plainAttrs_list PySem.F.slot_list_insert PySem.F.type_list_insert mt_insert ho ha hbase hfew hline hs hplain, ?_⟩
  rw [c.hK]
  exact imp_mut im_ins i ia
theorem fe_pop (c : Ctx T X W0) (ho : FE T X W0 o fo) (hbase : attributeBase o "pop" X.env (eval o X.env) = eval o X.env := by rfl) (hline : (apos.endLine == pos.line) = true := by rfl) :
    FE T X W0 (.Call (.Attribute o "pop" apos) [] [] pos) (mutL popF fo aNil) := by
  obtain ⟨t, ho, i⟩ := ho
  refine ⟨_, pe_bm0 PySem.F.plainAttrs_list PySem.F.slot_list_pop PySem.F.type_list_pop mt_pop ho hbase hline, ?_⟩
  rw [c.hK]
  have q := imp_mut im_pop i (W0 := W0) (ta := tNil) (fa := aNil) (fun m ls G σ H Q hG hL ho => by
    obtain ⟨ws, ew, q⟩ := ho
    cases ew
    exact q m [] H (.refl _ _) hG .nil)
  exact q
/-- o[i] = v of a list that changes -/
@[simp] def gSet (fo fi : EF) : TF := fun v ls G => match fo ls G with
  | .ok (.ref i) G1 => (match fi ls G1 with
    | .ok (.int k) G2 => (match G2[i]? with
      | some (.lst xs) => (match ixN xs.length k with
        | some j => .nx ls (G2.set i (.lst (xs.set j v)))
        | none => .stuck)
      | _ => .stuck)
    | _ => .stuck)
  | _ => .stuck
theorem sto_set {fo fi : EF} : Sto (gSet fo fi) := fun w ls G => by
  unfold gSet
  split
  · split
    · split
      · split
        · exact .inl ⟨_, _, rfl⟩
        · exact .inr rfl
      · exact .inr rfl
    · exact .inr rfl
  · exact .inr rfl
theorem fg_set {i : Expr} {fi : EF} (c : Ctx T X W0) (ho : FE T X W0 o fo) (hi : FE T X W0 i fi)
    (ha : ∀ v, assign (.Subscript o i pos) X.env v = (do
      let ov ← holding [v] (eval o X.env)
      let iv ← holding [v, ov] (eval i X.env)
      standAt pos
      holding [v, ov, iv] (setItem ov iv v)
      release [v, ov, iv] []) := by intro _; rfl) : FG T X [] (.Subscript o i pos) (gSet fo fi) := by
  obtain ⟨t, ho, io⟩ := ho
  obtain ⟨ti, hi, ii⟩ := hi
  refine ⟨_, pg_sub ho hi set_list ha, fun m ls G σ H w v Q hG hL r hq => ?_⟩
  unfold gSet at hq
  refine io m ls G σ H _ hG hL ?_
  cases e1 : fo ls G with
  | stuck => rw [e1] at hq; exact False.elim hq
  | exc _ _ => rw [e1] at hq; exact False.elim hq
  | ok wo G1 =>
    rw [e1] at hq
    intro m1 vo H1 k1 g1 r1
    cases r1 with
    | @ref k a h =>
      refine ii m1 ls G1 σ H1 _ g1 (hL.keep k1) ?_
      simp only at hq
      cases e2 : fi ls G1 with
      | stuck => rw [e2] at hq; exact False.elim hq
      | exc _ _ => rw [e2] at hq; exact False.elim hq
      | ok wi G2 =>
        rw [e2] at hq
        intro m2 vi H2 k2 g2 r2
        cases r2 with
        | int z =>
          simp only at hq
          split at hq
          · rename_i xs e3
            split at hq
            · rename_i j e4
              have h2 := k2.get h
              obtain ⟨us, e5, r5⟩ := g2.lst h2 e3
              have r' := (r.keep k1).keep k2
              refine ⟨a, us, z, j, rfl, rfl, e5, by rw [← r5.length]; exact e4, ?_⟩
              have k : Keep m2 H2 m2 (upd H2 a (.lst (us.set j v))) := Keep.write (List.mem_of_getElem? h2)
              exact hq m2 σ _ ((k1.trans k2).trans k) (g2.write h2 ⟨_, upd_same, (r5.set r' j).keep k⟩) ((hL.keep (k1.trans k2)).keep k) (.refl _ _)
            · exact False.elim hq
          · exact False.elim hq
        | _ => exact False.elim hq
    | _ => exact False.elim hq

/-! ### join -/
@[simp] def joinW (sep : List Nat) (w : W) (G : Gs) : Res := match (itemsW w G).bind strsOf with
  | some ss => if (ss.map (·.length)).sum + ss.length * sep.length ≤ SZ then .ok (.str (TL.joinL sep ss)) G else .stuck
  | none => .stuck
@[simp] def eJoin (fo fa : EF) : EF := fun ls G => (fo ls G).bind fun o G1 => match o with
  | .str sep => (fa ls G1).bind fun w G2 => joinW sep w G2
  | _ => .stuck
theorem fe_join (c : Ctx T X W0) (ho : FE T X W0 o fo) (he : FE T X W0 e fa) (hs : starEach [e] X.env = [(false, eval e X.env)] := by rfl) (hbase : attributeBase o "join" X.env (eval o X.env) = eval o X.env := by rfl) (hline : (apos.endLine == pos.line) = true := by rfl) :
    FE T X W0 (.Call (.Attribute o "join" apos) [e] [] pos) (eJoin fo fa) := by
  obtain ⟨t, ho, i⟩ := ho
  obtain ⟨te, he, ie⟩ := he
  refine ⟨_, pe_join ho he hs hbase hline, fun m ls G σ H Q hG hL hq => ?_⟩
  refine i.go hG hL hq fun w G1 m1 v H1 k1 g1 r1 l1 o1 => ?_
  cases r1 with
  | str sep =>
    refine ⟨⟨_, rfl⟩, ?_⟩
    refine ie.go g1 l1 o1 fun w2 G2 m2 v2 H2 k2 g2 r2 l2 o2 => ?_
    unfold joinW at o2
    split at o2
    · rename_i ss es
      obtain ⟨xs, e1, e2⟩ := Option.bind_eq_some_iff.mp es
      obtain ⟨p, ys, rfl, hp, r⟩ := items_ok g2 r2 e1
      have := strs_ok r e2
      subst this
      split at o2
      · rename_i hz
        refine ⟨_, p, ss.map fun s => ⟨s.toArray⟩, rfl, rfl, by rw [c.hK]; exact hp, ?_, ?_⟩
        · rw [List.map_map, List.length_map, str_len]
          have : ((fun x : Str => x.length) ∘ fun s : List Nat => (⟨s.toArray⟩ : Str)) = fun s => s.length := by
            funext s
            exact str_len s
          rw [this]
          exact hz
        · have q := o2.now g2 (.str _)
          have e : Txt.join (⟨sep.toArray⟩ : Str) (ss.map fun s => (⟨s.toArray⟩ : Str)) = ⟨(TL.joinL sep ss).toArray⟩ := by
            refine TL.ext_tl ?_
            rw [TL.join_eq, TL.tl_join, List.map_map]
            have : (TL.tl ∘ fun s : List Nat => (⟨s.toArray⟩ : Str)) = id := by
              funext s
              rfl
            rw [this, List.map_id]
          rw [e]
          exact q
      · exact False.elim o2
    · exact False.elim o2
  | _ => exact False.elim o1
end
end U

namespace U
open PySem
open L2

/-! ### range, enumerate, zip -/
def rngL (i : Int) (n : Nat) : List W := (List.range n).map fun (k : Nat) => W.int (i + (k : Int))
def bigI (i : Int) : Bool := decide (i.natAbs < 4611686018427387904)
@[simp] def iRange1 (fa : EF) : EF := fun ls G => (fa ls G).bind fun w G1 => match w with
  | .tup [.int j] => if bigI j then .ok (.lst (rngL 0 j.toNat)) G1 else .stuck
  | _ => .stuck
@[simp] def iRange2 (fa : EF) : EF := fun ls G => (fa ls G).bind fun w G1 => match w with
  | .tup [.int i, .int j] => if bigI i && bigI j then .ok (.lst (rngL i (j - i).toNat)) G1 else .stuck
  | _ => .stuck
/-- pairs (0, x0), (1, x1), .. -/
def enumL : Nat → List W → List W
  | _, [] => []
  | k, x :: r => .tup [.int k, x] :: enumL (k + 1) r
def zipL : List W → List W → List W
  | x :: xs, y :: ys => .tup [x, y] :: zipL xs ys
  | _, _ => []
@[simp] def iEnumW (fa : EF) : EF := fun ls G => (fa ls G).bind fun w G1 => match w with
  | .tup [.lst xs] => .ok (.lst (enumL 0 xs)) G1
  | .tup [.fz xs] => .ok (.lst (enumL 0 xs)) G1
  | _ => .stuck
@[simp] def iZipW (fa : EF) : EF := fun ls G => (fa ls G).bind fun w G1 => match w with
  | .tup [.lst xs, .lst ys] => .ok (.lst (zipL xs ys)) G1
  | .tup [.tup xs, .tup ys] => .ok (.lst (zipL xs ys)) G1
  | _ => .stuck
section
variable {T : Tx} {X : Cx} {W0 : WX} {tg e e2 : Expr} {f : EF} {p pos : Pos}
theorem bigI_ok {i : Int} (h : bigI i = true) : -(2 ^ 62) ≤ i ∧ i < 2 ^ 62 := by
  have := of_decide_eq_true h
  omega
theorem it_rng {m : Mm} {H : Hp} {i : Int} {n : Nat} : ItOk T m H (Itr i n) (rngL i n) := fun m' G' H' k g => by
  refine ⟨fun j w e => ?_, fun j hj => (show n ≤ j by unfold rngL at hj; simpa using hj)⟩
  unfold rngL at e
  rw [List.getElem?_map] at e
  cases e1 : (List.range n)[j]? with
  | none => rw [e1] at e; cases e
  | some c =>
    rw [e1] at e
    cases e
    obtain ⟨h1, h2⟩ := List.getElem?_eq_some_iff.mp e1
    rw [List.length_range] at h1
    rw [List.getElem_range] at h2
    subst h2
    refine ⟨h1, fun x H'' y => ?_⟩
    obtain ⟨rfl, rfl⟩ := y
    exact ⟨.refl _ _, g, .int _⟩
theorem fi_range1 (hm : X.mg "range" = none) (ha : FA T X W0 [e] f) (hg : Gl X "range" := by rfl) (hs : starEach [e] X.env = [(false, eval e X.env)] := by rfl) : FI T X W0 tg (.Call (.Name "range" p) [e] [] pos) (iRange1 f) := by
  obtain ⟨t, ha, ia⟩ := ha
  refine ⟨_, pi_range1 hg hm ha hs, fun m ls G σ H R hG hL ho => ?_⟩
  refine ia m ls G σ H _ hG hL ?_
  simp only [iRange1] at ho
  cases e : f ls G with
  | stuck => rw [e] at ho; exact ho
  | exc w G1 => rw [e] at ho; exact ho
  | ok w G1 =>
    rw [e] at ho
    simp only [Res.bind] at ho
    split at ho
    · rename_i hc
      split at hc
      · rename_i j
        split at hc
        · rename_i hb
          cases hc
          obtain ⟨ws, ew, q⟩ := ho
          cases ew
          refine ⟨_, rfl, fun m1 vs H1 k1 g1 r1 => ?_⟩
          obtain ⟨v, rfl, r⟩ := r1.inv1
          cases r
          exact ⟨j, rfl, (bigI_ok hb).1, (bigI_ok hb).2, q m1 _ H1 k1 g1 it_rng⟩
        · cases hc
      · cases hc
    · rename_i hc
      split at hc
      · split at hc <;> cases hc
      · cases hc
    · exact False.elim ho
theorem fi_range2 (hm : X.mg "range" = none) (ha : FA T X W0 [e, e2] f) (hg : Gl X "range" := by rfl) (hs : starEach [e, e2] X.env = [(false, eval e X.env), (false, eval e2 X.env)] := by rfl) (hs2 : starEach [e2] X.env = [(false, eval e2 X.env)] := by rfl) : FI T X W0 tg (.Call (.Name "range" p) [e, e2] [] pos) (iRange2 f) := by
  obtain ⟨t, ha, ia⟩ := ha
  refine ⟨_, pi_range2 hg hm ha hs hs2, fun m ls G σ H R hG hL ho => ?_⟩
  refine ia m ls G σ H _ hG hL ?_
  simp only [iRange2] at ho
  cases e : f ls G with
  | stuck => rw [e] at ho; exact ho
  | exc w G1 => rw [e] at ho; exact ho
  | ok w G1 =>
    rw [e] at ho
    simp only [Res.bind] at ho
    split at ho
    · rename_i hc
      split at hc
      · rename_i i j
        split at hc
        · rename_i hb
          rw [Bool.and_eq_true] at hb
          cases hc
          obtain ⟨ws, ew, q⟩ := ho
          cases ew
          refine ⟨_, rfl, fun m1 vs H1 k1 g1 r1 => ?_⟩
          obtain ⟨v, u, rfl, r, r'⟩ := r1.inv2
          cases r
          cases r'
          exact ⟨i, j, rfl, ⟨(bigI_ok hb.1).1, (bigI_ok hb.1).2, (bigI_ok hb.2).1, (bigI_ok hb.2).2⟩, q m1 _ H1 k1 g1 it_rng⟩
        · cases hc
      · cases hc
    · rename_i hc
      split at hc
      · split at hc <;> cases hc
      · cases hc
    · exact False.elim ho
theorem enumL_get : ∀ (xs : List W) (k i : Nat), (enumL k xs)[i]? = (xs[i]?).map fun x => W.tup [.int ((k + i : Nat) : Int), x]
  | [], k, i => by simp [enumL]
  | x :: xs, k, 0 => by simp [enumL]
  | x :: xs, k, i + 1 => by
    rw [enumL, List.getElem?_cons_succ, List.getElem?_cons_succ, enumL_get xs (k + 1) i]
    have : k + 1 + i = k + (i + 1) := by omega
    rw [this]
theorem enumL_len : ∀ (xs : List W) (k : Nat), (enumL k xs).length = xs.length
  | [], _ => rfl
  | x :: xs, k => by rw [enumL, List.length_cons, List.length_cons, enumL_len xs]
theorem zipL_get : ∀ (xs ys : List W) (i : Nat) (w : W), (zipL xs ys)[i]? = some w → ∃ x y, xs[i]? = some x ∧ ys[i]? = some y ∧ w = .tup [x, y]
  | [], _, _, _, h => by simp [zipL] at h
  | _ :: _, [], _, _, h => by simp [zipL] at h
  | x :: xs, y :: ys, 0, w, h => by simp [zipL] at h; exact ⟨x, y, rfl, rfl, h.symm⟩
  | x :: xs, y :: ys, i + 1, w, h => by
    rw [zipL, List.getElem?_cons_succ] at h
    rw [List.getElem?_cons_succ, List.getElem?_cons_succ]
    exact zipL_get xs ys i w h
theorem zipL_len : ∀ (xs ys : List W), (zipL xs ys).length = min xs.length ys.length
  | [], _ => by simp [zipL]
  | _ :: _, [] => by simp [zipL]
  | x :: xs, y :: ys => by rw [zipL, List.length_cons, List.length_cons, List.length_cons, zipL_len xs ys]; omega
theorem it_enum {m : Mm} {H : Hp} {a : Addr} {ws : List W} {vs : List V} (r : RWs T m H ws vs) (h : ∀ m' H', Keep m H m' H' → SqL T.K H' a vs) : ItOk T m H (Ite T.K a) (enumL 0 ws) := fun m' G' H' k g => by
  have q := h m' H' k
  refine ⟨fun i w e => ?_, fun i hi => ⟨vs, q, by rw [enumL_len] at hi; rw [← r.length]; exact hi⟩⟩
  rw [enumL_get] at e
  obtain ⟨x, ex, rfl⟩ := Option.map_eq_some_iff.mp e
  obtain ⟨v, e1, r1⟩ := r.get ex
  refine ⟨⟨vs, v, q, e1⟩, fun z H'' y => ?_⟩
  obtain ⟨D, x', rfl, hD, rfl, y⟩ := y
  have e2 := y vs q
  rw [e1] at e2
  cases e2
  have kk : Keep m' H' m' (upd H' D (.tup [.int (i : Nat), v])) := Keep.new g hD
  refine ⟨kk, g.new hD, .tup (.cons ?_ (.cons ((r1.keep k).keep kk) .nil)) (.inl ⟨g.free hD, upd_same⟩)⟩
  rw [Nat.zero_add]
  exact .int _
theorem it_zip {m : Mm} {H : Hp} {a b : Addr} {ws us : List W} {vs xs : List V} (r : RWs T m H ws vs) (r' : RWs T m H us xs) (h : ∀ m' H', Keep m H m' H' → SqL T.K H' a vs) (h' : ∀ m' H', Keep m H m' H' → SqL T.K H' b xs) : ItOk T m H (Itz T.K a b) (zipL ws us) := fun m' G' H' k g => by
  have q := h m' H' k
  have q' := h' m' H' k
  refine ⟨fun i w e => ?_, fun i hi => ⟨vs, xs, q, q', by rw [zipL_len] at hi; rw [← r.length, ← r'.length]; omega⟩⟩
  obtain ⟨x, y, ex, ey, rfl⟩ := zipL_get _ _ _ _ e
  obtain ⟨v, e1, r1⟩ := r.get ex
  obtain ⟨v', e1', r1'⟩ := r'.get ey
  refine ⟨⟨vs, xs, v, v', q, q', e1, e1'⟩, fun z H'' y => ?_⟩
  obtain ⟨D, x', y', rfl, hD, rfl, y1, y2⟩ := y
  have e2 := y1 vs q
  rw [e1] at e2
  cases e2
  have e3 := y2 xs q'
  rw [e1'] at e3
  cases e3
  have kk : Keep m' H' m' (upd H' D (.tup [v, v'])) := Keep.new g hD
  exact ⟨kk, g.new hD, .tup (.cons ((r1.keep k).keep kk) (.cons ((r1'.keep k).keep kk) .nil)) (.inl ⟨g.free hD, upd_same⟩)⟩
theorem it_zipT {m : Mm} {H : Hp} {a b : Addr} {ws us : List W} {vs xs : List V} (r : RWs T m H ws vs) (r' : RWs T m H us xs) (h : ∀ m' H', Keep m H m' H' → SqT T.K H' a vs) (h' : ∀ m' H', Keep m H m' H' → SqT T.K H' b xs) : ItOk T m H (RZ.ItzT T.K a b) (zipL ws us) := fun m' G' H' k g => by
  have q := h m' H' k
  have q' := h' m' H' k
  refine ⟨fun i w e => ?_, fun i hi => ⟨vs, xs, q, q', by rw [zipL_len] at hi; rw [← r.length, ← r'.length]; omega⟩⟩
  obtain ⟨x, y, ex, ey, rfl⟩ := zipL_get _ _ _ _ e
  obtain ⟨v, e1, r1⟩ := r.get ex
  obtain ⟨v', e1', r1'⟩ := r'.get ey
  refine ⟨⟨vs, xs, v, v', q, q', e1, e1'⟩, fun z H'' y => ?_⟩
  obtain ⟨D, x', y', rfl, hD, rfl, y1, y2⟩ := y
  have e2 := y1 vs q
  rw [e1] at e2
  cases e2
  have e3 := y2 xs q'
  rw [e1'] at e3
  cases e3
  have kk : Keep m' H' m' (upd H' D (.tup [v, v'])) := Keep.new g hD
  exact ⟨kk, g.new hD, .tup (.cons ((r1.keep k).keep kk) (.cons ((r1'.keep k).keep kk) .nil)) (.inl ⟨g.free hD, upd_same⟩)⟩
theorem fi_enum {elts : List Expr} {kk : Nat} {tpos : Pos} (c : Ctx T X W0) (hm : X.mg "enumerate" = none) (ha : FA T X W0 [e] f) (hg : Gl X "enumerate" := by rfl) (hs : starEach [e] X.env = [(false, eval e X.env)] := by rfl) : FI T X W0 (.Tuple elts kk tpos) (.Call (.Name "enumerate" p) [e] [] pos) (iEnumW f) := by
  obtain ⟨t, ha, ia⟩ := ha
  refine ⟨_, pi_enum hg hm ha hs, fun m ls G σ H R hG hL ho => ?_⟩
  refine ia m ls G σ H _ hG hL ?_
  simp only [iEnumW] at ho
  cases e : f ls G with
  | stuck => rw [e] at ho; exact ho
  | exc w G1 => rw [e] at ho; exact ho
  | ok w G1 =>
    rw [e] at ho
    simp only [Res.bind] at ho
    split at ho
    · rename_i hc
      split at hc
      · cases hc
        obtain ⟨ws, ew, q⟩ := ho
        cases ew
        refine ⟨_, rfl, fun m1 vs H1 k1 g1 r1 => ?_⟩
        obtain ⟨v, rfl, r⟩ := r1.inv1
        cases r with
        | lst r n f => exact ⟨_, _, rfl, SqL.of f, by rw [c.hK]; exact q m1 _ H1 k1 g1 (it_enum r fun m' H' k => SqL.of (k.at_ f n).1)⟩
      · cases hc
        obtain ⟨ws, ew, q⟩ := ho
        cases ew
        refine ⟨_, rfl, fun m1 vs H1 k1 g1 r1 => ?_⟩
        obtain ⟨v, rfl, r⟩ := r1.inv1
        cases r with
        | fz r f => exact ⟨_, _, rfl, by rw [c.hK]; exact f.sq, by rw [c.hK]; exact q m1 _ H1 k1 g1 (it_enum r fun m' H' k => (k.fzL f).sq)⟩
      · cases hc
    · rename_i hc
      split at hc <;> cases hc
    · exact False.elim ho
theorem fi_zip {elts : List Expr} {kk : Nat} {tpos : Pos} (c : Ctx T X W0) (hm : X.mg "zip" = none) (ha : FA T X W0 [e, e2] f) (hg : Gl X "zip" := by rfl) (hs : starEach [e, e2] X.env = (false, eval e X.env) :: starEach [e2] X.env := by rfl) (hpl : (backTo pos (starEach [e2] X.env)).any (·.1) = false := by rfl) : FI T X W0 (.Tuple elts kk tpos) (.Call (.Name "zip" p) [e, e2] [] pos) (iZipW f) := by
  obtain ⟨t, ha, ia⟩ := ha
  refine ⟨_, RZ.pi_zipA hg hm ha hs hpl, fun m ls G σ H R hG hL ho => ?_⟩
  refine ia m ls G σ H _ hG hL ?_
  simp only [iZipW] at ho
  cases e : f ls G with
  | stuck => rw [e] at ho; exact ho
  | exc w G1 => rw [e] at ho; exact ho
  | ok w G1 =>
    rw [e] at ho
    simp only [Res.bind] at ho
    split at ho
    · rename_i hc
      split at hc
      · cases hc
        obtain ⟨ws, ew, q⟩ := ho
        cases ew
        refine ⟨_, rfl, fun m1 vs H1 k1 g1 r1 => ?_⟩
        obtain ⟨v, u, rfl, r, r'⟩ := r1.inv2
        cases r with
        | lst r n f => cases r' with
          | lst r' n' f' => exact ⟨_, _, _, _, rfl, .inl ⟨SqL.of f, SqL.of f', by rw [c.hK]; exact q m1 _ H1 k1 g1 (it_zip r r' (fun m' H' k => SqL.of (k.at_ f n).1) (fun m' H' k => SqL.of (k.at_ f' n').1))⟩⟩
      · cases hc
        obtain ⟨ws, ew, q⟩ := ho
        cases ew
        refine ⟨_, rfl, fun m1 vs H1 k1 g1 r1 => ?_⟩
        obtain ⟨v, u, rfl, r, r'⟩ := r1.inv2
        cases r with
        | tup r f => cases r' with
          | tup r' f' => exact ⟨_, _, _, _, rfl, .inr ⟨by rw [c.hK]; exact f.sq, by rw [c.hK]; exact f'.sq, by rw [c.hK]; exact q m1 _ H1 k1 g1 (it_zipT r r' (fun m' H' k => (k.fzT f).sq) (fun m' H' k => (k.fzT f').sq))⟩⟩
      · cases hc
    · rename_i hc
      split at hc <;> cases hc
    · exact False.elim ho
end

/-! ### what a def promises -/
abbrev Fn := List W → Gs → Res
def spF (T : Tx) (n : Nat) (F : Fn) : Sp := fun vs H Q E => ∃ m G ws, RG T m G H ∧ RWs T m H ws vs ∧ ws.length = n ∧ Out T (fun c d _ H => E c d H) m H [] Q (F ws G)
theorem Out.wx {T : Tx} {W0 W1 : WX} {m : Mm} {H : Hp} {σ σ' : St} {Q : VK} {r : Res} (h : Out T W0 m H σ Q r) (hW : ∀ c d H, W0 c d σ H → W1 c d σ' H) : Out T W1 m H σ' Q r := by
  cases r with
  | ok w G => exact h
  | exc w G => exact fun m' c d H' k g r => hW c d H' (h m' c d H' k g r)
  | stuck => exact h
section
variable {T : Tx} {X : Cx} {W0 : WX} {k n : Nat} {f : Addr} {fd : FuncData} {ps : List Str} {F : Fn} {dvs : List V} {dws : List W} {ds : List Value} {x : Str} {p pos : Pos} {e : Expr} {es : List Expr} {fa : EF}
/-- the defaults as values -/
def Dfl (T : Tx) (dws : List W) (dvs : List V) (ds : List Value) : Prop := Vals dvs ds ∧ ∀ m H, RWs T m H dws dvs
theorem dfl0 : Dfl T [] [] [] := ⟨.nil, fun _ _ => .nil⟩
@[simp] def eFn (F : Fn) (dws : List W) (fa : EF) : EF := fun ls G => (fa ls G).bind fun w G1 => asT w fun ws => F (ws ++ dws) G1
theorem fe_call (c : Ctx T X W0) (FO : FnOk X.prog X.w X.K X.mg X.base (L2.CX X.prog X.w) k f fd ps (spF T n F)) (hr : Room k X.A) (hm : X.mg x = some (.ref f)) (hk : PySem.W.keepIn X.K (.ref f) = true) (hb : Binds X.K fd ps ds) (hd : Dfl T dws dvs ds) (hn : es.length + 1 + dws.length = n)
    (ha : FA T X W0 (e :: es) fa) (hl : ∀ ls G ws G1, fa ls G = .ok (.tup ws) G1 → ws.length = es.length + 1) (hg : Gl X x := by rfl) (hdb : (x == ("__debug__" : Str)) = false := by decide +kernel)
    (he : starEach (e :: es) X.env = (false, eval e X.env) :: starEach es X.env := by rfl) (hpl : (backTo pos (starEach es X.env)).any (·.1) = false := by rfl) : FE T X W0 (.Call (.Name x p) (e :: es) [] pos) (eFn F dws fa) := by
  obtain ⟨t, ha, ia⟩ := ha
  refine ⟨_, pe_callSD (E := WE W0) FO hr hg hm hk hb hd.1 (passAt c.tk) ha hdb he hpl, fun m ls G σ H Q hG hL ho => ?_⟩
  refine ia m ls G σ H _ hG hL ?_
  simp only [eFn] at ho
  cases e1 : fa ls G with
  | stuck => rw [e1] at ho; exact ho
  | exc w G1 => rw [e1] at ho; exact ho
  | ok w G1 =>
    rw [e1] at ho
    cases w with
    | tup ws =>
      refine ⟨ws, rfl, fun m1 vs H1 k1 g1 r1 => ?_⟩
      refine ⟨m1, G1, ws ++ dws, g1, r1.append (hd.2 m1 H1), ?_, Out.wx (Out.keep k1 ho) fun _ _ _ h => h⟩
      rw [List.length_append, hl ls G ws G1 e1]
      omega
    | _ => exact False.elim ho
end
/-- the number of arguments -/
theorem al0 : ∀ ls G ws G1, aNil ls G = .ok (.tup ws) G1 → ws.length = 0 := fun ls G ws G1 h => by
  unfold aNil at h
  cases h
  rfl
theorem al1 {f r : EF} {n : Nat} (h : ∀ ls G ws G1, r ls G = .ok (.tup ws) G1 → ws.length = n) : ∀ ls G ws G1, aCons f r ls G = .ok (.tup ws) G1 → ws.length = n + 1 := fun ls G ws G1 q => by
  unfold aCons at q
  cases e1 : f ls G with
  | stuck => rw [e1] at q; cases q
  | exc w G1 => rw [e1] at q; cases q
  | ok w G2 =>
    rw [e1] at q
    simp only [Res.bind] at q
    cases e2 : r ls G2 with
    | stuck => rw [e2] at q; cases q
    | exc w G1 => rw [e2] at q; cases q
    | ok u G3 =>
      rw [e2] at q
      cases u with
      | tup us =>
        cases q
        rw [List.length_cons, h ls G2 us _ e2]
      | _ => cases q

/-! ### a def by its body -/
/-- n parameters, k slots -/
@[simp] def mkFn (n k : Nat) (g : SF) : Fn := fun ws G => if ws.length = n then (match g (ws.map some ++ List.replicate (k - n) none) G with
  | .nx _ G' => .ok .non G'
  | .rt w G' => .ok w G'
  | .exc w _ G' => .exc w G'
  | _ => .stuck) else .stuck
theorem rl_start {T : Tx} {m : Mm} {H : Hp} {N : List Str} {ws : List W} {vs : List V} (r : RWs T m H ws vs) : RL T m H (ws.map some ++ List.replicate (N.length - ws.length) none) (L2.start N vs) := by
  unfold L2.start
  refine ⟨by simp [r.length], fun i w e => ?_⟩
  rw [← r.length]
  by_cases hi : i < ws.length
  · rw [List.getElem?_append_left (by simpa using hi), List.getElem?_map] at e
    rw [List.getElem?_append_left (by simpa [← r.length] using hi), List.getElem?_map]
    cases q : ws[i]? with
    | none => rw [q] at e; cases e
    | some u =>
      rw [q] at e
      cases e
      obtain ⟨v, e1, r1⟩ := r.get q
      exact ⟨v, by rw [e1]; rfl, r1⟩
  · rw [List.getElem?_append_right (by simpa using hi), List.getElem?_replicate] at e
    split at e <;> cases e
section
variable {P : Program} {w : World} {mg : Str → Option Value} {base : Heap} {T : Tx}
theorem fn_def {x qual : Str} {st : Stmt} {f : Addr} {fd : FuncData} {N ps : List Str} {k n : Nat} {g : SF} (F : Fun T.K x qual st f fd) (S : FnScope N ps (defScope st)) (hn : ps.length = n)
    (hbody : ∀ (cdv : Value) (A : Around) (outer : List Env) (s : Shared) (H : Hp) (E : XK), Room k (A.deeper (PyProof.Rows.envOfC qual (defScope st) s.heap.objs.size f cdv)) → Ctx T (cxOf (L2.CX P w) P w T.K mg base N qual (defScope st) f cdv A outer s H E) (fun c d _ H => E c d H) →
      FSs T (cxOf (L2.CX P w) P w T.K mg base N qual (defScope st) f cdv A outer s H E) (fun c d _ H => E c d H) (defBody st) g) : FnOk P w T.K mg base (L2.CX P w) (k + 1) f fd ps (spF T n (mkFn n N.length g)) := by
  refine F.okX S (fun vs H Q E h => ?_) (fun cdv A outer s H vs Q E hr h => ?_)
  · obtain ⟨m, G, ws, _, r, hl, _⟩ := h
    rw [← r.length, hl, hn]
  · obtain ⟨m, G, ws, hG, r, hl, ho⟩ := h
    obtain ⟨t, ht, it⟩ := hbody cdv A outer s H E hr ⟨takes_of rfl rfl rfl rfl, passes_of rfl, rfl, S.nd, hr.units, rfl⟩
    refine ⟨t, ht, it m (ws.map some ++ List.replicate (N.length - n) none) G (L2.start N vs) H _ hG (by rw [← hl]; exact rl_start r) ?_⟩
    simp only [mkFn, if_pos hl] at ho
    cases e : g (ws.map some ++ List.replicate (N.length - n) none) G with
    | nx ls G' => rw [e] at ho; exact fun m' σ' H' k' g' l' => ho m' _ H' k' g' .non
    | rt w G' => rw [e] at ho; exact ho
    | exc w ls G' => rw [e] at ho; exact fun m' σ' c d H' k' g' l' r' => ho m' c d H' k' g' r'
    | bk _ _ => rw [e] at ho; exact False.elim ho
    | ct _ _ => rw [e] at ho; exact False.elim ho
    | stuck => rw [e] at ho; exact False.elim ho
/-- a contract with another function that does the same where it is not stuck -/
theorem fn_imp {f : Addr} {fd : FuncData} {ps : List Str} {k n : Nat} {F F' : Fn} (h : FnOk P w T.K mg base (L2.CX P w) k f fd ps (spF T n F))
    (hF : ∀ (ws : List W) (G : Gs) (m : Mm) (H : Hp) (vs : List V) (Q : VK) (W0 : WX), RG T m G H → RWs T m H ws vs → Out T W0 m H [] Q (F' ws G) → Out T W0 m H [] Q (F ws G)) : FnOk P w T.K mg base (L2.CX P w) k f fd ps (spF T n F') :=
  h.imp fun vs H Q E ⟨m, G, ws, g, r, l, o⟩ => ⟨m, G, ws, g, r, l, hF ws G m H vs Q _ g r o⟩
end

/-! ### what is made on the way is left behind: the result is freed of the small heap -/
mutual
def beqW : W → W → Bool
  | .non, .non => true
  | .bl a, .bl b => a == b
  | .int a, .int b => a == b
  | .str a, .str b => a == b
  | .tup a, .tup b => beqWs a b
  | .lst a, .lst b => beqWs a b
  | .fz a, .fz b => beqWs a b
  | .dic a, .dic b => beqWs a b
  | .obj c a, .obj d b => c == d && beqWs a b
  | .ref i, .ref j => i == j
  | .ty a, .ty b => a == b
  | .cls a, .cls b => a == b
  | _, _ => false
def beqWs : List W → List W → Bool
  | [], [] => true
  | a :: r, b :: q => beqW a b && beqWs r q
  | _, _ => false
end
mutual
theorem beqW_eq : ∀ {a b : W}, beqW a b = true → a = b
  | .non, b, h => by cases b <;> first | rfl | (simp [beqW] at h)
  | .bl x, b, h => by cases b <;> simp [beqW] at h <;> rw [h]
  | .int x, b, h => by cases b <;> simp [beqW] at h <;> rw [h]
  | .str x, b, h => by cases b <;> simp [beqW] at h <;> rw [h]
  | .tup x, b, h => by cases b <;> simp [beqW] at h <;> rw [beqWs_eq h]
  | .lst x, b, h => by cases b <;> simp [beqW] at h <;> rw [beqWs_eq h]
  | .fz x, b, h => by cases b <;> simp [beqW] at h <;> rw [beqWs_eq h]
  | .dic x, b, h => by cases b <;> simp [beqW] at h <;> rw [beqWs_eq h]
  | .obj c x, b, h => by cases b <;> simp [beqW] at h <;> rw [h.1, beqWs_eq h.2]
  | .ref i, b, h => by cases b <;> simp [beqW] at h <;> rw [h]
  | .ty i, b, h => by cases b <;> simp [beqW] at h <;> rw [h]
  | .cls i, b, h => by cases b <;> simp [beqW] at h <;> rw [h]
theorem beqWs_eq : ∀ {a b : List W}, beqWs a b = true → a = b
  | [], b, h => by cases b <;> first | rfl | (simp [beqWs] at h)
  | x :: r, b, h => by
    cases b with
    | nil => simp [beqWs] at h
    | cons y q =>
      simp [beqWs] at h
      rw [beqW_eq h.1, beqWs_eq h.2]
end
mutual
theorem beqW_self : ∀ a : W, beqW a a = true
  | .non => rfl
  | .bl x => by simp [beqW]
  | .int x => by simp [beqW]
  | .str x => by simp [beqW]
  | .tup x => by simp only [beqW]; exact beqWs_self x
  | .lst x => by simp only [beqW]; exact beqWs_self x
  | .fz x => by simp only [beqW]; exact beqWs_self x
  | .dic x => by simp only [beqW]; exact beqWs_self x
  | .obj c x => by simp only [beqW, beqWs_self x]; simp
  | .ref i => by simp [beqW]
  | .ty i => by simp [beqW]
  | .cls i => by simp [beqW]
theorem beqWs_self : ∀ a : List W, beqWs a a = true
  | [] => rfl
  | x :: r => by simp only [beqWs, beqW_self x, beqWs_self r]; rfl
end
def beqO : O → O → Bool
  | .lst a, .lst b => beqWs a b
  | .dic a, .dic b => beqWs a b
  | .ins c a, .ins d b => c == d && beqWs a b
  | .dead, .dead => true
  | _, _ => false
theorem beqO_eq {a b : O} (h : beqO a b = true) : a = b := by
  cases a <;> cases b <;> simp [beqO] at h
  · rw [beqWs_eq h]
  · rw [beqWs_eq h]
  · rw [h.1, beqWs_eq h.2]
  · rfl
theorem beqO_self (a : O) : beqO a a = true := by
  cases a <;> simp [beqO, beqWs_self]
/-- G is how the other begins -/
def preG : Gs → Gs → Bool
  | [], _ => true
  | a :: r, b :: q => beqO a b && preG r q
  | _ :: _, [] => false
theorem preG_eq : ∀ {G G' : Gs}, preG G G' = true → ∃ e, G' = G ++ e
  | [], G', _ => ⟨G', rfl⟩
  | a :: r, [], h => by simp [preG] at h
  | a :: r, b :: q, h => by
    simp [preG] at h
    obtain ⟨e, he⟩ := preG_eq h.2
    exact ⟨e, by rw [beqO_eq h.1, he]; rfl⟩
theorem preG_self : ∀ (G e : Gs), preG G (G ++ e) = true
  | [], _ => rfl
  | a :: r, e => by
    show (beqO a a && preG r (r ++ e)) = true
    rw [beqO_self, preG_self r e]
    rfl
mutual
/-- references exchanged -/
def rsW (h : Nat → Option W) : W → Option W
  | .ref i => h i
  | .tup xs => (rsWs h xs).map .tup
  | .lst xs => (rsWs h xs).map .lst
  | .fz xs => (rsWs h xs).map .fz
  | .dic xs => (rsWs h xs).map .dic
  | .obj c xs => (rsWs h xs).map (.obj c)
  | .non => some .non
  | .bl b => some (.bl b)
  | .int i => some (.int i)
  | .str s => some (.str s)
  | .ty t => some (.ty t)
  | .cls c => some (.cls c)
def rsWs (h : Nat → Option W) : List W → Option (List W)
  | [] => some []
  | x :: r => match rsW h x, rsWs h r with
    | some y, some ys => some (y :: ys)
    | _, _ => none
end
/-- no references -/
def pureW : W → Bool
  | .ref _ => false
  | .tup xs => pureWs xs
  | .lst xs => pureWs xs
  | .fz xs => pureWs xs
  | .dic xs => pureWs xs
  | .obj _ xs => pureWs xs
  | _ => true
where pureWs : List W → Bool
  | [] => true
  | x :: r => pureW x && pureWs r
def rsH (n : Nat) (G : Gs) : Nat → Nat → Option W
  | 0, i => if i < n then some (.ref i) else none
  | k + 1, i => if i < n then some (.ref i) else match G[i]? with
    | some (.lst xs) => (rsWs (rsH n G k) xs).map .lst
    | some (.dic xs) => (rsWs (rsH n G k) xs).map .dic
    | some (.ins c xs) => (rsWs (rsH n G k) xs).map (.obj c)
    | _ => none
/-- every reference is below n -/
def lowW (n : Nat) : W → Bool
  | .ref i => decide (i < n)
  | .tup xs => lowWs xs
  | .lst xs => lowWs xs
  | .fz xs => lowWs xs
  | .dic xs => lowWs xs
  | .obj _ xs => lowWs xs
  | _ => true
where lowWs : List W → Bool
  | [] => true
  | x :: r => lowW n x && lowWs r
def lowO (n : Nat) : O → Bool
  | .lst xs => lowW.lowWs n xs
  | .dic xs => lowW.lowWs n xs
  | .ins _ xs => lowW.lowWs n xs
  | .dead => true
/-- each object is as it was, or names nothing new -/
def mixG (n : Nat) : Gs → Gs → Bool
  | [], _ => true
  | a :: r, b :: q => (beqO a b || lowO n b) && mixG n r q
  | _ :: _, [] => false
theorem mixG_get {n : Nat} : ∀ {G G' : Gs} {i : Nat} {b : O}, mixG n G G' = true → i < G.length → G'[i]? = some b → G[i]? = some b ∨ lowO n b = true
  | a :: r, c :: q, 0, b, h, _, e => by
    simp [mixG] at h
    simp at e
    subst e
    rcases h.1 with h | h
    · exact .inl (by rw [beqO_eq h]; rfl)
    · exact .inr h
  | a :: r, c :: q, i + 1, b, h, hi, e => by
    simp [mixG] at h
    exact mixG_get (G := r) (G' := q) (i := i) h.2 (by simpa using hi) (by simpa using e)
  | a :: r, [], i, b, h, _, e => by simp [mixG] at h
theorem mixG_len {n : Nat} : ∀ {G G' : Gs}, mixG n G G' = true → G.length ≤ G'.length
  | [], _, _ => Nat.zero_le _
  | a :: r, [], h => by simp [mixG] at h
  | a :: r, b :: q, h => by
    simp [mixG] at h
    exact Nat.succ_le_succ (mixG_len h.2)
theorem mixG_self {n : Nat} : ∀ (G e : Gs), mixG n G (G ++ e) = true
  | [], _ => rfl
  | a :: r, e => by
    show ((beqO a a || _) && mixG n r (r ++ e)) = true
    rw [beqO_self, mixG_self r e]
    rfl
@[simp] theorem mixG_same {n : Nat} (G : Gs) : mixG n G G = true := by
  have := mixG_self (n := n) G []
  rwa [List.append_nil] at this
@[simp] theorem mixG_app {n : Nat} (G e : Gs) : mixG n G (G ++ e) = true := mixG_self G e
@[simp] theorem mixG_nil {n : Nat} (G : Gs) : mixG n [] G = true := rfl
@[simp] theorem mixG_cons {n : Nat} (a b : O) (r q : Gs) : mixG n (a :: r) (b :: q) = ((beqO a b || lowO n b) && mixG n r q) := rfl
@[simp] theorem beqO_same (a : O) : beqO a a = true := beqO_self a
theorem rs_low {n : Nat} : ∀ (w : W), lowW n w = true → rsW (fun i => if i < n then some (.ref i) else none) w = some w
  | .non, _ => rfl
  | .bl _, _ => rfl
  | .int _, _ => rfl
  | .str _, _ => rfl
  | .ty _, _ => rfl
  | .cls _, _ => rfl
  | .ref i, h => by
    have h : i < n := of_decide_eq_true h
    simp only [rsW, if_pos h]
  | .tup xs, h => by simp only [rsW]; rw [rs_lows xs h]; rfl
  | .lst xs, h => by simp only [rsW]; rw [rs_lows xs h]; rfl
  | .fz xs, h => by simp only [rsW]; rw [rs_lows xs h]; rfl
  | .dic xs, h => by simp only [rsW]; rw [rs_lows xs h]; rfl
  | .obj _ xs, h => by simp only [rsW]; rw [rs_lows xs h]; rfl
where rs_lows : ∀ (ws : List W), lowW.lowWs n ws = true → rsWs (fun i => if i < n then some (.ref i) else none) ws = some ws
  | [], _ => rfl
  | x :: r, h => by
    have h : (lowW n x && lowW.lowWs n r) = true := h
    rw [Bool.and_eq_true] at h
    simp only [rsWs]
    rw [rs_low x h.1, rs_lows r h.2]
def purF (F : Fn) : Fn := fun ws G => match F ws G with
  | .ok w G' => if mixG G.length G G' then (match rsW (rsH G.length G' 3) w with
    | some w' => .ok w' (G'.take G.length)
    | none => .stuck) else .stuck
  | .exc w G' => if mixG G.length G G' then (match rsW (rsH G.length G' 3) w with
    | some w' => .exc w' (G'.take G.length)
    | none => .stuck) else .stuck
  | .stuck => .stuck
theorem rsWs_ne {h : Nat → Option W} : ∀ {ws ys : List W}, rsWs h ws = some ys → ws ≠ [] → ys ≠ []
  | [], _, _, z => absurd rfl z
  | x :: r, ys, e, _ => by
    simp only [rsWs] at e
    split at e
    · cases e; simp
    · cases e
theorem rs_key (h : Nat → Option W) : ∀ k : Key, rsW h (kW k) = some (kW k)
  | .inl _ => rfl
  | .inr _ => rfl
theorem rs_keys (h : Nat → Option W) : ∀ ks : List Key, rsWs h (ks.map kW) = some (ks.map kW)
  | [] => rfl
  | k :: ks => by rw [List.map_cons, rsWs, rs_key, rs_keys h ks]
section
variable {T : Tx} {m m' : Mm} {H : Hp} {h : Nat → Option W}
mutual
theorem rsW_ok (hr : ∀ i a w, m.r[i]? = some a → h i = some w → RW T m' H w (.ref a)) (hf : ∀ a, m.fr a → m'.fr a) : ∀ {w w' : W} {v : V}, RW T m H w v → rsW h w = some w' → RW T m' H w' v
  | _, _, _, .non, e => by simp only [rsW] at e; cases e; exact .non
  | _, _, _, .bl b, e => by simp only [rsW] at e; cases e; exact .bl b
  | _, _, _, .int b, e => by simp only [rsW] at e; cases e; exact .int b
  | _, _, _, .str b, e => by simp only [rsW] at e; cases e; exact .str b
  | _, _, _, .ty b, e => by simp only [rsW] at e; cases e; exact .ty b
  | _, _, _, .cls b, e => by simp only [rsW] at e; cases e; exact .cls b
  | _, _, _, .ref q, e => by simp only [rsW] at e; exact hr _ _ _ q e
  | _, _, _, .tup r f, e => by
    simp only [rsW] at e
    obtain ⟨ys, e1, rfl⟩ := Option.map_eq_some_iff.mp e
    exact .tup (rsWs_ok hr hf r e1) (f.elim (fun f => .inl ⟨hf _ f.1, f.2⟩) .inr)
  | _, _, _, .lst r n f, e => by
    simp only [rsW] at e
    obtain ⟨ys, e1, rfl⟩ := Option.map_eq_some_iff.mp e
    exact .lst (rsWs_ok hr hf r e1) (hf _ n) f
  | _, _, _, .fz r f, e => by
    simp only [rsW] at e
    obtain ⟨ys, e1, rfl⟩ := Option.map_eq_some_iff.mp e
    exact .fz (rsWs_ok hr hf r e1) (f.elim (fun f => .inl ⟨hf _ f.1, f.2⟩) .inr)
  | _, _, _, .dic r n f, e => by
    simp only [rsW] at e
    obtain ⟨ys, e1, rfl⟩ := Option.map_eq_some_iff.mp e
    exact .dic (rsWe_ok hr hf r e1) (hf _ n) f
  | _, _, _, .dit r z n f, e => by
    simp only [rsW] at e
    obtain ⟨ys, e1, rfl⟩ := Option.map_eq_some_iff.mp e
    exact .dit (rsWt_ok hr hf r e1) (rsWs_ne e1 z) (hf _ n) f
  | _, _, _, .obj r n c q l, e => by
    simp only [rsW] at e
    obtain ⟨ys, e1, rfl⟩ := Option.map_eq_some_iff.mp e
    exact .obj (rsWs_ok hr hf r e1) (hf _ n) c q l
theorem rsWs_ok (hr : ∀ i a w, m.r[i]? = some a → h i = some w → RW T m' H w (.ref a)) (hf : ∀ a, m.fr a → m'.fr a) : ∀ {ws ws' : List W} {vs : List V}, RWs T m H ws vs → rsWs h ws = some ws' → RWs T m' H ws' vs
  | _, _, _, .nil, e => by simp only [rsWs] at e; cases e; exact .nil
  | _, _, _, .cons r t, e => by
    simp only [rsWs] at e
    split at e
    · rename_i e1 e2
      cases e
      exact .cons (rsW_ok hr hf r e1) (rsWs_ok hr hf t e2)
    · cases e
theorem rsWe_ok (hr : ∀ i a w, m.r[i]? = some a → h i = some w → RW T m' H w (.ref a)) (hf : ∀ a, m.fr a → m'.fr a) : ∀ {ws ws' : List W} {vs : List (Key × V)}, RWe T m H ws vs → rsWs h ws = some ws' → RWe T m' H ws' vs
  | _, _, _, .nil, e => by simp only [rsWs] at e; cases e; exact .nil
  | _, _, _, .consI (k := k) (w := w) r t, e => by
    simp only [rsWs, rsW] at e
    cases e1 : rsW h w with
    | none => rw [e1] at e; cases e
    | some y =>
      rw [e1] at e
      simp only [Option.map_some] at e
      split at e
      · rename_i e2 e3
        cases e2
        cases e
        exact .consI (rsW_ok hr hf r e1) (rsWe_ok hr hf t e3)
      · cases e
  | _, _, _, .consS (k := k) (w := w) r t, e => by
    simp only [rsWs, rsW] at e
    cases e1 : rsW h w with
    | none => rw [e1] at e; cases e
    | some y =>
      rw [e1] at e
      simp only [Option.map_some] at e
      split at e
      · rename_i e2 e3
        cases e2
        cases e
        exact .consS (rsW_ok hr hf r e1) (rsWe_ok hr hf t e3)
      · cases e
theorem rsWt_ok (hr : ∀ i a w, m.r[i]? = some a → h i = some w → RW T m' H w (.ref a)) (hf : ∀ a, m.fr a → m'.fr a) : ∀ {ws ws' : List W} {vs : List (List Key × V)}, RWt T m H ws vs → rsWs h ws = some ws' → RWt T m' H ws' vs
  | _, _, _, .nil, e => by simp only [rsWs] at e; cases e; exact .nil
  | _, _, _, .cons (ks := ks) (w := w) r t, e => by
    simp only [rsWs, rsW, rs_keys] at e
    cases e1 : rsW h w with
    | none => rw [e1] at e; cases e
    | some y =>
      rw [e1] at e
      simp only [Option.map_some] at e
      split at e
      · rename_i e2 e3
        cases e2
        cases e
        exact .cons (rsW_ok hr hf r e1) (rsWt_ok hr hf t e3)
      · cases e
end
end
theorem rsH_ok {T : Tx} {m : Mm} {G' : Gs} {H : Hp} {n : Nat} (hG : RG T m G' H) : ∀ (k i : Nat) (a : Addr) (w : W), m.r[i]? = some a → rsH n G' k i = some w → RW T ⟨m.r.take n, m.av⟩ H w (.ref a)
  | 0, i, a, w, h, e => by
    unfold rsH at e
    split at e
    · rename_i hi
      cases e
      exact .ref (by rw [List.getElem?_take_of_lt hi]; exact h)
    · cases e
  | k + 1, i, a, w, h, e => by
    have ih := rsH_ok (n := n) hG k
    have hf : ∀ a, m.fr a → (⟨m.r.take n, m.av⟩ : Mm).fr a := fun a f => ⟨fun q => f.1 (List.mem_of_mem_take q), f.2⟩
    unfold rsH at e
    split at e
    · rename_i hi
      cases e
      exact .ref (by rw [List.getElem?_take_of_lt hi]; exact h)
    · rename_i hi
      have fa : (⟨m.r.take n, m.av⟩ : Mm).fr a := by
        refine ⟨fun q => ?_, hG.dj a (List.mem_of_getElem? h)⟩
        obtain ⟨j, hj⟩ := List.getElem?_of_mem q
        have hjn : j < n := by
          have := (List.getElem?_eq_some_iff.mp hj).1
          rw [List.length_take] at this
          omega
        rw [List.getElem?_take_of_lt hjn] at hj
        obtain ⟨h1, h1'⟩ := List.getElem?_eq_some_iff.mp hj
        obtain ⟨h2, h2'⟩ := List.getElem?_eq_some_iff.mp h
        have := ix_inj hG.nd h1 h2 (h1'.trans h2'.symm)
        omega
      split at e
      · rename_i xs eg
        obtain ⟨ys, e1, rfl⟩ := Option.map_eq_some_iff.mp e
        obtain ⟨us, e2, r⟩ := hG.ob i _ a eg h
        exact .lst (rsWs_ok ih hf r e1) fa e2
      · rename_i xs eg
        obtain ⟨ys, e1, rfl⟩ := Option.map_eq_some_iff.mp e
        rcases hG.ob i _ a eg h with ⟨us, e2, r⟩ | ⟨us, e2, z, r⟩
        · exact .dic (rsWe_ok ih hf r e1) fa (.inl e2)
        · exact .dit (rsWt_ok ih hf r e1) (rsWs_ne e1 z) fa (.inl e2)
      · rename_i c xs eg
        obtain ⟨ys, e1, rfl⟩ := Option.map_eq_some_iff.mp e
        obtain ⟨C, dx, us, hc, e2, l, r⟩ := hG.ob i _ a eg h
        exact .obj (rsWs_ok ih hf r e1) fa hc e2 l
      · cases e
mutual
theorem rsW_id {T : Tx} {m : Mm} {H : Hp} {h : Nat → Option W} (hh : ∀ i a, m.r[i]? = some a → h i = some (.ref i)) : ∀ {w : W} {v : V}, RW T m H w v → rsW h w = some w
  | _, _, .non => rfl
  | _, _, .bl _ => rfl
  | _, _, .int _ => rfl
  | _, _, .str _ => rfl
  | _, _, .ty _ => rfl
  | _, _, .cls _ => rfl
  | _, _, .ref q => by simp only [rsW]; exact hh _ _ q
  | _, _, .tup r _ => by simp only [rsW]; rw [rsWs_id hh r]; rfl
  | _, _, .lst r _ _ => by simp only [rsW]; rw [rsWs_id hh r]; rfl
  | _, _, .fz r _ => by simp only [rsW]; rw [rsWs_id hh r]; rfl
  | _, _, .dic r _ _ => by simp only [rsW]; rw [rsWe_id hh r]; rfl
  | _, _, .dit r _ _ _ => by simp only [rsW]; rw [rsWt_id hh r]; rfl
  | _, _, .obj r _ _ _ _ => by simp only [rsW]; rw [rsWs_id hh r]; rfl
theorem rsWs_id {T : Tx} {m : Mm} {H : Hp} {h : Nat → Option W} (hh : ∀ i a, m.r[i]? = some a → h i = some (.ref i)) : ∀ {ws : List W} {vs : List V}, RWs T m H ws vs → rsWs h ws = some ws
  | _, _, .nil => rfl
  | _, _, .cons r t => by simp only [rsWs]; rw [rsW_id hh r, rsWs_id hh t]
theorem rsWe_id {T : Tx} {m : Mm} {H : Hp} {h : Nat → Option W} (hh : ∀ i a, m.r[i]? = some a → h i = some (.ref i)) : ∀ {ws : List W} {vs : List (Key × V)}, RWe T m H ws vs → rsWs h ws = some ws
  | _, _, .nil => rfl
  | _, _, .consI r t => by simp only [rsWs, rsW]; rw [rsW_id hh r, rsWe_id hh t]; rfl
  | _, _, .consS r t => by simp only [rsWs, rsW]; rw [rsW_id hh r, rsWe_id hh t]; rfl
theorem rsWt_id {T : Tx} {m : Mm} {H : Hp} {h : Nat → Option W} (hh : ∀ i a, m.r[i]? = some a → h i = some (.ref i)) : ∀ {ws : List W} {vs : List (List Key × V)}, RWt T m H ws vs → rsWs h ws = some ws
  | _, _, .nil => rfl
  | _, _, .cons r t => by simp only [rsWs, rsW, rs_keys]; rw [rsW_id hh r, rsWt_id hh t]; rfl
end
section
variable {T : Tx} {m : Mm} {H : Hp} {Q : VK} {W0 : WX} {F : Fn} {ws : List W} {G : Gs}
theorem take_back {m' : Mm} {H' : Hp} {G' : Gs} (hG : RG T m G H) (k : Keep m H m' H') (g : RG T m' G' H') (hm : mixG G.length G G' = true) : Keep m H ⟨m'.r.take G.length, m'.av⟩ H' ∧ RG T ⟨m'.r.take G.length, m'.av⟩ (G'.take G.length) H' := by
  obtain ⟨x, hx⟩ := k.ext
  have ht : m'.r.take G.length = m.r := by rw [hx, ← hG.len, List.take_left]
  have kk : Keep m H ⟨m'.r.take G.length, m'.av⟩ H' := by
    rw [ht]
    exact ⟨⟨[], (List.append_nil _).symm⟩, k.avL, k.avU, k.th, fun a o h z n => ⟨(k.fz a o h z n).1, n⟩⟩
  refine ⟨kk, ?_⟩
  have hf : ∀ a, m'.fr a → (⟨m'.r.take G.length, m'.av⟩ : Mm).fr a := fun a f => ⟨fun q => f.1 (List.mem_of_mem_take q), f.2⟩
  let h : Nat → Option W := fun i => if i < G.length then some (.ref i) else none
  have hr : ∀ i a w, m'.r[i]? = some a → h i = some w → RW T ⟨m'.r.take G.length, m'.av⟩ H' w (.ref a) := fun i a w q e => by
    by_cases hi : i < G.length
    · simp only [h, if_pos hi] at e
      cases e
      exact .ref (by rw [List.getElem?_take_of_lt hi]; exact q)
    · simp only [h, if_neg hi] at e
      cases e
  have hh : ∀ i a, m.r[i]? = some a → h i = some (.ref i) := fun i a q => by
    have hi : i < G.length := by rw [← hG.len]; exact (List.getElem?_eq_some_iff.mp q).1
    simp only [h, if_pos hi]
  have hlen := mixG_len hm
  refine ⟨by rw [ht, List.length_take, Nat.min_eq_left hlen]; exact hG.len, by rw [ht]; exact hG.nd, fun i o a h1 h2 => ?_, g.av, fun a q => g.dj a (List.mem_of_mem_take q), g.tb, fun x q => (hG.xe x q).kr kk.kr⟩
  have hi : i < G.length := by
    have := (List.getElem?_eq_some_iff.mp h1).1
    rw [List.length_take] at this
    omega
  rw [List.getElem?_take_of_lt hi] at h1
  have h2 : m'.r[i]? = some a := by
    have h2 : (m'.r.take G.length)[i]? = some a := h2
    rw [List.getElem?_take_of_lt hi] at h2
    exact h2
  have h3 : m.r[i]? = some a := by
    rw [hx, List.getElem?_append_left (by rw [hG.len]; exact hi)] at h2
    exact h2
  have q := g.ob i o a h1 h2
  have go : ∀ (hw : ∀ (xs : List W), (o = .lst xs ∨ o = .dic xs ∨ ∃ c, o = .ins c xs) → rsWs h xs = some xs), RO T ⟨m'.r.take G.length, m'.av⟩ H' o a := fun hw => by
    cases o with
    | lst xs =>
      obtain ⟨vs, e1, r⟩ := q
      exact ⟨vs, e1, rsWs_ok hr hf r (hw xs (.inl rfl))⟩
    | dic xs =>
      rcases q with ⟨vs, e1, r⟩ | ⟨vs, e1, z, r⟩
      · exact .inl ⟨vs, e1, rsWe_ok hr hf r (hw xs (.inr (.inl rfl)))⟩
      · exact .inr ⟨vs, e1, z, rsWt_ok hr hf r (hw xs (.inr (.inl rfl)))⟩
    | ins c xs =>
      obtain ⟨C, dx, vs, hc, e1, l, r⟩ := q
      exact ⟨C, dx, vs, hc, e1, l, rsWs_ok hr hf r (hw xs (.inr (.inr ⟨c, rfl⟩)))⟩
    | dead => exact q
  refine go fun xs hx => ?_
  rcases mixG_get hm hi h1 with e | e
  · have q0 := hG.ob i o a e h3
    rcases hx with rfl | rfl | ⟨c, rfl⟩
    · obtain ⟨us, _, r0⟩ := q0
      exact rsWs_id hh r0
    · rcases q0 with ⟨us, _, r0⟩ | ⟨us, _, _, r0⟩
      · exact rsWe_id hh r0
      · exact rsWt_id hh r0
    · obtain ⟨_, _, us, _, _, _, r0⟩ := q0
      exact rsWs_id hh r0
  · rcases hx with rfl | rfl | ⟨c, rfl⟩
    · exact rs_low.rs_lows xs e
    · exact rs_low.rs_lows xs e
    · exact rs_low.rs_lows xs e
theorem out_pur (hG : RG T m G H) (ho : Out T W0 m H [] Q (purF F ws G)) : Out T W0 m H [] Q (F ws G) := by
  unfold purF at ho
  have hf : ∀ (m' : Mm) a, m'.fr a → (⟨m'.r.take G.length, m'.av⟩ : Mm).fr a := fun m' a f => ⟨fun q => f.1 (List.mem_of_mem_take q), f.2⟩
  cases e : F ws G with
  | stuck => rw [e] at ho; exact ho
  | ok w G' =>
    rw [e] at ho
    simp only at ho
    split at ho
    · rename_i hp
      split at ho
      · rename_i w' hw
        intro m' v H' k g r
        obtain ⟨k', g'⟩ := take_back hG k g hp
        exact ho _ v H' k' g' (rsW_ok (rsH_ok g 3) (hf m') r hw)
      · exact False.elim ho
    · exact False.elim ho
  | exc w G' =>
    rw [e] at ho
    simp only at ho
    split at ho
    · rename_i hp
      split at ho
      · rename_i w' hw
        intro m' c d H' k g r
        obtain ⟨k', g'⟩ := take_back hG k g hp
        obtain ⟨ci, us, C, dd, vs, rfl, h1, h2, h3, h4, h5, h6, h7⟩ := r
        simp only [rsW] at hw
        obtain ⟨ys, e1, rfl⟩ := Option.map_eq_some_iff.mp hw
        exact ho _ c d H' k' g' ⟨ci, ys, C, dd, vs, rfl, h1, h2, h3, hf m' _ h4, h5, h6, rsWs_ok (rsH_ok g 3) (hf m') h7 e1⟩
      · exact False.elim ho
    · exact False.elim ho
end
section
variable {P : Program} {w : World} {mg : Str → Option Value} {base : Heap} {T : Tx}
theorem fn_pur {f : Addr} {fd : FuncData} {ps : List Str} {k n : Nat} {F : Fn} (h : FnOk P w T.K mg base (L2.CX P w) k f fd ps (spF T n F)) : FnOk P w T.K mg base (L2.CX P w) k f fd ps (spF T n (purF F)) :=
  fn_imp h fun ws G m H vs Q W0 g r o => out_pur g o
end
end U

namespace U
open PySem
open L2

/-- items in another order -/
def perm {α : Type} (p : List Nat) (xs : List α) : List α := p.filterMap fun i => xs[i]?
theorem perm_vals {p : List Nat} {vs : List V} {us : List Value} (r : Vals vs us) : Vals (perm p vs) (perm p us) := by
  induction p with
  | nil => exact .nil
  | cons i p ih =>
    unfold perm at ih ⊢
    rw [List.filterMap_cons, List.filterMap_cons]
    cases e : vs[i]? with
    | none => rw [Vals.none_of r e]; exact ih
    | some v =>
      obtain ⟨u, e1, r1⟩ := Vals.get r e
      rw [e1]
      exact .cons r1 ih
theorem perm_rws {T : Tx} {m : Mm} {H : Hp} {p : List Nat} {ws : List W} {vs : List V} (r : RWs T m H ws vs) : RWs T m H (perm p ws) (perm p vs) := by
  induction p with
  | nil => exact .nil
  | cons i p ih =>
    unfold perm at ih ⊢
    rw [List.filterMap_cons, List.filterMap_cons]
    cases e : ws[i]? with
    | none =>
      have : vs[i]? = none := by
        rw [List.getElem?_eq_none_iff, ← r.length]
        exact List.getElem?_eq_none_iff.mp e
      rw [this]
      exact ih
    | some v =>
      obtain ⟨u, e1, r1⟩ := r.get e
      rw [e1]
      exact .cons r1 ih
/-- how n positional values and the keywords' values, then defaults, come to the parameters -/
def KB (K : PySem.W.Frag) (fd : FuncData) (ps : List Str) (n : Nat) (ks : List Str) (ds : List Value) (p : List Nat) : Prop :=
  ∀ (s : Shared) (us ws : List Value), K.In s.heap → us.length = n → ws.length = ks.length → BindsTo s fd ⟨us, ks.zip ws⟩ (ps.zip (perm p (us ++ ws ++ ds)))
theorem kb_of {K : PySem.W.Frag} {x qual : Str} {st : Stmt} {f : Addr} {fd : FuncData} {ps ks : List Str} {n : Nat} {p : List Nat} (F : Fun K x qual st f fd)
    (h : ∀ (kV doc pm : Value) (an : Option Addr) (cdv ct : Value) (us ws : List Value), us.length = n → ws.length = ks.length → bindArgs (PySem.W.fnOf x qual (defArgs st) (defBody st) (defScope st) .none kV doc pm an cdv ct) ⟨us, ks.zip ws⟩ = pure (ps.zip (perm p (us ++ ws ++ [])))) : KB K fd ps n ks [] p := by
  obtain ⟨oc, od, kV, doc, pm, an, cdv, ct, osl, rfl, lk, hcd⟩ := F.ex
  exact fun s us ws _ h1 h2 => .of_eq (h kV doc pm an cdv ct us ws h1 h2)
/-- keywords' values -/
def FK (T : Tx) (X : Cx) (W0 : WX) (kws : List Keyword) (f : EF) : Prop := ∃ t, PK X kws t ∧ ImpA T W0 t f
section
variable {T : Tx} {X : Cx} {W0 : WX} {e : Expr} {kws : List Keyword} {f r : EF} {nm : Option Str} {kpos pos p : Pos} {x : Str}
theorem imp_acons {te : TE} {t : TA} (i : Imp T W0 te f) (ir : ImpA T W0 t r) : ImpA T W0 (tCons te t) (aCons f r) := by
  intro m ls G σ H Q hG hL ho
  refine i m ls G σ H _ hG hL ?_
  simp only [aCons] at ho
  cases e : f ls G with
  | stuck => rw [e] at ho; exact ho
  | exc w G1 => rw [e] at ho; exact ho
  | ok w G1 =>
    rw [e] at ho
    simp only [Res.bind] at ho
    intro m1 v H1 k1 g1 r1
    refine ir m1 ls G1 σ H1 _ g1 (hL.keep k1) ?_
    cases e2 : r ls G1 with
    | stuck => rw [e2] at ho; exact ho
    | exc w2 G2 => rw [e2] at ho; exact fun m2 c d H2 k2 g2 r2 => ho m2 c d H2 (k1.trans k2) g2 r2
    | ok w2 G2 =>
      rw [e2] at ho
      cases w2 with
      | tup ws =>
        obtain ⟨us, eu, q⟩ := ho
        cases eu
        exact ⟨ws, rfl, fun m2 vs H2 k2 g2 r2 => q m2 _ H2 (k1.trans k2) g2 (.cons (r1.keep k2) r2)⟩
      | _ => obtain ⟨us, eu, q⟩ := ho; try cases eu
theorem fk_nil : FK T X W0 [] aNil := ⟨_, pk_nil, fun m ls G σ H Q hG hL ho => by
  obtain ⟨ws, ew, q⟩ := ho
  cases ew
  exact q m [] H (.refl _ _) hG .nil⟩
theorem fk_cons (h : FE T X W0 e f) (hr : FK T X W0 kws r) : FK T X W0 (⟨nm, e, kpos⟩ :: kws) (aCons f r) := by
  obtain ⟨t, h, i⟩ := h
  obtain ⟨u, hr, ir⟩ := hr
  exact ⟨_, pk_cons h hr, imp_acons i ir⟩
variable {k n : Nat} {fa : Addr} {fd : FuncData} {ps ks : List Str} {F : Fn} {dvs : List V} {dws : List W} {ds : List Value} {pm : List Nat} {fk : EF}
theorem run_fnK {pins : List (Addr × Obj)} {σ : St} {H : Hp} {s : Shared} {Q : VK} {us ws : List Value} {vs zs : List V} {sp : Sp} (c : Ctx T X W0) (FO : FnOk X.prog X.w X.K X.mg X.base (L2.CX X.prog X.w) k fa fd ps sp) (hr : Room k X.A) (hb : KB X.K fd ps n ks ds pm) (hd : Vals dvs ds)
    (I : Inv X pins σ H s) (r : Vals vs us) (rz : Vals zs ws) (l1 : us.length = n) (l2 : ws.length = ks.length) (h : sp (perm pm (vs ++ zs ++ dvs)) H Q (WE W0 σ)) : wpAny (model X.prog X.w) X.A (call (.ref fa) us (ks.zip ws)) (EP X pins σ Q) X.xe s := by
  refine wpAny_call (codeAny_mono (FO.run X.A X.stack s H ⟨us, ks.zip ws⟩ _ _ Q (WE W0 σ) hr I.env0 (hb s us ws I.kIn l1 l2) (perm_vals ((r.append rz).append hd)) h) fun r s' hq => ?_)
  cases r with
  | error e => exact passAt c.tk σ pins H s e s' I hq
  | ok fl =>
    cases fl with
    | ret u => exact I.after hq
    | next => exact False.elim hq
    | brk => exact False.elim hq
    | cont => exact False.elim hq
/-- f(k = v, ..) -/
def tCallKO (sp : Sp) (pm : List Nat) (n : Nat) (dvs : List V) (E : St → XK) (tk : TA) : TE := fun σ H Q => tk σ H fun zs H2 => zs.length = n ∧ sp (perm pm ([] ++ zs ++ dvs)) H2 Q (E σ)
theorem pe_callKO {sp : Sp} {tk : TA} (c : Ctx T X W0) (FO : FnOk X.prog X.w X.K X.mg X.base (L2.CX X.prog X.w) k fa fd ps sp) (hr : Room k X.A) (hg : Gl X x) (hm : X.mg x = some (.ref fa)) (hk : PySem.W.keepIn X.K (.ref fa) = true) (hb : KB X.K fd ps 0 ks ds pm) (hd : Vals dvs ds)
    (hkw : PK X kws tk) (hall : (backToKw pos (keywordEach kws X.env)).all (·.1.isSome) = true) (hks : (backToKw pos (keywordEach kws X.env)).filterMap (·.1) = ks)
    (hdb : (x == ("__debug__" : Str)) = false) (hpl : ((backTo pos (starEach [] X.env)).any (·.1) || (backToKw pos (keywordEach kws X.env)).any (·.1.isNone)) = false) :
    PE X (.Call (.Name x p) [] kws pos) (tCallKO sp pm ks.length dvs (WE W0) tk) := by
  refine ⟨fun pins s σ H Q I h => ?_⟩
  refine wpAny_Call_Name_kw (ld_glob I hg hm ?_ hdb)
  refine PySem.W.callWith_KW0 (h₀ := X.base) I.ok.mod.kin hk hall ?_ hpl
  refine thn (hkw.run pos pins s σ H _ I h) fun ws s2 ⟨zs, H2, I2, rz, l2, q2⟩ => ⟨I2.kIn, ?_⟩
  rw [hks]
  exact run_fnK (us := []) (vs := []) c FO hr hb hd I2 .nil rz rfl (rz.length.symm.trans l2) q2
@[simp] def eFnK (F : Fn) (pm : List Nat) (dws : List W) (fa fk : EF) : EF := fun ls G => (fa ls G).bind fun w G1 => asT w fun ws => (fk ls G1).bind fun z G2 => asT z fun zs => F (perm pm (ws ++ zs ++ dws)) G2
theorem fe_callKO (c : Ctx T X W0) (FO : FnOk X.prog X.w X.K X.mg X.base (L2.CX X.prog X.w) k fa fd ps (spF T n F)) (hr : Room k X.A) (hm : X.mg x = some (.ref fa)) (hk : PySem.W.keepIn X.K (.ref fa) = true) (hb : KB X.K fd ps 0 ks ds pm) (hd : Dfl T dws dvs ds)
    (hkw : FK T X W0 kws fk) (hl : ∀ ls G ws G1, fk ls G = .ok (.tup ws) G1 → ws.length = ks.length) (hn : ∀ zs : List W, zs.length = ks.length → (perm pm ([] ++ zs ++ dws)).length = n)
    (hg : Gl X x := by rfl) (hall : (backToKw pos (keywordEach kws X.env)).all (·.1.isSome) = true := by rfl) (hks : (backToKw pos (keywordEach kws X.env)).filterMap (·.1) = ks := by rfl)
    (hdb : (x == ("__debug__" : Str)) = false := by decide +kernel) (hpl : ((backTo pos (starEach [] X.env)).any (·.1) || (backToKw pos (keywordEach kws X.env)).any (·.1.isNone)) = false := by rfl) :
    FE T X W0 (.Call (.Name x p) [] kws pos) (eFnK F pm dws aNil fk) := by
  obtain ⟨t, hkw, ik⟩ := hkw
  refine ⟨_, pe_callKO c FO hr hg hm hk hb hd.1 hkw hall hks hdb hpl, fun m ls G σ H Q hG hL ho => ?_⟩
  refine ik m ls G σ H _ hG hL ?_
  simp only [eFnK, aNil, Res.bind, asT] at ho
  cases e1 : fk ls G with
  | stuck => rw [e1] at ho; exact ho
  | exc w G1 => rw [e1] at ho; exact ho
  | ok w G1 =>
    rw [e1] at ho
    cases w with
    | tup zs =>
      refine ⟨zs, rfl, fun m1 vs H1 k1 g1 r1 => ?_⟩
      have hz := hl ls G zs G1 e1
      exact ⟨by rw [← r1.length, hz], m1, G1, perm pm ([] ++ zs ++ dws), g1, perm_rws (r1.append (hd.2 m1 H1)), hn zs hz, Out.wx (Out.keep k1 ho) fun _ _ _ h => h⟩
    | _ => exact False.elim ho
end

/-! ### the end: the law's own call -/
theorem fz_ints {T : Tx} {m : Mm} {H : Hp} : ∀ ns : List Int, RWs T m H (ns.map W.int) (ns.map V.int)
  | [] => .nil
  | n :: r => .cons (.int n) (fz_ints r)
theorem law_sp {T : Tx} {H : Hp} {a : Addr} {ns : List Int} {F : Fn} {G : Gs} (hT : LamX.Tabs T.tb H) (hE : T.er = none) (hS : SqL T.K H a (ns.map V.int)) (h : F [.fz (ns.map .int)] [] = .ok (.bl true) G) : spF T 1 F [.ref a] H (fun v _ => v = .bl true) fun _ _ _ => False := by
  refine ⟨⟨[], []⟩, [], [.fz (ns.map .int)], ⟨rfl, List.Pairwise.nil, fun i o a e => by simp at e, fun a h => (nomatch h), fun a h => (nomatch h), hT, fun x q => by rw [hE] at q; cases q⟩, .cons (.fz (fz_ints ns) ?_) .nil, rfl, ?_⟩
  · rcases hS with h | h
    · exact .inl ⟨⟨(fun q => nomatch q), (fun q => nomatch q)⟩, h⟩
    · exact .inr h
  · rw [h]
    intro m' v H' k g r
    cases r
    rfl

theorem fe_const {T : Tx} {X : Cx} {W0 : WX} {x y : Str} {t : Tok} {pos : Pos} (hm : X.mg x = some (.str y t)) (s : List Nat) (h : y = ⟨s.toArray⟩ := by decide +kernel) (hg : Gl X x := by rfl) (hdb : (x == ("__debug__" : Str)) = false := by decide +kernel) : FE T X W0 (.Name x pos) (eC (.str s)) := by
  subst h
  exact ⟨_, pe_glob (v := .str ⟨s.toArray⟩) hg hm ⟨t, rfl⟩ hdb, fun m _ _ _ H _ hG _ ho => ho m _ H (.refl m H) hG (.str s)⟩
theorem fn_stuck {P : Program} {w : World} {mg : Str → Option Value} {base : Heap} {T : Tx} {k n : Nat} {f : Addr} {fd : FuncData} {ps : List Str} (hn : ps.length = n) : FnOk P w T.K mg base (L2.CX P w) k f fd ps (spF T n fun _ _ => .stuck) :=
  ⟨fun vs H Q E h => by
    obtain ⟨m, G, ws, _, r, hl, _⟩ := h
    rw [← r.length, hl, hn], fun A outer s H args us vs Q E hr e0 hb r h => by
    obtain ⟨m, G, ws, _, _, _, ho⟩ := h
    exact False.elim ho⟩
theorem cx_none {P : Program} (w : World) (H : Hp) (s : Shared) (e : Value) (s' : Shared) (h : L2.CX P w [] H s (fun _ _ _ => False) e s') : False := by
  obtain ⟨_, _, _, _, _, _, _, _, _, _, _, _, z⟩ := h
  exact z
end U

/-! starred targets and displays -/
namespace U
open PySem
open PySem.W
open PyProof.Rows
open Builtin
open L2
open Sem (wp)
theorem walks_from {prog : Program} {w : World} {A : Around} {I : Addr} {fp wr : List Addr} {n : Nat} {P : Nat → Value → Prop} {St : Nat → Heap → Prop} (W : Walks prog w A I fp wr n P St) (i : Nat) (hi : i ≤ n) :
    Walks prog w A I fp wr (n - i) (fun j v => P (i + j) v) (fun j h => St (i + j) h) where
  sub := W.sub
  frame := fun j h h' st hk => W.frame (i + j) h h' st hk
  item := fun j s Q E hj st hQ => W.item (i + j) s Q E (by omega) st fun v h' tk hp st' hk => hQ v h' tk hp st' hk
  done := fun s Q E st hQ => W.done s Q E (by have e : i + (n - i) = n := by omega
                                              rw [← e]; exact st) hQ
  self := fun j s Q E st hQ => W.self (i + j) s Q E st hQ
section
variable {prog : Program} {w : World} {A : Around} {E : Value → Shared → Prop} {s : Shared}
theorem items_of {P : Nat → Value → Prop} {acc : Array Value} {l : List Value} (h : ItemsOf P acc l.length) (hp : ∀ j v, P j v → l[j]? = some v) : acc.toList = l := by
  refine List.ext_getElem? fun j => ?_
  rw [Array.getElem?_toList]
  cases e : acc[j]? with
  | some v => exact (hp j v (h.2 j v e)).symm
  | none =>
    have : l.length ≤ j := by
      rw [← h.1]
      rcases Nat.lt_or_ge j acc.size with hl | hl
      · rw [Array.getElem?_eq_getElem hl] at e
        cases e
      · exact hl
    rw [List.getElem?_eq_none this]
theorem unpackItems_star {t : Addr} {items : Array Value} {i : Nat} {Q : List Value → Shared → Prop} (hh : A.handled = none) (ht : PyProof.Rows.IsTup s.heap t items) (hi : i ≤ items.size) (hz : items.size ≤ sizeLine)
    (hQ : ∀ (h' : Heap) (tk : Nat), (∀ b o, s.heap.get? b = some o → h'.get? b = some o) → Q (items.toList.take i ++ [.ref h'.objs.size]) { s with heap := h'.push { cls := .type "list", data := .seq (items.toList.drop i).toArray }, toks := tk }) :
    wpAny (model prog w) A (unpackItems (.ref t) (i + 1) (some i)) Q E s := by
  have hlt : t ≠ s.heap.objs.size := by obtain ⟨o, ho, _⟩ := ht; exact Nat.ne_of_lt (Heap.lt_size ho)
  unfold unpackItems
  refine wpAny_bind ?_
  unfold notIterableAtAll
  refine wpAny_bind (wpAny_specialOf ht.typeIs slot_tuple_iter.lookup ?_)
  refine wpAny_pure ?_
  simp only [Bool.false_eq_true, if_false]
  refine wpAny_bind (wpAny_holding (PyProof.Rows.iter_tuple ht ?_))
  refine wpAny_bind (wpAny_holding (PyProof.Rows.draw_tuple hlt i 0 _ _ ⟨_, Heap.get?_push_size _ rfl, rfl, rfl⟩ (ht.push _) (by omega) fun h₁ hit₁ hs₁ => ?_))
  rw [List.drop_zero, Nat.zero_add] at *
  have hlen : (items.toList.take i).length = i := by rw [List.length_take, Array.length_toList]; omega
  rw [if_neg (by rw [hlen]; exact Nat.lt_irrefl i)]
  have ht₁ : PyProof.Rows.IsTup h₁ t items := (ht.push _).extBut hs₁.extBut hlt
  have W := (walks_from (Walks.tuple (prog := prog) (w := w) (A := A.in1) (show A.in1.handled = none from hh) s.heap.objs.size t hlt items) i hi).toS
  refine wpAny_bind (wpAny_holding (wpAny_collect_iter (.inr (.inr (.inr rfl))) W ?_ ?_ ?_ ?_ (fun s' acc hm ha => ?_) (by omega)))
  · exact fun j s1 st => let ⟨o, ho, hc, _⟩ := st.1; ⟨o, ho, hc⟩
  · exact ⟨hit₁, ht₁⟩
  · intro b hb
    simp only [List.mem_cons, List.not_mem_nil, or_false] at hb
    rcases hb with rfl | rfl
    · obtain ⟨o, ho, _⟩ := hit₁; exact Heap.lt_size ho
    · obtain ⟨o, ho, _⟩ := ht₁; exact Heap.lt_size ho
  · exact List.mem_cons_self
  · have e : acc.toList = items.toList.drop i := items_of (l := items.toList.drop i) (by rw [List.length_drop, Array.length_toList]; exact ha) fun j v hv => by
      rw [List.getElem?_drop, Array.getElem?_toList]
      exact hv
    have hk : ∀ b o, s.heap.get? b = some o → s'.heap.get? b = some o := fun b o hb => by
      have hne : b ≠ s.heap.objs.size := Nat.ne_of_lt (Heap.lt_size hb)
      refine hm.heap b o (by simpa using hne) ?_
      exact hs₁.extBut b o hne (Heap.get?_push_of_some _ hb)
    rw [e]
    have h0 : i + 1 - 1 - i = 0 := by omega
    rw [h0]
    rw [if_neg (Nat.not_lt_zero _)]
    rw [Nat.sub_zero, List.take_length, List.drop_length]
    refine wpAny_bind (wpAny_newObj_type ?_ (by simp [sizeOk]; omega))
    refine wpAny_pure ?_
    rw [List.append_nil]
    have := hQ s'.heap s'.toks hk
    have e1 := hm.gens
    have e2 := hm.drawn
    have e3 := hm.os
    simp only at e1 e2 e3
    rw [← e1, ← e2, ← e3] at this
    exact this
end

/-! ### a starred target -/
def gStar (K : PySem.W.Frag) (i : Nat) (t : TGs) : TG := fun v σ H Q => ∃ a xs, v = .ref a ∧ SqT K H a xs ∧ i ≤ xs.length ∧ ∀ p, H p = none → t (xs.take i ++ [.ref p]) σ (upd H p (.lst (xs.drop i))) Q
theorem vals_drop {vs : List V} {us : List Value} (r : Vals vs us) : ∀ n : Nat, Vals (vs.drop n) (us.drop n)
  | 0 => r
  | n + 1 => by
    cases r with
    | nil => exact .nil
    | cons r1 r2 => exact vals_drop r2 n
theorem vals_takeApp {vs : List V} {us : List Value} {x : V} {u : Value} (r : Vals vs us) (h : RelV x u) : ∀ n : Nat, Vals (vs.take n ++ [x]) (us.take n ++ [u])
  | 0 => .cons h .nil
  | n + 1 => by
    cases r with
    | nil => exact .cons h .nil
    | cons r1 r2 => exact .cons r1 (vals_takeApp r2 h n)
theorem pg_star {X : Cx} {pos : Pos} {es : List Expr} {k i : Nat} {t : TGs} (hc : X.calm = true) (h : PGs X es t)
    (hn : (assignEach es X.env).length = i + 1 := by rfl) (hst : (assignEach es X.env).findIdx? (·.1) = some i := by rfl) : PG X (.Tuple es k pos) (gStar X.K i t) := by
  refine ⟨fun pins s σ H v u Q I r hw => ?_⟩
  obtain ⟨a, xs, e1, hq, hl, hw⟩ := hw
  subst e1
  cases r
  obtain ⟨its, rv, ht, hz⟩ := I.tuple hq
  have el := rv.length
  rw [PyProof.Rows.assign_Tuple]
  refine wpAny_bind (wpAny_standAt ?_)
  unfold unpack
  rw [hn, hst]
  refine wpAny_bind (wpAny_holding (unpackItems_star (I.ok.hd hc) ht (by simp; omega) (by simp; omega) fun h' tk hk => ?_))
  have I1 : Inv X pins σ H { s with heap := h', toks := tk } := I.kept hk
  have hf : H h'.objs.size = none := I1.hok.fresh (Nat.le_refl _)
  have I2 : Inv X pins σ (upd H h'.objs.size (.lst (xs.drop i))) { s with heap := h'.push { cls := .type "list", data := .seq ((its.toArray.toList).drop i).toArray }, toks := tk } :=
    I1.laid (t' := tk) (fun b u e => Heap.get?_push_of_some _ e) (Nat.le_refl _) ⟨by rw [List.length_drop]; omega, its.drop i, 0, vals_drop rv i, Heap.get?_push_size _ rfl⟩
  exact h.run pins _ σ _ _ _ Q I2 (vals_takeApp rv (show RelV (.ref h'.objs.size) (.ref h'.objs.size) from rfl) i) (hw _ hf)
theorem pgs_star {X : Cx} {e : Expr} {es : List Expr} {t : TG} {u : TGs} {p : Pos} (h1 : PG X e t) (h2 : PGs X es u)
    (hs : (assignEach (.Starred e p :: es) X.env).map (·.2) = assign e X.env :: (assignEach es X.env).map (·.2) := by rfl) : PGs X (.Starred e p :: es) (gCons t u) := by
  refine ⟨fun pins s σ H vs us Q I r h => ?_⟩
  obtain ⟨v, vr, e1, h⟩ := h
  subst e1
  cases r with
  | cons r rr =>
    rw [hs]
    refine assignInOrder_cons (thn (h1.run pins s σ H _ _ _ I r h) fun _ s1 ⟨σ1, H1, I1, q1⟩ => ?_)
    exact h2.run pins s1 σ1 H1 _ _ Q I1 rr q1
def gS (i : Nat) (g : List W → SF) : TF
  | .tup ws, ls, G => if i ≤ ws.length then g (ws.take i ++ [.lst (ws.drop i)]) ls G else .stuck
  | _, _, _ => .stuck
@[simp] theorem gS_e1 (i : Nat) (g : List W → SF) (ws : List W) (ls : Ls) (G : Gs) : gS i g (.tup ws) ls G = if i ≤ ws.length then g (ws.take i ++ [.lst (ws.drop i)]) ls G else .stuck := rfl
theorem RWs.app {T : Tx} {m : Mm} {H : Hp} {a b : List W} {x y : List V} (r : RWs T m H a x) (q : RWs T m H b y) : RWs T m H (a ++ b) (x ++ y) := by
  match r with
  | .nil => exact q
  | .cons h t => exact .cons h (RWs.app t q)
section
variable {T : Tx} {X : Cx} {W0 : WX} {pos : Pos}
theorem fgs_star {is js : List Nat} {e : Expr} {es : List Expr} {g : TF} {r : List W → SF} {p : Pos} (h : FG T X is e g) (hr : FGs T X js es r) (hs : (assignEach (.Starred e p :: es) X.env).map (·.2) = assign e X.env :: (assignEach es X.env).map (·.2) := by rfl) : FGs T X (is ++ js) (.Starred e p :: es) (gs1 g r) := by
  obtain ⟨t, h, i⟩ := h
  obtain ⟨u, hr, ir⟩ := hr
  refine ⟨_, pgs_star h hr hs, fun m ls G σ H ws vs Q hG hL rw_ ho => ?_⟩
  cases rw_ with
  | nil => exact False.elim ho
  | cons r1 r2 =>
    refine ⟨_, _, rfl, i m ls G σ H _ _ _ hG hL r1 ?_⟩
    simp only [gs1] at ho
    cases e : g _ ls G with
    | nx ls1 G1 =>
      rw [e] at ho
      exact fun m1 σ1 H1 k1 g1 l1 c1 => ir m1 ls1 G1 σ1 H1 _ _ Q g1 l1 (r2.keep k1) (OutG.keep k1 (c1.mono fun j h => List.mem_append_left _ h) (fun j h => List.mem_append_right _ h) ho)
    | _ => rw [e] at ho; exact False.elim ho
theorem sto_s {n : Nat} {g : List W → SF} (h : Stos g) : Sto (gS n g) := fun w ls G => by
  cases w with
  | tup ws =>
    simp only [gS]
    split
    · exact h _ ls G
    · exact .inr rfl
  | _ => exact .inr rfl
theorem fg_star {is : List Nat} {es : List Expr} {k i : Nat} {g : List W → SF} (c : Ctx T X W0) (h : FGs T X is es g) (hn : (assignEach es X.env).length = i + 1 := by rfl) (hst : (assignEach es X.env).findIdx? (·.1) = some i := by rfl) : FG T X is (.Tuple es k pos) (gS i g) := by
  obtain ⟨t, h, ih⟩ := h
  refine ⟨_, pg_star c.calm h hn hst, fun m ls G σ H w v Q hG hL r ho => ?_⟩
  cases r with
  | @tup ws vs a r f =>
    simp only [gS] at ho
    split at ho
    · rename_i hl
      refine ⟨_, _, rfl, by rw [c.hK]; exact f.sq, by rw [← r.length]; exact hl, fun p hp => ?_⟩
      have k1 := Keep.new (o := .lst (vs.drop i)) hG hp
      refine ih m ls G σ _ _ _ Q (hG.new hp) (hL.keep k1) ((r.keep k1).take i |>.app (.cons (.lst ((r.keep k1).drop i) (hG.free hp) upd_same) .nil)) ?_
      exact OutG.keep k1 (Chg.refl _ _) (fun j h => h) ho
    · exact False.elim ho
  | _ => exact False.elim ho

/-! ### starred arguments and items -/
@[simp] def aStar (f r : EF) : EF := fun ls G => (f ls G).bind fun w G1 => match itemsW w G1 with
  | some xs => (r ls G1).bind fun v G2 => asT v fun ws => .ok (.tup (xs ++ ws)) G2
  | none => .stuck
variable {e : Expr} {es : List Expr} {f r fa : EF} {p : Pos}
theorem fa_star (c : Ctx T X W0) (h : FE T X W0 e f) (hr : FA T X W0 es r) (hs : starEach (.Starred e p :: es) X.env = (true, eval e X.env) :: starEach es X.env := by rfl) : FA T X W0 (.Starred e p :: es) (aStar f r) := by
  obtain ⟨t, h, i⟩ := h
  obtain ⟨u, hr, ir⟩ := hr
  refine ⟨_, StX.pa_star h hr hs, fun m ls G σ H Q hG hL ho => ?_⟩
  refine i m ls G σ H _ hG hL ?_
  simp only [aStar] at ho
  cases e : f ls G with
  | stuck => rw [e] at ho; exact ho
  | exc w G1 => rw [e] at ho; exact ho
  | ok w G1 =>
    rw [e] at ho
    simp only [Res.bind] at ho
    intro m1 v H1 k1 g1 r1
    cases e3 : itemsW w G1 with
    | none =>
      rw [e3] at ho
      exact ho.elim
    | some xs =>
      rw [e3] at ho
      obtain ⟨a, ys, rfl, hq, r3⟩ := items_ok g1 r1 e3
      refine ⟨a, ys, rfl, by rw [c.hK]; exact hq.symm, ?_⟩
      refine ir m1 ls G1 σ H1 _ g1 (hL.keep k1) ?_
      cases e2 : r ls G1 with
      | stuck => rw [e2] at ho; exact ho
      | exc w2 G2 => rw [e2] at ho; exact fun m2 c d H2 k2 g2 r2 => ho m2 c d H2 (k1.trans k2) g2 r2
      | ok w2 G2 =>
        rw [e2] at ho
        cases w2 with
        | tup ws =>
          obtain ⟨us, eu, q⟩ := ho
          cases eu
          exact ⟨ws, rfl, fun m2 vs H2 k2 g2 r2 => q m2 _ H2 (k1.trans k2) g2 ((r3.keep k2).app r2)⟩
        | _ => obtain ⟨us, eu, q⟩ := ho; try cases eu
end

/-! ### str of an int, max and min of a list -/
def strI (i : Int) : List Nat := (Str.ofString (toString i)).cps.toList
def cStr (i : Int) : Bool := decide (i.natAbs.log2 < 1920)
def strW : List W → Gs → Res
  | [.int i], G => if cStr i then .ok (.str (strI i)) G else .stuck
  | [.str s], G => .ok (.str s) G
  | _, _ => .stuck
@[simp] theorem strW_e1 (i : Int) (G : Gs) : strW [.int i] G = if cStr i then .ok (.str (strI i)) G else .stuck := rfl
@[simp] theorem strW_e2 (s : List Nat) (G : Gs) : strW [.str s] G = .ok (.str s) G := rfl
theorem strI_str (i : Int) : (⟨(strI i).toArray⟩ : Str) = Str.ofString (toString i) := by
  unfold strI
  cases Str.ofString (toString i) with
  | mk c => simp
def rStr : List V → Hp → VK → Prop := fun xs H Q => (∃ i, xs = [.int i] ∧ i.natAbs.log2 < 1920 ∧ Q (.str (toString i)) H) ∨ ∃ a, xs = [.str a] ∧ Q (.str a) H
theorem cr_str {X : Cx} : CallR X (.type "str") rStr := by
  intro pins s σ H xs us Q I r h
  rcases h with h | h
  · exact call_str_int pins s σ H xs us Q I r h
  · exact SkE.call_str_str pins s σ H xs us Q I r h
theorem ib_str {T : Tx} {W0 : WX} : ImpB T W0 rStr strW := by
  intro m G σ H Q ws vs hG r0 ho
  unfold strW at ho
  split at ho
  · obtain ⟨v, rfl, r⟩ := r0.inv1
    cases r
    split at ho
    · rename_i h
      refine .inl ⟨_, rfl, of_decide_eq_true h, ?_⟩
      have := ho.now hG (.str _)
      rw [strI_str] at this
      exact this
    · exact False.elim ho
  · obtain ⟨v, rfl, r⟩ := r0.inv1
    cases r
    exact .inr ⟨_, rfl, ho.now hG (.str _)⟩
  · exact False.elim ho
def maxL : List Int → Int
  | [] => 0
  | [a] => a
  | a :: r => if maxL r ≤ a then a else maxL r
def minL : List Int → Int
  | [] => 0
  | [a] => a
  | a :: r => if a ≤ minL r then a else minL r
theorem maxL_in : ∀ {ns : List Int}, ns ≠ [] → maxL ns ∈ ns
  | [a], _ => List.mem_cons_self
  | a :: b :: r, _ => by
    show (if maxL (b :: r) ≤ a then a else maxL (b :: r)) ∈ _
    split
    · exact List.mem_cons_self
    · exact List.mem_cons_of_mem _ (maxL_in (by simp))
theorem maxL_le : ∀ {ns : List Int} {y : Int}, y ∈ ns → y ≤ maxL ns
  | [a], y, h => by simp at h; exact Int.le_of_eq h
  | a :: b :: r, y, h => by
    show y ≤ (if maxL (b :: r) ≤ a then a else maxL (b :: r))
    rcases List.mem_cons.mp h with rfl | h
    · split <;> omega
    · have := maxL_le h
      split <;> omega
theorem minL_in : ∀ {ns : List Int}, ns ≠ [] → minL ns ∈ ns
  | [a], _ => List.mem_cons_self
  | a :: b :: r, _ => by
    show (if a ≤ minL (b :: r) then a else minL (b :: r)) ∈ _
    split
    · exact List.mem_cons_self
    · exact List.mem_cons_of_mem _ (minL_in (by simp))
theorem minL_le : ∀ {ns : List Int} {y : Int}, y ∈ ns → minL ns ≤ y
  | [a], y, h => by simp at h; exact Int.le_of_eq h.symm
  | a :: b :: r, y, h => by
    show (if a ≤ minL (b :: r) then a else minL (b :: r)) ≤ y
    rcases List.mem_cons.mp h with rfl | h
    · split <;> omega
    · have := minL_le h
      split <;> omega
def maxW : List W → Gs → Res
  | [w], G => (match (lstW w G).bind intsOf with
    | some (a :: r) => .ok (.int (maxL (a :: r))) G
    | _ => .stuck)
  | _, _ => .stuck
def minW : List W → Gs → Res
  | [w], G => (match (lstW w G).bind intsOf with
    | some (a :: r) => .ok (.int (minL (a :: r))) G
    | _ => .stuck)
  | _, _ => .stuck
@[simp] theorem maxW_e1 (w : W) (G : Gs) : maxW [w] G = (match (lstW w G).bind intsOf with
    | some (a :: r) => .ok (.int (maxL (a :: r))) G
    | _ => .stuck) := rfl
@[simp] theorem minW_e1 (w : W) (G : Gs) : minW [w] G = (match (lstW w G).bind intsOf with
    | some (a :: r) => .ok (.int (minL (a :: r))) G
    | _ => .stuck) := rfl
theorem ib_max {T : Tx} {W0 : WX} : ImpB T W0 (rMax T.K) maxW := by
  intro m G σ H Q ws vs hG r0 ho
  unfold maxW at ho
  split at ho
  · obtain ⟨v, rfl, r⟩ := r0.inv1
    split at ho
    · rename_i a bs e
      obtain ⟨xs, e1, e2⟩ := Option.bind_eq_some_iff.mp e
      obtain ⟨p, ys, rfl, f, r⟩ := lst_ok hG r e1
      have := ints_ok r e2
      subst this
      refine ⟨_, a :: bs, rfl, SqL.of f, Nat.succ_pos _, fun m h1 h2 => ?_⟩
      have : m = maxL (a :: bs) := Int.le_antisymm (maxL_le h1) (h2 _ (maxL_in (by simp)))
      rw [this]
      exact ho.now hG (.int _)
    · exact False.elim ho
  · exact False.elim ho
theorem ib_min {T : Tx} {W0 : WX} : ImpB T W0 (rMin T.K) minW := by
  intro m G σ H Q ws vs hG r0 ho
  unfold minW at ho
  split at ho
  · obtain ⟨v, rfl, r⟩ := r0.inv1
    split at ho
    · rename_i a bs e
      obtain ⟨xs, e1, e2⟩ := Option.bind_eq_some_iff.mp e
      obtain ⟨p, ys, rfl, f, r⟩ := lst_ok hG r e1
      have := ints_ok r e2
      subst this
      refine ⟨_, a :: bs, rfl, SqL.of f, Nat.succ_pos _, fun m h1 h2 => ?_⟩
      have : m = minL (a :: bs) := Int.le_antisymm (h2 _ (minL_in (by simp))) (minL_le h1)
      rw [this]
      exact ho.now hG (.int _)
    · exact False.elim ho
  · exact False.elim ho
end U

/-! comprehensions whose list changes later -/
namespace U
open PySem
open L2
def Mm.rev (m : Mm) (p : Addr) : Mm := ⟨m.r ++ [p], m.av.filter fun a => decide (a ≠ p)⟩
theorem fr_rev {m : Mm} {p a : Addr} (hp : p ∈ m.av) (h : m.fr a) : (m.rev p).fr a :=
  ⟨fun q => by
    rcases List.mem_append.mp q with q | q
    · exact h.1 q
    · exact h.2 (List.mem_singleton.mp q ▸ hp), fun q => h.2 (List.mem_filter.mp q).1⟩
theorem rev_old {m : Mm} {p a : Addr} {i : Nat} (h : m.r[i]? = some a) : (m.rev p).r[i]? = some a := by
  show (m.r ++ [p])[i]? = some a
  rw [List.getElem?_append_left (List.getElem?_eq_some_iff.mp h).1]
  exact h
mutual
theorem RW.rev {T : Tx} {m : Mm} {H : Hp} {p : Addr} (hp : p ∈ m.av) : ∀ {w : W} {v : V}, RW T m H w v → RW T (m.rev p) H w v
  | _, _, .non => .non
  | _, _, .bl b => .bl b
  | _, _, .int i => .int i
  | _, _, .str s => .str s
  | _, _, .tup r f => .tup (RWs.rev hp r) (f.elim (fun f => .inl ⟨fr_rev hp f.1, f.2⟩) .inr)
  | _, _, .lst r n f => .lst (RWs.rev hp r) (fr_rev hp n) f
  | _, _, .fz r f => .fz (RWs.rev hp r) (f.elim (fun f => .inl ⟨fr_rev hp f.1, f.2⟩) .inr)
  | _, _, .dic r n f => .dic (RWe.rev hp r) (fr_rev hp n) f
  | _, _, .dit r z n f => .dit (RWt.rev hp r) z (fr_rev hp n) f
  | _, _, .obj r n c h l => .obj (RWs.rev hp r) (fr_rev hp n) c h l
  | _, _, .ref h => .ref (rev_old h)
  | _, _, .ty t => .ty t
  | _, _, .cls h => .cls h
theorem RWs.rev {T : Tx} {m : Mm} {H : Hp} {p : Addr} (hp : p ∈ m.av) : ∀ {ws : List W} {vs : List V}, RWs T m H ws vs → RWs T (m.rev p) H ws vs
  | _, _, .nil => .nil
  | _, _, .cons r t => .cons (RW.rev hp r) (RWs.rev hp t)
theorem RWe.rev {T : Tx} {m : Mm} {H : Hp} {p : Addr} (hp : p ∈ m.av) : ∀ {ws : List W} {vs : List (Key × V)}, RWe T m H ws vs → RWe T (m.rev p) H ws vs
  | _, _, .nil => .nil
  | _, _, .consI r t => .consI (RW.rev hp r) (RWe.rev hp t)
  | _, _, .consS r t => .consS (RW.rev hp r) (RWe.rev hp t)
theorem RWt.rev {T : Tx} {m : Mm} {H : Hp} {p : Addr} (hp : p ∈ m.av) : ∀ {ws : List W} {vs : List (List Key × V)}, RWt T m H ws vs → RWt T (m.rev p) H ws vs
  | _, _, .nil => .nil
  | _, _, .cons r t => .cons (RW.rev hp r) (RWt.rev hp t)
end
theorem RO.rev {T : Tx} {m : Mm} {H : Hp} {p : Addr} (hp : p ∈ m.av) {o : O} {a : Addr} (r : RO T m H o a) : RO T (m.rev p) H o a := by
  cases o with
  | lst xs => obtain ⟨vs, e, r⟩ := r; exact ⟨vs, e, r.rev hp⟩
  | dic xs => rcases r with ⟨vs, e, r⟩ | ⟨vs, e, z, r⟩
              · exact .inl ⟨vs, e, r.rev hp⟩
              · exact .inr ⟨vs, e, z, r.rev hp⟩
  | ins c xs => obtain ⟨C, dx, vs, hc, e, l, r⟩ := r; exact ⟨C, dx, vs, hc, e, l, r.rev hp⟩
  | dead => exact r
theorem RG.rev {T : Tx} {m : Mm} {G : Gs} {H : Hp} {p : Addr} {ws : List W} {vs : List V} (R : RG T m G H) (hp : p ∈ m.av) (hr : p ∉ m.r) (e : H p = some (.lst vs)) (r : RWs T m H ws vs) : RG T (m.rev p) (G ++ [.lst ws]) H := by
  refine ⟨by simp [Mm.rev, R.len], List.nodup_append.mpr ⟨R.nd, by simp, fun a ha b hb => ?_⟩, fun i x a e1 e2 => ?_, fun a q => R.av a (List.mem_filter.mp q).1, fun a q z => ?_, R.tb, fun x q => (R.xe x q).elim fun vs z => ⟨vs, fr_rev hp z.1, z.2.1, z.2.2.1, z.2.2.2.rev hp⟩⟩
  · rw [List.mem_singleton.mp hb]
    intro e
    exact hr (e ▸ ha)
  · have e2 : (m.r ++ [p])[i]? = some a := e2
    by_cases hi : i < m.r.length
    · rw [List.getElem?_append_left hi] at e2
      rw [List.getElem?_append_left (by rw [← R.len]; exact hi)] at e1
      exact (R.ob i x a e1 e2).rev hp
    · rw [List.getElem?_append_right (by omega)] at e2
      rw [List.getElem?_append_right (by rw [← R.len]; omega)] at e1
      rw [R.len] at e2
      cases q : i - G.length with
      | zero =>
        rw [q] at e1 e2
        simp at e1 e2
        subst e1; subst e2
        exact ⟨vs, e, r.rev hp⟩
      | succ n =>
        rw [q] at e1
        simp at e1
  · have z' := List.mem_filter.mp z
    rcases List.mem_append.mp q with q | q
    · exact R.dj a q z'.1
    · rw [List.mem_singleton.mp q] at z'
      simp at z'
theorem Keep.rev {T : Tx} {m m' : Mm} {G : Gs} {H H' : Hp} (R : RG T m G H) {p : Addr} (h : H p = none) (k : Keep m H m' H') : Keep m H (m'.rev p) H' :=
  ⟨by obtain ⟨e, q⟩ := k.ext; exact ⟨e ++ [p], by show m'.r ++ [p] = _; rw [q, List.append_assoc]⟩, fun a q => List.mem_filter.mpr ⟨k.avL a q, decide_eq_true fun e => R.avn q (e ▸ h)⟩, fun a q => k.avU a (List.mem_filter.mp q).1, k.th, fun a o e z n => ⟨(k.fz a o e z n).1, fun q => by
    rcases List.mem_append.mp q with q | q
    · exact (k.fz a o e z n).2 q
    · rw [List.mem_singleton.mp q, h] at e
      cases e⟩⟩
theorem rev_get {T : Tx} {m : Mm} {G : Gs} {H : Hp} {p : Addr} (R : RG T m G H) : (m.rev p).r[G.length]? = some p := by
  show (m.r ++ [p])[G.length]? = some p
  rw [← R.len, List.getElem?_append_right (Nat.le_refl _), Nat.sub_self]
  rfl
def thawK : W → Gs → Res
  | .lst ws, G => .ok (.ref G.length) (G ++ [.lst ws])
  | _, _ => .stuck
@[simp] theorem thawK_e1 (ws : List W) (G : Gs) : thawK (.lst ws) G = .ok (.ref G.length) (G ++ [.lst ws]) := rfl
@[simp] def eCompM (vs : List Nat) (fi : EF) (g : TF) (ft fe : EF) : EF := fun ls G => (fi ls G).bind fun w G1 => match w with
  | .lst ws => (compL g ft fe (wipeL ls vs) ws [] G1).bind thawK
  | _ => .stuck
section
variable {T : Tx} {X : Cx} {W0 : WX}
theorem imp_compM {is vs : List Nat} {wi : TI} {tg : TG} {tt : TT} {te : TE} {fi : EF} {g : TF} {ft fe : EF} (ii : ImpI T W0 wi fi) (ig : ImpG T is tg g) (it' : ImpT T WN tt ft) (ie : Imp T WN te fe) (hs : ∀ j ∈ is, j ∈ vs) : Imp T W0 (tLc wi tg tt te vs) (eCompM vs fi g ft fe) := by
  intro m ls G σ H Q hG hL ho
  refine ii m ls G σ H _ hG hL ?_
  simp only [eCompM] at ho
  cases e : fi ls G with
  | stuck => rw [e] at ho; exact ho
  | exc w G1 => rw [e] at ho; exact ho
  | ok w G1 =>
    rw [e] at ho
    simp only [Res.bind] at ho
    split at ho
    · rename_i ws
      refine ⟨ws, rfl, fun m1 J H1 k1 g1 it D hD => ?_⟩
      have o1 := Out.keep k1 ho
      have hDr : D ∉ m1.r := g1.freeR hD
      refine ⟨fun i k H => k = ws.length - i ∧ ∃ m2 acc accV G2, Keep m1 H1 m2 H ∧ RG T m2 G2 H ∧ D ∈ m2.av ∧ D ∉ m2.r ∧ H D = some (.lst accV) ∧ RWs T m2 H acc accV ∧ RL T m2 H (wipeL ls vs) (L2.wipe σ vs) ∧
        Out T W0 m1 H1 σ Q ((compL g ft fe (wipeL ls vs) (ws.drop i) acc G2).bind thawK), ⟨ws.length, rfl, m1.hide D, [], [], G1, Keep.hide g1 hD, g1.hide hD, List.mem_cons_self, hDr, upd_same, .nil, (((hL.keep k1).keep (Keep.hide g1 hD)).wipe vs), o1⟩, ?_⟩
      rintro i k H2 ⟨rfl, m2, acc, accV, G2, k2, g2, hDa, hDr2, eD, ra, l2, o2⟩
      obtain ⟨go, stop⟩ := it m2 G2 H2 k2 g2
      cases hw : ws[i]? with
      | none =>
        have hle : ws.length ≤ i := List.getElem?_eq_none_iff.mp hw
        rw [List.drop_eq_nil_of_le hle] at o2
        refine .inl ⟨stop i hle, ?_⟩
        exact o2 (m2.rev D) (.ref D) H2 (Keep.rev g1 hD k2) (g2.rev hDa hDr2 eD ra) (.ref (rev_get g2))
      | some w =>
        have hlt : i < ws.length := (List.getElem?_eq_some_iff.mp hw).1
        have hd : ws.drop i = w :: ws.drop (i + 1) := by
          rw [List.drop_eq_getElem_cons hlt, (List.getElem?_eq_some_iff.mp hw).2]
        rw [hd] at o2
        obtain ⟨hgo, hy⟩ := go i w hw
        refine .inr ⟨hgo, fun H => ∃ m2 acc accV G2, Keep m1 H1 m2 H ∧ RG T m2 G2 H ∧ D ∈ m2.av ∧ D ∉ m2.r ∧ H D = some (.lst accV) ∧ RWs T m2 H acc accV ∧ RL T m2 H (wipeL ls vs) (L2.wipe σ vs) ∧
          Out T W0 m1 H1 σ Q ((compL g ft fe (wipeL ls vs) (ws.drop (i + 1)) acc G2).bind thawK), fun H' n => ⟨ws.length - (i + 1), by omega, rfl, n⟩, fun x H' yl => ?_⟩
        obtain ⟨k3, g3, r3⟩ := hy x H' yl
        refine ig m2 (wipeL ls vs) G2 (L2.wipe σ vs) H' w x _ g3 (l2.keep k3) r3 ?_
        simp only [compL] at o2
        cases eg : g w (wipeL ls vs) G2 with
        | nx ls4 G4 =>
          rw [eg] at o2
          simp only at o2
          intro m4 σ4 H4 k4 g4 l4 c4
          refine ⟨c4.wipe hs, ?_⟩
          refine it' m4 ls4 G4 σ4 H4 _ g4 l4 ?_
          cases et : ft ls4 G4 with
          | ok b G5 =>
            rw [et] at o2
            intro m5 v5 H5 k5 g5 r5
            have kk : Keep m2 H2 m5 H5 := (k3.trans k4).trans k5
            have fin : ∀ {m6 : Mm} {H6 : Hp} {G6 : Gs} (_ : Keep m2 H2 m6 H6) (_ : RG T m6 G6 H6), D ∈ m6.av ∧ D ∉ m6.r ∧ H6 D = some (.lst accV) := fun {m6 H6 G6} k6 g6 => ⟨k6.avL D hDa, (k6.fzE eD hDr2).2, (k6.fzE eD hDr2).1⟩
            cases r5 with
            | bl b =>
              refine ⟨b, rfl, ?_⟩
              cases b with
              | false =>
                simp only [Bool.false_eq_true, if_false]
                obtain ⟨f1, f2, f3⟩ := fin kk g5
                exact ⟨m5, acc, accV, G5, k2.trans kk, g5, f1, f2, f3, ra.keep kk, l2.keep kk, o2⟩
              | true =>
                simp only [if_true]
                refine ie m5 ls4 G5 σ4 H5 _ g5 (l4.keep k5) ?_
                simp only at o2
                cases ee : fe ls4 G5 with
                | ok y G6 =>
                  rw [ee] at o2
                  simp only at o2
                  split at o2
                  · rename_i hz
                    intro m6 v6 H6 k6 g6 r6
                    have kk' := kk.trans k6
                    obtain ⟨f1, f2, f3⟩ := fin kk' g6
                    have ra6 := ra.keep kk'
                    refine ⟨accV, f3, by rw [← ra6.length, ← sz_eq]; exact hz, m6, acc ++ [y], accV ++ [v6], G6, Keep.pen hD (k2.trans kk'), g6.pen f1 f2, f1, f2, upd_same, ?_, (l2.keep kk').pen f1, o2⟩
                    exact (ra6.append (.cons r6 .nil)).pen f1
                  · exact False.elim o2
                | exc y G6 => rw [ee] at o2; exact False.elim o2
                | stuck => rw [ee] at o2; exact False.elim o2
            | _ => exact False.elim o2
          | exc b G5 => rw [et] at o2; exact False.elim o2
          | stuck => rw [et] at o2; exact False.elim o2
        | _ => rw [eg] at o2; exact False.elim o2
    · exact False.elim ho

section
variable {elt tg iter : Expr} {ifs : List Expr} {scope : Scope} {pos : Pos} {is : List Nat} {fi : EF} {g : TF} {ft fe : EF}
theorem fe_compM (own : List (Str × Nat)) (c : Ctx T X W0) (hi : FI T X W0 tg iter fi) (hg : ∀ p : BP, Ctx T (p.cx X scope) WN → FG T (p.cx X scope) is tg g) (ht : ∀ p : BP, Ctx T (p.cx X scope) WN → FTs T (p.cx X scope) WN ifs ft) (he : ∀ p : BP, Ctx T (p.cx X scope) WN → FE T (p.cx X scope) WN elt fe)
    (ok : blkC X.N X.env.scope scope own = true := by kernel_rfl) (hs : ∀ j ∈ is, j ∈ own.map (·.2) := by decide) (hf : ∀ x, foldedSetIterable iter X.env x = pure x := by intro _; rfl) :
    FE T X W0 (.ListComp elt [⟨tg, iter, ifs, 0⟩] scope pos) (eCompM (own.map (·.2)) fi g ft fe) := by
  obtain ⟨wi, hi, ii⟩ := hi
  obtain ⟨tg', hg, ig⟩ := one_g fun p => hg p (c.blk p scope)
  obtain ⟨tt, ht, it⟩ := one_t fun p => ht p (c.blk p scope)
  obtain ⟨te, he, ie⟩ := one_e fun p => he p (c.blk p scope)
  exact ⟨_, pe_lc c.calm c.nd hi (blkOk_by ok) (fun s H C cl fp => hg ⟨s, H, C, cl, fp⟩) (fun s H C cl fp => ht ⟨s, H, C, cl, fp⟩) (fun s H C cl fp => he ⟨s, H, C, cl, fp⟩) hf, imp_compM ii ig it ie hs⟩
theorem fs_setLcM (i : Nat) {y : Str} {py spos : Pos} (own : List (Str × Nat)) (c : Ctx T X W0) (hi : FI T X W0 tg iter fi) (hg : ∀ p : BP, Ctx T (p.cx X scope) WN → FG T (p.cx X scope) is tg g) (ht : ∀ p : BP, Ctx T (p.cx X scope) WN → FTs T (p.cx X scope) WN ifs ft) (he : ∀ p : BP, Ctx T (p.cx X scope) WN → FE T (p.cx X scope) WN elt fe)
    (hy : X.N[i]? = some y := by rfl) (hyl : X.env.scope.names.lookup y = some .local := by rfl) (hsw : swapsWith (.ListComp elt [⟨tg, iter, ifs, 0⟩] scope pos) (some (.Name y py)) spos.line X.env = pure true := by exact sw_true rfl rfl rfl (by decide +kernel))
    (ok : blkC X.N X.env.scope scope own = true := by kernel_rfl) (hs : ∀ j ∈ is, j ∈ own.map (·.2) := by decide) (hf : ∀ x, foldedSetIterable iter X.env x = pure x := by intro _; rfl) :
    FS T X W0 (.Assign [.Name y py] (.ListComp elt [⟨tg, iter, ifs, 0⟩] scope pos) spos) (sAsg (eCompM (own.map (·.2)) fi g ft fe) (gN i)) := by
  obtain ⟨wi, hi, ii⟩ := hi
  obtain ⟨tg', hg, ig⟩ := one_g fun p => hg p (c.blk p scope)
  obtain ⟨tt, ht, it⟩ := one_t fun p => ht p (c.blk p scope)
  obtain ⟨te, he, ie⟩ := one_e fun p => he p (c.blk p scope)
  refine ⟨_, ps_setLc c.calm c.nd hy hyl hsw hi (blkOk_by ok) (fun s H C cl fp => hg ⟨s, H, C, cl, fp⟩) (fun s H C cl fp => ht ⟨s, H, C, cl, fp⟩) (fun s H C cl fp => he ⟨s, H, C, cl, fp⟩) hf, fun m ls G σ H D hG hL ho => ?_⟩
  exact (imp_compM ii ig it ie hs).goS hG hL ho fun w G1 m1 v H1 k1 g1 r1 l1 o1 => o1 m1 _ H1 (.refl _ _) g1 (l1.set i r1)
end
end
end U

/-! enumerate of a tuple -/
namespace U
open PySem
open PySem.W
open L2
open PySem.Spec
open PyProof.Rows
open Sem (wp)
set_option maxHeartbeats 1000000 in
theorem meets_enumT {v : Value} {o : Obj} {H : Heap → Prop} (B : Begins v o H) :
    Meets (Builtin.«enumerate.__new__» ⟨[.type "enumerate", v], []⟩) (fun _ R s => H s.heap ∧
      R (.ok (.ret (.ref (s.heap.push o).objs.size))) { s with heap := (s.heap.push o).push { cls := .type "enumerate", data := .fields #[.none, .bool false, .ref s.heap.objs.size, rawInt 0, .none, .none] } }) :=
  .of_wp fun prog w A R s h => by
    obtain ⟨hp, g, d, tk, os⟩ := s; obtain ⟨h1, h⟩ := h
    have hsub := sub_enumerate
    have q1 : ∀ {A' : Around} {E : Value → Shared → Prop} {Q : Value → Shared → Prop}, Q (.ref hp.objs.size) ⟨hp.push o, g, d, tk, os⟩ → wpAny (model prog w) A' (pyIter v) Q E ⟨hp, g, d, tk, os⟩ :=
      fun q => B.iter prog w _ _ ⟨hp, g, d, tk, os⟩ _ h1 q
    wp_walk using q1
    refine wpAny_stack_any fun st => wpAny_pure ?_
    split
    · rename_i c _ _ _ _ _
      cases (c == Value.type "enumerate")
      · wp_walk using q1
        exact ⟨_, rfl, h⟩
      · wp_walk using q1
        exact ⟨_, rfl, h⟩
    · wp_walk using q1
      exact ⟨_, rfl, h⟩
section
variable {prog : Program} {w : World} {A : Around} {E : Value → Shared → Prop} {s : Shared}
theorem call_enumT {l : Addr} {items : Array Value} {Q : Value → Shared → Prop} (hL : s.heap.IsTuple l items)
    (h : ∀ h', IsEnum h' (s.heap.objs.size + 1) s.heap.objs.size 0 .none → h'.IsTupleIter s.heap.objs.size l 0 → h'.objs.size = s.heap.objs.size + 2 →
      (∀ b o, s.heap.get? b = some o → h'.get? b = some o) → Q (.ref (s.heap.objs.size + 1)) { s with heap := h' }) :
    wpAny (model prog w) A (call (.type "enumerate") [.ref l]) Q E s := by
  refine callType_new F.called_enumerate (by decide) (F.typeCall_enumerate_1 _) (F.newCall_enumerate_1 _) (fun obj => F.args_object_init_2 obj _) F.entry_enumerate_new
    (meets_enumT (begins_tuple l items)) ⟨hL, ?_⟩
  have hz : (s.heap.push { cls := .type "tuple_iterator", data := .fields #[.ref l, .int 0 0] }).objs.size = s.heap.objs.size + 1 := Heap.size_push ..
  show _ ∧ _
  rw [hz]
  have he : IsEnum ((s.heap.push { cls := .type "tuple_iterator", data := .fields #[.ref l, .int 0 0] }).push
      { cls := .type "enumerate", data := .fields #[.none, .bool false, .ref s.heap.objs.size, rawInt 0, .none, .none] }) (s.heap.objs.size + 1) s.heap.objs.size 0 .none := by
    have := Heap.get?_push_size (s.heap.push { cls := .type "tuple_iterator", data := .fields #[.ref l, .int 0 0] })
      (o := { cls := .type "enumerate", data := .fields #[.none, .bool false, .ref s.heap.objs.size, rawInt 0, .none, .none] }) rfl
    rw [hz] at this; exact this
  refine ⟨⟨_, he, rfl⟩, h _ he ⟨_, Heap.get?_push_of_some _ (Heap.get?_push_size _ rfl), rfl, rfl⟩ (by rw [Heap.size_push, hz]) fun b o x => Heap.get?_push_of_some _ (Heap.get?_push_of_some _ x)⟩
theorem next_enumT_end {e it l : Addr} {i : Nat} {items : Array Value} {old : Value} {Q : Option Value → Shared → Prop} (hh : A.handled = none)
    (he : IsEnum s.heap e it i old) (hit : s.heap.IsTupleIter it l i) (hl : s.heap.IsTuple l items) (hx : items[i]? = none)
    (hQ : ∀ h', Heap.ExtBut it s.heap h' → Q none { s with heap := h' }) : wpAny (model prog w) A (pyNext (.ref e)) Q E s := by
  have hT : s.TypeIs (.ref e) "enumerate" := ⟨_, he, rfl⟩
  unfold pyNext
  refine wpAny_bind (wpAny_attempt (wpAny_callSpecial?_slot (name := Str.ofString "__next__") hT F.slot_enumerate_next
    (wpAny_call_entry F.slot_enumerate_next hT F.entry_enumerate_next ?_ (F.args_enumerate_next_1 _))))
  show wpAny _ _ (field (.ref e) 2 >>= _) _ _ _
  refine wpAny_bind (wpAny_field he rfl (x := .ref it) rfl ?_)
  refine wpAny_bind (wpAny_nextOf_tuple_end (show A.in1.handled = none from hh) hit hl hx fun h' x he' hx' => ?_)
  obtain ⟨o, ho, hc⟩ := hx'
  refine wpAny_bind (wpAny_isInstance (T := "StopIteration") (b := true) ⟨o, ho, hc⟩ isSubtype_stop ?_)
  exact wpAny_pure (hQ _ he')
end
/-- the tuple at a, each item in a new pair -/
def IteT (K : PySem.W.Frag) (a : Addr) : It :=
  ⟨fun i H => ∃ (xs : List V) (x : V), SqT K H a xs ∧ xs[i]? = some x, fun i H v H' => ∃ T x, v = .ref T ∧ H T = none ∧ H' = upd H T (.tup [.int (i : Nat), x]) ∧ ∀ xs, SqT K H a xs → xs[i]? = some x, fun i H => ∃ xs : List V, SqT K H a xs ∧ xs.length ≤ i⟩
theorem turn_enumT {P : Program} {w : World} {K : PySem.W.Frag} {elts : List Expr} {kk : Nat} {tpos : Pos} (a e it : Addr) :
    Turn P w K (.Tuple elts kk tpos) (IteT K a) [e, it] e (fun i h => (∃ old, IsEnum h e it ((i : Nat) : Int) old) ∧ h.IsTupleIter it a i ∧ e ≠ it ∧ a ≠ it ∧ a ≠ e) where
  mem := by simp
  obj := fun i h st b hb => by
    obtain ⟨⟨old, he⟩, ⟨o, ho, hc, hd⟩, _⟩ := st
    have e' : b = e ∨ b = it := by simpa using hb
    rcases e' with z | z
    · rw [z]; exact ⟨_, he, fun v q => nomatch q⟩
    · rw [z]; exact ⟨o, ho, fun v q => by rw [hd] at q; cases q⟩
  keep := fun i h h' st k => let ⟨⟨old, he⟩, hi, hne⟩ := st; ⟨⟨old, k e (by simp) _ he⟩, hi.at fun o q => k it (by simp) o q, hne⟩
  item := by
    intro X hP hw hK hc i pins s σ H E I hf st hg
    subst hP hw hK
    obtain ⟨⟨old, he⟩, hit, hne, hai, hae⟩ := st
    obtain ⟨xs, x, hq, hx⟩ := hg
    obtain ⟨its, rv, p, hz⟩ := I.tuple hq
    obtain ⟨u, hu, ru⟩ := rv.get hx
    have hel : e < s.heap.objs.size := Heap.lt_size he
    have hil : it < s.heap.objs.size := by obtain ⟨_, q, _⟩ := hit; exact Heap.lt_size q
    have hlt : i < its.toArray.size := by
      have := (List.getElem?_eq_some_iff.mp hu).1
      simpa using this
    refine wpAny_pyNext_enum_itemD (Draws.tuple (show X.A.in1.handled = none from I.ok.hd hc) it a hai its.toArray) he ⟨hit, p⟩ hlt hne (by simp; exact ⟨hne, fun z => hae z.symm⟩) fun x' h' tk hP ho hst hT hsz hk => ?_
    have ex : x' = u := by
      have hP : its.toArray[i]? = some x' := hP
      simp at hP
      rw [hP] at hu
      exact Option.some.inj hu
    subst ex
    refine ⟨_, rfl, wpAny_letOwnedTupleGo_enum (s := { s with heap := h', toks := tk + 1 }) ho fun h'' he' sb => ?_⟩
    have hT2 : h''.get? s.heap.objs.size = some { cls := .type "tuple", data := .seq #[.int i tk, x'] } := (sb.2 _ (Nat.ne_of_gt hel)).trans hT
    have new : ObjOk X.prog X.w (upd H s.heap.objs.size (.tup [.int (i : Nat), x])) h'' s.heap.objs.size (.tup [.int (i : Nat), x]) :=
      ⟨by show 2 ≤ sizeLine; decide, [.int i tk, x'], .cons ⟨_, rfl⟩ (.cons ru .nil), ⟨_, hT2, rfl, _, rfl⟩⟩
    have I1 : Inv X pins σ (upd H s.heap.objs.size (.tup [.int (i : Nat), x])) { s with heap := h'', toks := tk + 1 } :=
      I.turnedNew (ch := [e, it]) (fun b ob hb q => (sb.2 b (fun z => hb (by simp [z]))).trans (hk b ob (fun z => hb (by simp [z])) (fun z => hb (by simp [z])) q)) hf (Nat.le_refl _) new
    refine ⟨.ref s.heap.objs.size, _, I1, rfl, ⟨_, x, rfl, I.hok.fresh (Nat.le_refl _), rfl, fun ys hy => by rw [I.tuple_inj hy hq]; exact hx⟩, ⟨⟨x', ?_⟩, hst.1.at fun o q => (sb.2 it (Ne.symm hne)).trans q, hne, hai, hae⟩, fun b hb => ?_⟩
    · have e1 : ((i + 1 : Nat) : Int) = (i : Int) + 1 := by omega
      rw [e1]; exact he'
    · have hb' : b < s.heap.objs.size := by
        have e' : b = e ∨ b = it := by simpa using hb
        rcases e' with z | z
        · rw [z]; exact hel
        · rw [z]; exact hil
      rw [upd_ne (Nat.ne_of_lt hb')]
      exact (hf b hb).1
  done := by
    intro X hP hw hK hc i pins s σ H E I hf st hg
    subst hP hw hK
    obtain ⟨⟨old, he⟩, hit, hne, hai, hae⟩ := st
    obtain ⟨xs, hq, hx⟩ := hg
    obtain ⟨its, rv, p, hz⟩ := I.tuple hq
    obtain ⟨f0, f1, f2, f3, f4, f5⟩ := hf it (by simp)
    have hl := rv.length
    exact next_enumT_end (I.ok.hd hc) he hit p (by simp; omega) fun h' eb => ⟨rfl, I.turned (t' := s.toks) (fun b o hb q => eb b o hb q) f0 f1 f3 f4 f5⟩
  self := fun A i s Q E st h => let ⟨⟨_, he⟩, _⟩ := st; wpAny_pyIter_enum he h
def iEnumU (K : PySem.W.Frag) (ta : TA) : TI := fun σ H R => ta σ H fun vs H1 => ∃ a xs, vs = [.ref a] ∧ ((SqL K H1 a xs ∧ R (Ite K a) H1) ∨ (SqT K H1 a xs ∧ R (IteT K a) H1))
theorem pi_enumU {X : Cx} {e : Expr} {ta : TA} {p pos tpos : Pos} {elts : List Expr} {kk : Nat} (hg : Gl X "enumerate") (hm : X.mg "enumerate" = none) (ha : PA X [e] ta) (hs : starEach [e] X.env = [(false, eval e X.env)] := by rfl) :
    PI X (.Tuple elts kk tpos) (.Call (.Name "enumerate" p) [e] [] pos) (iEnumU X.K ta) := by
  refine ⟨fun pins s σ H R I h => ?_⟩
  refine Call_ (ld_blt I hg hm boot_enumerate (PyProof.Rows.callWith_type1 (thn (ha.run pos pins s σ H _ I h) fun us s1 ⟨vs, H1, I1, r1, q1⟩ => ?_) hs rfl))
  obtain ⟨a, xs, ex, q⟩ := q1
  subst ex
  cases r1 with
  | cons r rr =>
    cases rr
    cases r
    rcases q with ⟨hq, q⟩ | ⟨hq, q⟩
    · obtain ⟨its, rv, p', hz⟩ := I1.list hq
      refine call_enumerate_list p'.isList fun h' he hit hsz hk => wpAny_pyIter_enum he ?_
      have I2 : Inv X pins σ H1 { s1 with heap := h' } := I1.kept (t' := s1.toks) hk
      refine ⟨s1.heap.objs.size + 1, [s1.heap.objs.size + 1, s1.heap.objs.size], _, _, H1, rfl, I2, turn_enum a (s1.heap.objs.size + 1) s1.heap.objs.size, ⟨⟨.none, he⟩, hit, Nat.succ_ne_self _⟩, fun b hb => ?_, q⟩
      have e' : b = s1.heap.objs.size + 1 ∨ b = s1.heap.objs.size := by simpa using hb
      have hle : s1.heap.objs.size ≤ b := by
        rcases e' with z | z
        · rw [z]; exact Nat.le_add_right _ _
        · rw [z]; exact Nat.le_refl _
      exact I1.fpOk hle (I1.hok.fresh hle)
    · obtain ⟨its, rv, p', hz⟩ := I1.tuple hq
      have hal : a < s1.heap.objs.size := by obtain ⟨o, ho, _⟩ := p'; exact Heap.lt_size ho
      refine call_enumT p' fun h' he hit hsz hk => wpAny_pyIter_enum he ?_
      have I2 : Inv X pins σ H1 { s1 with heap := h' } := I1.kept (t' := s1.toks) hk
      refine ⟨s1.heap.objs.size + 1, [s1.heap.objs.size + 1, s1.heap.objs.size], _, _, H1, rfl, I2, turn_enumT a (s1.heap.objs.size + 1) s1.heap.objs.size, ⟨⟨.none, he⟩, hit, Nat.succ_ne_self _, Nat.ne_of_lt hal, Nat.ne_of_lt (Nat.lt_succ_of_lt hal)⟩, fun b hb => ?_, q⟩
      have e' : b = s1.heap.objs.size + 1 ∨ b = s1.heap.objs.size := by simpa using hb
      have hle : s1.heap.objs.size ≤ b := by
        rcases e' with z | z
        · rw [z]; exact Nat.le_add_right _ _
        · rw [z]; exact Nat.le_refl _
      exact I1.fpOk hle (I1.hok.fresh hle)
theorem it_enumT {T : Tx} {m : Mm} {H : Hp} {a : Addr} {ws : List W} {vs : List V} (r : RWs T m H ws vs) (h : ∀ m' H', Keep m H m' H' → SqT T.K H' a vs) : ItOk T m H (IteT T.K a) (enumL 0 ws) := fun m' G' H' k g => by
  have q := h m' H' k
  refine ⟨fun i w e => ?_, fun i hi => ⟨vs, q, by rw [enumL_len] at hi; rw [← r.length]; exact hi⟩⟩
  rw [enumL_get] at e
  obtain ⟨x, ex, rfl⟩ := Option.map_eq_some_iff.mp e
  obtain ⟨v, e1, r1⟩ := r.get ex
  refine ⟨⟨vs, v, q, e1⟩, fun z H'' y => ?_⟩
  obtain ⟨D, x', rfl, hD, rfl, y⟩ := y
  have e2 := y vs q
  rw [e1] at e2
  cases e2
  have kk : Keep m' H' m' (upd H' D (.tup [.int (i : Nat), v])) := Keep.new g hD
  refine ⟨kk, g.new hD, .tup (.cons ?_ (.cons ((r1.keep k).keep kk) .nil)) (.inl ⟨g.free hD, upd_same⟩)⟩
  rw [Nat.zero_add]
  exact .int _
/-- enumerate of a list or a tuple -/
@[simp] def iEnumA (fa : EF) : EF := fun ls G => (fa ls G).bind fun w G1 => match w with
  | .tup [.lst xs] => .ok (.lst (enumL 0 xs)) G1
  | .tup [.fz xs] => .ok (.lst (enumL 0 xs)) G1
  | .tup [.tup xs] => .ok (.lst (enumL 0 xs)) G1
  | _ => .stuck
section
variable {T : Tx} {X : Cx} {W0 : WX} {tg e e2 : Expr} {f : EF} {p pos : Pos}
theorem fi_enumA {elts : List Expr} {kk : Nat} {tpos : Pos} (c : Ctx T X W0) (hm : X.mg "enumerate" = none) (ha : FA T X W0 [e] f) (hg : Gl X "enumerate" := by rfl) (hs : starEach [e] X.env = [(false, eval e X.env)] := by rfl) : FI T X W0 (.Tuple elts kk tpos) (.Call (.Name "enumerate" p) [e] [] pos) (iEnumA f) := by
  obtain ⟨t, ha, ia⟩ := ha
  refine ⟨_, pi_enumU hg hm ha hs, fun m ls G σ H R hG hL ho => ?_⟩
  refine ia m ls G σ H _ hG hL ?_
  simp only [iEnumA] at ho
  cases e : f ls G with
  | stuck => rw [e] at ho; exact ho
  | exc w G1 => rw [e] at ho; exact ho
  | ok w G1 =>
    rw [e] at ho
    simp only [Res.bind] at ho
    split at ho
    · rename_i hc
      split at hc
      · cases hc
        obtain ⟨ws, ew, q⟩ := ho
        cases ew
        refine ⟨_, rfl, fun m1 vs H1 k1 g1 r1 => ?_⟩
        obtain ⟨v, rfl, r⟩ := r1.inv1
        cases r with
        | lst r n f => exact ⟨_, _, rfl, .inl ⟨SqL.of f, by rw [c.hK]; exact q m1 _ H1 k1 g1 (it_enum r fun m' H' k => SqL.of (k.at_ f n).1)⟩⟩
      · cases hc
        obtain ⟨ws, ew, q⟩ := ho
        cases ew
        refine ⟨_, rfl, fun m1 vs H1 k1 g1 r1 => ?_⟩
        obtain ⟨v, rfl, r⟩ := r1.inv1
        cases r with
        | fz r f => exact ⟨_, _, rfl, .inl ⟨by rw [c.hK]; exact f.sq, by rw [c.hK]; exact q m1 _ H1 k1 g1 (it_enum r fun m' H' k => (k.fzL f).sq)⟩⟩
      · cases hc
        obtain ⟨ws, ew, q⟩ := ho
        cases ew
        refine ⟨_, rfl, fun m1 vs H1 k1 g1 r1 => ?_⟩
        obtain ⟨v, rfl, r⟩ := r1.inv1
        cases r with
        | tup r f => exact ⟨_, _, rfl, .inr ⟨by rw [c.hK]; exact f.sq, by rw [c.hK]; exact q m1 _ H1 k1 g1 (it_enumT r fun m' H' k => (k.fzT f).sq)⟩⟩
      · cases hc
    · rename_i hc
      split at hc <;> cases hc
    · exact False.elim ho
end
end U

/-! == of data -/
namespace U
open PySem
open L2
mutual
def eqD : W → W → Bool
  | .non, .non => true
  | .bl a, .bl b => a == b
  | .bl a, .int b => (if a then 1 else 0) == b
  | .int a, .bl b => a == (if b then 1 else 0)
  | .int a, .int b => a == b
  | .str a, .str b => a == b
  | .tup a, .tup b => eqDs a b
  | .lst a, .lst b => eqDs a b
  | _, _ => false
def eqDs : List W → List W → Bool
  | [], [] => true
  | x :: r, y :: q => eqD x y && eqDs r q
  | _, _ => false
end
mutual
def shW : Nat → W → Bool
  | _, .non => true
  | _, .bl _ => true
  | _, .int _ => true
  | _, .str s => PyData.strOk ⟨s.toArray⟩
  | n + 1, .tup xs => shWs n xs
  | n + 1, .lst xs => shWs n xs
  | _, _ => false
def shWs : Nat → List W → Bool
  | _, [] => true
  | n, x :: r => shW n x && shWs n r
end
mutual
theorem toD_sh : ∀ (n : Nat) (w : W), shW n w = true → ∃ d, toD w = some d ∧ d.canLay0 = true ∧ d.depth ≤ n
  | _, .non, _ => ⟨_, rfl, rfl, Nat.zero_le _⟩
  | _, .bl _, _ => ⟨_, rfl, rfl, Nat.zero_le _⟩
  | _, .int _, _ => ⟨_, rfl, rfl, Nat.zero_le _⟩
  | _, .str s, h => ⟨_, rfl, by simpa [shW, PyData.canLay0] using h, Nat.zero_le _⟩
  | n + 1, .tup xs, h => by
    obtain ⟨ds, e, c, l⟩ := toDs_sh n xs (by simpa [shW] using h)
    exact ⟨.tuple ds, by simp [toD, e], by simpa [PyData.canLay0] using c, by simp only [PyData.depth]; omega⟩
  | n + 1, .lst xs, h => by
    obtain ⟨ds, e, c, l⟩ := toDs_sh n xs (by simpa [shW] using h)
    exact ⟨.list ds, by simp [toD, e], by simpa [PyData.canLay0] using c, by simp only [PyData.depth]; omega⟩
  | 0, .tup _, h => by simp [shW] at h
  | 0, .lst _, h => by simp [shW] at h
  | 0, .fz _, h => by simp [shW] at h
  | _ + 1, .fz _, h => by simp [shW] at h
  | 0, .dic _, h => by simp [shW] at h
  | _ + 1, .dic _, h => by simp [shW] at h
  | 0, .obj _ _, h => by simp [shW] at h
  | _ + 1, .obj _ _, h => by simp [shW] at h
  | 0, .ref _, h => by simp [shW] at h
  | _ + 1, .ref _, h => by simp [shW] at h
  | 0, .ty _, h => by simp [shW] at h
  | _ + 1, .ty _, h => by simp [shW] at h
  | 0, .cls _, h => by simp [shW] at h
  | _ + 1, .cls _, h => by simp [shW] at h
theorem toDs_sh : ∀ (n : Nat) (ws : List W), shWs n ws = true → ∃ ds, toDs ws = some ds ∧ PyData.canLayAll0 ds = true ∧ PyData.depthAll ds ≤ n
  | n, [], _ => ⟨[], rfl, rfl, Nat.zero_le _⟩
  | n, x :: r, h => by
    have h : (shW n x && shWs n r) = true := by simpa [shWs] using h
    rw [Bool.and_eq_true] at h
    obtain ⟨d, e1, c1, l1⟩ := toD_sh n x h.1
    obtain ⟨ds, e2, c2, l2⟩ := toDs_sh n r h.2
    exact ⟨d :: ds, by simp [toDs, e1, e2], by simp [PyData.canLayAll0, c1, c2], by simp only [PyData.depthAll]; omega⟩
end
theorem str_beq (a b : List Nat) : ((⟨a.toArray⟩ : Str) == ⟨b.toArray⟩) = (a == b) := by
  by_cases h : a = b
  · subst h; simp
  · have h1 : (a == b) = false := by simpa using h
    rw [h1]
    have : ¬ (⟨a.toArray⟩ : Str) = ⟨b.toArray⟩ := fun e => h (by injection e with e; simpa using congrArg Array.toList e)
    simpa using this
mutual
theorem eqv_ok : ∀ (a b : W) (d e : PyData), toD a = some d → toD b = some e → PyData.eqv d e = eqD a b
  | .tup xs, b, d, e, ha, hb => by
    simp only [toD, Option.map_eq_some_iff] at ha
    obtain ⟨ds, h1, rfl⟩ := ha
    cases b <;> simp only [toD, Option.map_eq_some_iff] at hb <;> first
      | (obtain ⟨es, h2, rfl⟩ := hb; simp only [PyData.eqv, eqD]; first | done | exact eqvs_ok _ _ _ _ h1 h2)
      | (cases hb <;> simp only [PyData.eqv, eqD])
  | .lst xs, b, d, e, ha, hb => by
    simp only [toD, Option.map_eq_some_iff] at ha
    obtain ⟨ds, h1, rfl⟩ := ha
    cases b <;> simp only [toD, Option.map_eq_some_iff] at hb <;> first
      | (obtain ⟨es, h2, rfl⟩ := hb; simp only [PyData.eqv, eqD]; first | done | exact eqvs_ok _ _ _ _ h1 h2)
      | (cases hb <;> simp only [PyData.eqv, eqD])
  | .non, b, d, e, ha, hb => by
    cases ha
    cases b <;> simp only [toD, Option.map_eq_some_iff] at hb <;> first
      | (obtain ⟨es, h2, rfl⟩ := hb; simp only [PyData.eqv, eqD])
      | (cases hb <;> simp only [PyData.eqv, eqD])
  | .bl _, b, d, e, ha, hb => by
    cases ha
    cases b <;> simp only [toD, Option.map_eq_some_iff] at hb <;> first
      | (obtain ⟨es, h2, rfl⟩ := hb; simp only [PyData.eqv, eqD])
      | (cases hb <;> simp only [PyData.eqv, eqD])
  | .int _, b, d, e, ha, hb => by
    cases ha
    cases b <;> simp only [toD, Option.map_eq_some_iff] at hb <;> first
      | (obtain ⟨es, h2, rfl⟩ := hb; simp only [PyData.eqv, eqD])
      | (cases hb <;> simp only [PyData.eqv, eqD])
  | .str _, b, d, e, ha, hb => by
    cases ha
    cases b <;> simp only [toD, Option.map_eq_some_iff] at hb <;> first
      | (obtain ⟨es, h2, rfl⟩ := hb; simp only [PyData.eqv, eqD]; done)
      | (cases hb; simp only [PyData.eqv, eqD]; with_reducible exact str_beq _ _)
      | (cases hb; simp only [PyData.eqv, eqD]; done)
      | (cases hb; done)
      | (cases hb; simp only [PyData.eqv, eqD]; exact str_beq _ _)
  | .fz _, _, _, _, ha, _ => by cases ha
  | .dic _, _, _, _, ha, _ => by cases ha
  | .obj _ _, _, _, _, ha, _ => by cases ha
  | .ref _, _, _, _, ha, _ => by cases ha
  | .ty _, _, _, _, ha, _ => by cases ha
  | .cls _, _, _, _, ha, _ => by cases ha
theorem eqvs_ok : ∀ (a b : List W) (d e : List PyData), toDs a = some d → toDs b = some e → PyData.eqvAll d e = eqDs a b
  | [], [], d, e, ha, hb => by cases ha; cases hb; rfl
  | [], y :: q, d, e, ha, hb => by
    cases ha
    simp only [toDs] at hb
    split at hb
    · cases hb; rfl
    · cases hb
  | x :: r, [], d, e, ha, hb => by
    cases hb
    simp only [toDs] at ha
    split at ha
    · cases ha; rfl
    · cases ha
  | x :: r, y :: q, d, e, ha, hb => by
    simp only [toDs] at ha hb
    split at ha
    · rename_i h1 h2
      cases ha
      split at hb
      · rename_i h3 h4
        cases hb
        simp only [PyData.eqvAll, eqDs]
        rw [eqv_ok x y _ _ h1 h3, eqvs_ok r q _ _ h2 h4]
      · cases hb
    · cases ha
end
theorem eqS_D {a b : W} {r : Bool} (h : eqS a b = some r) : r = eqD a b := by
  cases a <;> cases b <;> simp only [eqS] at h <;> first
    | (cases h; simp [eqD]; done)
    | (cases h; exact (Bool.eq_iff_iff.mpr (by simp [eqD])))
    | (cases h; simp [eqD]; rfl)
    | (cases h; simp only [eqD]; exact (Bool.eq_iff_iff.mpr (by simp)))
    | cases h
theorem eqB_D {a b : W} (ha : shW 64 a = true) (hb : shW 64 b = true) : eqB a b = some (eqD a b) := by
  unfold eqB
  cases h : eqS a b with
  | some r => rw [eqS_D h]
  | none =>
    obtain ⟨d, e1, c1, l1⟩ := toD_sh 64 a ha
    obtain ⟨e, e2, c2, l2⟩ := toD_sh 64 b hb
    simp only [e1, e2]
    have s1 : SeqAt.shaped d = true := by unfold SeqAt.shaped; simp [c1, l1]
    have s2 : SeqAt.shaped e = true := by unfold SeqAt.shaped; simp [c2, l2]
    rw [s1, s2, eqv_ok a b d e e1 e2]
    rfl
theorem eqW_D {a b : W} {G : Gs} (ha : shW 64 a = true) (hb : shW 64 b = true) : eqW a b G = .ok (.bl (eqD a b)) G := by
  unfold eqW
  rw [eqB_D ha hb]
theorem neW_D {a b : W} {G : Gs} (ha : shW 64 a = true) (hb : shW 64 b = true) : neW a b G = .ok (.bl (!eqD a b)) G := by
  unfold neW
  rw [eqB_D ha hb]
theorem shWs_all {n : Nat} : ∀ ws : List W, shWs n ws = ws.all (shW n)
  | [] => by simp [shWs]
  | x :: r => by simp [shWs, shWs_all r]
theorem strOk_lt {s : List Nat} (h : ∀ c ∈ s, c < 1114112) : PyData.strOk ⟨s.toArray⟩ = true := by
  unfold PyData.strOk
  simpa using h
end U

/-! instances: fields, methods, making -/
namespace U
open PySem
open L2
/-- the class of an instance -/
def clsOf : W → Gs → Option Nat
  | .obj c _, _ => some c
  | .ref i, G => (match G[i]? with
    | some (.ins c _) => some c
    | _ => none)
  | _, _ => none
def fldsOf : W → Gs → Option (List W)
  | .obj _ xs, _ => some xs
  | .ref i, G => (match G[i]? with
    | some (.ins _ xs) => some xs
    | _ => none)
  | _, _ => none
@[simp] theorem clsOf_obj (c : Nat) (xs : List W) (G : Gs) : clsOf (.obj c xs) G = some c := rfl
@[simp] theorem clsOf_ref (i : Nat) (G : Gs) : clsOf (.ref i) G = (match G[i]? with
    | some (.ins c _) => some c
    | _ => none) := rfl
@[simp] theorem fldsOf_obj (c : Nat) (xs : List W) (G : Gs) : fldsOf (.obj c xs) G = some xs := rfl
@[simp] theorem fldsOf_ref (i : Nat) (G : Gs) : fldsOf (.ref i) G = (match G[i]? with
    | some (.ins _ xs) => some xs
    | _ => none) := rfl
theorem ins_ok {T : Tx} {m : Mm} {G : Gs} {H : Hp} {w : W} {v : V} {c : Nat} (hG : RG T m G H) (r : RW T m H w v) (e : clsOf w G = some c) :
    ∃ a C dx vs xs, v = .ref a ∧ T.ct c = some C ∧ H a = some (.ins C dx (List.zip (T.lay c) vs)) ∧ fldsOf w G = some xs ∧ RWs T m H xs vs ∧ vs.length ≤ (T.lay c).length := by
  cases r with
  | obj r n hc h l =>
    cases e
    exact ⟨_, _, _, _, _, rfl, hc, h, rfl, r, l⟩
  | @ref i a h =>
    simp only [clsOf_ref] at e
    split at e
    · rename_i c' xs hg
      cases e
      obtain ⟨C, dx, vs, hc, h1, l, r⟩ := hG.ob i _ a hg h
      exact ⟨a, C, dx, vs, xs, rfl, hc, h1, by simp only [fldsOf_ref, hg], r, l⟩
    · cases e
  | _ => cases e
theorem lookup_zip : ∀ {ks : List Str} {vs : List V} {i : Nat} {f : Str} {v : V}, ks[i]? = some f → (∀ j, j < i → ks[j]? ≠ some f) → vs[i]? = some v → (List.zip ks vs).lookup f = some v
  | k :: ks, x :: vs, 0, f, v, h1, _, h2 => by
    simp at h1 h2
    subst h1 h2
    simp
  | k :: ks, x :: vs, i + 1, f, v, h1, h3, h2 => by
    have hk : k ≠ f := fun e => h3 0 (Nat.succ_pos i) (by simp [e])
    have hk' : (f == k) = false := by simpa using fun e => hk e.symm
    simp only [List.zip_cons_cons, List.lookup_cons, hk']
    exact lookup_zip (by simpa using h1) (fun j hj => by simpa using h3 (j + 1) (Nat.succ_lt_succ hj)) (by simpa using h2)
  | [], _, i, f, v, h1, _, _ => by simp at h1
  | _ :: _, [], i, f, v, _, _, h2 => by simp at h2
theorem lookup_zip_none : ∀ {ks : List Str} {vs : List V} {f : Str}, f ∉ ks → (List.zip ks vs).lookup f = none
  | k :: ks, x :: vs, f, h => by
    have hk' : (f == k) = false := by simpa using fun e => h (by simp [e])
    simp only [List.zip_cons_cons, List.lookup_cons, hk']
    exact lookup_zip_none fun q => h (List.mem_cons_of_mem _ q)
  | [], _, f, _ => by simp
  | _ :: _, [], f, _ => by simp
/-- a field of a class: its place in the layout -/
structure FldOk (T : Tx) (f : Str) (c i : Nat) : Prop where
  at_ : (T.lay c)[i]? = some f
  fst : ∀ j, j < i → (T.lay c)[j]? ≠ some f
  ok : ∀ C, T.ct c = some C → Cls T.K C ∧ NoAttr T.K C f
def eFld (tbl : List (Nat × Nat)) (fo : EF) : EF := fun ls G => (fo ls G).bind fun o G1 => match clsOf o G1, fldsOf o G1 with
  | some c, some xs => (match tbl.lookup c with
    | some i => (match xs[i]? with
      | some w => .ok w G1
      | none => .stuck)
    | none => .stuck)
  | _, _ => .stuck
@[simp] theorem eFld_e (tbl : List (Nat × Nat)) (fo : EF) (ls : Ls) (G : Gs) : eFld tbl fo ls G = (fo ls G).bind fun o G1 => match clsOf o G1, fldsOf o G1 with
  | some c, some xs => (match tbl.lookup c with
    | some i => (match xs[i]? with
      | some w => .ok w G1
      | none => .stuck)
    | none => .stuck)
  | _, _ => .stuck := rfl
theorem lookup_mem {α : Type} : ∀ {l : List (Nat × α)} {c : Nat} {x : α}, l.lookup c = some x → (c, x) ∈ l
  | (k, y) :: r, c, x, h => by
    simp only [List.lookup_cons] at h
    split at h
    · rename_i e
      cases h
      rw [beq_iff_eq.mp e]
      exact List.mem_cons_self
    · exact List.mem_cons_of_mem _ (lookup_mem h)
section
variable {T : Tx} {X : Cx} {W0 : WX} {o e : Expr} {fo f : EF} {pos : Pos}
theorem fe_fld (c : Ctx T X W0) (h : FE T X W0 o fo) {a : Str} {tbl : List (Nat × Nat)} (ht : ∀ p ∈ tbl, FldOk T a p.1 p.2) (hb : attributeBase o a X.env (eval o X.env) = eval o X.env := by rfl) : FE T X W0 (.Attribute o a pos) (eFld tbl fo) := by
  obtain ⟨t, h, i⟩ := h
  refine ⟨_, pe_fld h hb, fun m ls G σ H Q hG hL ho => ?_⟩
  refine i.go hG hL ho fun w G1 m1 v H1 k1 g1 r1 l1 o1 => ?_
  split at o1
  · rename_i cc xs e1 e2
    obtain ⟨ad, C, dx, vs, xs', rfl, hc, h1, h2, r, l⟩ := ins_ok g1 r1 e1
    rw [e2] at h2
    cases h2
    split at o1
    · rename_i j ej
      have F := ht _ (lookup_mem ej)
      split at o1
      · rename_i w' ew
        obtain ⟨v', ev, rv⟩ := r.get ew
        obtain ⟨hC, hN⟩ := F.ok C hc
        exact ⟨ad, C, dx, _, v', rfl, h1, by rw [c.hK]; exact hC, by rw [c.hK]; exact hN, lookup_zip F.at_ F.fst ev, o1.now g1 rv⟩
      · exact False.elim o1
    · exact False.elim o1
  · exact False.elim o1
end
/-! ### methods -/
section
variable {X : Cx} {CX : CXT} {k : Nat} {f C : Addr} {fd : FuncData} {ps : List Str} {sp : Sp} {dvs : List V} {ds : List Value} {E : St → XK} {m : Str} {pos apos : Pos} {e o : Expr} {es : List Expr} {ta : TE} {t : TA}
def tMethSD (C : Addr) (m : Str) (sp : Sp) (dvs : List V) (E : St → XK) (ta : TE) (t : TA) : TE := fun σ H Q => ta σ H fun x H1 => ∃ a dx fs, x = .ref a ∧ H1 a = some (.ins C dx fs) ∧ fs.lookup m = none ∧
  t σ H1 fun vs H2 => sp (x :: (vs ++ dvs)) H2 Q (E σ)
theorem pe_methSD {pl : Sem Bool} (he : PE X o ta) (c : Cls X.K C) (hm : Meth X.K C m f) (F : FnOk X.prog X.w X.K X.mg X.base CX k f fd ps sp) (hr : Room k X.A) (hb : Binds X.K fd ps ds) (hd : Vals dvs ds) (hx : ∀ σ, PassesAt CX X σ (E σ)) (ha : PA X (e :: es) t)
    (hst : starEach (e :: es) X.env = (false, eval e X.env) :: starEach es X.env := by rfl) (hpl : (backTo pos (starEach es X.env)).any (·.1) = false := by rfl)
    (ht : eval (.Call (.Attribute o m apos) (e :: es) [] pos) X.env = (do
      let ov ← eval o X.env
      standAt apos.atName
      let (f, first) ← holding [ov] (getMethod ov m pl)
      callWith pos f first (backTo pos (starEach (e :: es) X.env)) (backToKw pos (keywordEach [] X.env))) := by rfl) :
    PE X (.Call (.Attribute o m apos) (e :: es) [] pos) (tMethSD C m sp dvs E ta t) := by
  refine ⟨fun pins s σ H Q I h => ?_⟩
  refine PySem.W.methodCall_KW (pl := pl) (thn (he.run pins s σ H _ I h) fun u s1 ⟨x, H1, I1, rx, a, dx, fs, ex, ea, l, q⟩ => ?_) ht
  subst ex
  obtain rfl : u = Value.ref a := rx
  refine getmeth_ok I1 ea c hm l ?_
  refine PySem.W.callWith_K (first := [.ref a]) (h₀ := X.base) I.ok.mod.kin hm.kp (thn (ha.run pos pins s1 σ H1 _ I1 q) fun us s2 ⟨vs, H2, I2, r, q2⟩ => ⟨I2.kIn, ?_⟩) hst hpl
  exact run_fnSD (us := .ref a :: us) (vs := .ref a :: vs) F hr hb hd (hx σ) I2 (.cons rfl r) q2
theorem pe_methSD0 {pl : Sem Bool} (he : PE X o ta) (c : Cls X.K C) (hm : Meth X.K C m f) (F : FnOk X.prog X.w X.K X.mg X.base CX k f fd ps sp) (hr : Room k X.A) (hb : Binds X.K fd ps ds) (hd : Vals dvs ds) (hx : ∀ σ, PassesAt CX X σ (E σ))
    (ht : eval (.Call (.Attribute o m apos) [] [] pos) X.env = (do
      let ov ← eval o X.env
      standAt apos.atName
      let (f, first) ← holding [ov] (getMethod ov m pl)
      callWith pos f first (backTo pos (starEach [] X.env)) (backToKw pos (keywordEach [] X.env))) := by rfl) :
    PE X (.Call (.Attribute o m apos) [] [] pos) (tMethSD C m sp dvs E ta tNil) := by
  refine ⟨fun pins s σ H Q I h => ?_⟩
  refine PySem.W.methodCall_KW (pl := pl) (thn (he.run pins s σ H _ I h) fun u s1 ⟨x, H1, I1, rx, a, dx, fs, ex, ea, l, q⟩ => ?_) ht
  subst ex
  obtain rfl : u = Value.ref a := rx
  refine getmeth_ok I1 ea c hm l ?_
  exact PySem.W.callWith_K0 (first := [.ref a]) I1.kIn hm.kp (run_fnSD (us := [.ref a]) (vs := [.ref a]) F hr hb hd (hx σ) I1 (.cons rfl .nil) q)
end
/-- a method of a class, as a def of the layer -/
structure MethOk (T : Tx) (P : Program) (w : World) (mg : Str → Option Value) (base : Heap) (k : Nat) (m : Str) (c n : Nat) (F : Fn) (dws : List W) : Prop where
  ok : ∃ (C f : Addr) (fd : FuncData) (ps : List Str) (dvs : List V) (ds : List Value), T.ct c = some C ∧ Cls T.K C ∧ Meth T.K C m f ∧ FnOk P w T.K mg base (L2.CX P w) k f fd ps (spF T n F) ∧ Binds T.K fd ps ds ∧ Dfl T dws dvs ds
  nof : m ∉ T.lay c
/-- o.m(args), o's class as the table says -/
def eMeth (tbl : List (Nat × (Fn × List W))) (fo fa : EF) : EF := fun ls G => (fo ls G).bind fun o G1 => match clsOf o G1 with
  | some c => (match tbl.lookup c with
    | some p => (fa ls G1).bind fun w G2 => asT w fun ws => p.1 (o :: (ws ++ p.2)) G2
    | none => .stuck)
  | none => .stuck
@[simp] theorem eMeth_e (tbl : List (Nat × (Fn × List W))) (fo fa : EF) (ls : Ls) (G : Gs) : eMeth tbl fo fa ls G = (fo ls G).bind fun o G1 => match clsOf o G1 with
  | some c => (match tbl.lookup c with
    | some p => (fa ls G1).bind fun w G2 => asT w fun ws => p.1 (o :: (ws ++ p.2)) G2
    | none => .stuck)
  | none => .stuck := rfl
theorem pe_ex {X : Cx} {e : Expr} {ι : Type} {t : ι → TE} (h : ∀ i, PE X e (t i)) : PE X e (fun σ H Q => ∃ i, t i σ H Q) := ⟨fun pins s σ H Q I ⟨i, q⟩ => (h i).run pins s σ H Q I q⟩
section
variable {T : Tx} {X : Cx} {W0 : WX} {o e : Expr} {es : List Expr} {fo fa : EF} {pos apos : Pos} {m : Str} {k n c : Nat} {F : Fn} {dws : List W}
theorem meth_imp {C : Addr} {dvs : List V} {ta : TE} {t : TA} (hC : T.ct c = some C) (hd : ∀ m H, RWs T m H dws dvs) (hnf : m ∉ T.lay c) (ia : Imp T W0 ta fo) (it : ImpA T W0 t fa) (hl : ∀ ls G ws G1, fa ls G = .ok (.tup ws) G1 → ws.length + 1 + dws.length = n) :
    Imp T W0 (tMethSD C m (spF T n F) dvs (WE W0) ta t) (eMeth [(c, (F, dws))] fo fa) := by
  intro mm ls G σ H Q hG hL ho
  refine ia.go hG hL ho fun w G1 m1 v H1 k1 g1 r1 l1 o1 => ?_
  split at o1
  · rename_i c' e1
    have hlk : [(c, (F, dws))].lookup c' = if c' == c then some (F, dws) else none := by simp only [List.lookup_cons, List.lookup_nil]; split <;> rename_i h <;> simp [h]
    rw [hlk] at o1
    by_cases hcc : (c' == c) = true
    · rw [if_pos hcc] at o1
      obtain rfl := beq_iff_eq.mp hcc
      obtain ⟨a, C', dx, vs, xs, rfl, hc, h1, h2, r, l⟩ := ins_ok g1 r1 e1
      rw [hC] at hc
      cases hc
      refine ⟨a, dx, _, rfl, h1, lookup_zip_none hnf, ?_⟩
      refine it m1 ls G1 σ H1 _ g1 l1 ?_
      simp only at o1
      cases e2 : fa ls G1 with
      | stuck => rw [e2] at o1; exact o1
      | exc w G2 => rw [e2] at o1; exact o1
      | ok w2 G2 =>
        rw [e2] at o1
        cases w2 with
        | tup ws =>
          refine ⟨ws, rfl, fun m2 us H2 k2 g2 r2 => ?_⟩
          refine ⟨m2, G2, w :: (ws ++ dws), g2, .cons (r1.keep k2) (r2.append (hd m2 H2)), ?_, Out.wx (Out.keep k2 o1) fun _ _ _ h => h⟩
          rw [List.length_cons, List.length_append]
          have := hl ls G1 ws G2 e2
          omega
        | _ => exact False.elim o1
    · rw [if_neg hcc] at o1
      exact False.elim o1
  · exact False.elim o1
theorem fe_meth1 {pl : Sem Bool} (cx : Ctx T X W0) (h : FE T X W0 o fo) (M : MethOk T X.prog X.w X.mg X.base k m c n F dws) (hr : Room k X.A) (ha : FA T X W0 (e :: es) fa) (hl : ∀ ls G ws G1, fa ls G = .ok (.tup ws) G1 → ws.length + 1 + dws.length = n)
    (hst : starEach (e :: es) X.env = (false, eval e X.env) :: starEach es X.env := by rfl) (hpl : (backTo pos (starEach es X.env)).any (·.1) = false := by rfl)
    (ht : eval (.Call (.Attribute o m apos) (e :: es) [] pos) X.env = (do
      let ov ← eval o X.env
      standAt apos.atName
      let (f, first) ← holding [ov] (getMethod ov m pl)
      callWith pos f first (backTo pos (starEach (e :: es) X.env)) (backToKw pos (keywordEach [] X.env))) := by rfl) :
    FE T X W0 (.Call (.Attribute o m apos) (e :: es) [] pos) (eMeth [(c, (F, dws))] fo fa) := by
  obtain ⟨ta, h, ia⟩ := h
  obtain ⟨t, ha, it⟩ := ha
  obtain ⟨C, f, fd, ps, dvs, ds, hC, hCls, hM, hF, hb, hd⟩ := M.ok
  have hK := cx.hK
  exact ⟨_, pe_methSD (pl := pl) (E := WE W0) h (by rw [hK]; exact hCls) (by rw [hK]; exact hM) (by rw [hK]; exact hF) hr (by rw [hK]; exact hb) hd.1 (passAt cx.tk) ha hst hpl ht, meth_imp hC hd.2 M.nof ia it hl⟩
theorem fe_meth10 {pl : Sem Bool} (cx : Ctx T X W0) (h : FE T X W0 o fo) (M : MethOk T X.prog X.w X.mg X.base k m c n F dws) (hr : Room k X.A) (hn : 1 + dws.length = n)
    (ht : eval (.Call (.Attribute o m apos) [] [] pos) X.env = (do
      let ov ← eval o X.env
      standAt apos.atName
      let (f, first) ← holding [ov] (getMethod ov m pl)
      callWith pos f first (backTo pos (starEach [] X.env)) (backToKw pos (keywordEach [] X.env))) := by rfl) :
    FE T X W0 (.Call (.Attribute o m apos) [] [] pos) (eMeth [(c, (F, dws))] fo aNil) := by
  obtain ⟨ta, h, ia⟩ := h
  obtain ⟨t, ha, it⟩ := (fa_nil : FA T X W0 [] aNil)
  obtain ⟨C, f, fd, ps, dvs, ds, hC, hCls, hM, hF, hb, hd⟩ := M.ok
  have hK := cx.hK
  exact ⟨_, pe_methSD0 (pl := pl) (E := WE W0) h (by rw [hK]; exact hCls) (by rw [hK]; exact hM) (by rw [hK]; exact hF) hr (by rw [hK]; exact hb) hd.1 (passAt cx.tk) ht, meth_imp hC hd.2 M.nof ia (fun m ls G σ H Q hG hL ho => by
    obtain ⟨ws, ew, q⟩ := ho
    cases ew
    exact q m [] H (.refl _ _) hG .nil) (fun ls G ws G1 q => by rw [al0 ls G ws G1 q]; omega)⟩
/-- one of some classes -/
theorem fe_methT {tbl : List (Nat × (Fn × List W))} {E : Expr} (h : ∀ p ∈ tbl, FE T X W0 E (eMeth [p] fo fa)) (hne : tbl ≠ []) : FE T X W0 E (eMeth tbl fo fa) := by
  refine ⟨_, pe_ex (ι := {p // p ∈ tbl}) fun p => (Classical.choose_spec (h p.1 p.2)).1, fun mm ls G σ H Q hG hL ho => ?_⟩
  have go : ∀ p (hp : p ∈ tbl), eMeth tbl fo fa ls G = eMeth [p] fo fa ls G → ∃ i : {p // p ∈ tbl}, Classical.choose (h i.1 i.2) σ H Q := fun p hp he => ⟨⟨p, hp⟩, (Classical.choose_spec (h p hp)).2 mm ls G σ H Q hG hL (by rw [← he]; exact ho)⟩
  cases e1 : fo ls G with
  | stuck => rw [eMeth_e, e1] at ho; exact False.elim ho
  | exc w G1 =>
    obtain ⟨p, hp⟩ := List.exists_mem_of_ne_nil tbl hne
    exact go p hp (by rw [eMeth_e, eMeth_e, e1]; rfl)
  | ok w G1 =>
    rw [eMeth_e, e1] at ho
    simp only [Res.bind] at ho
    split at ho
    · rename_i c e2
      split at ho
      · rename_i p e3
        refine go (c, p) (lookup_mem e3) ?_
        rw [eMeth_e, eMeth_e, e1]
        simp only [Res.bind, e2, e3]
        have : [(c, p)].lookup c = some p := by simp
        rw [this]
      · exact False.elim ho
    · exact False.elim ho
end
/-! ### a field stored -/
theorem putF_set : ∀ {ks : List Str} {vs : List V} {i : Nat} {f : Str} {y : V}, ks[i]? = some f → (∀ j, j < i → ks[j]? ≠ some f) → i < vs.length → putF f y (List.zip ks vs) = List.zip ks (vs.set i y)
  | k :: ks, x :: vs, 0, f, y, h1, _, _ => by
    simp at h1
    subst h1
    simp [putF]
  | k :: ks, x :: vs, i + 1, f, y, h1, h3, h2 => by
    have hk : k ≠ f := fun e => h3 0 (Nat.succ_pos i) (by simp [e])
    simp only [List.zip_cons_cons, List.set_cons_succ, putF, if_neg hk]
    rw [putF_set (by simpa using h1) (fun j hj => by simpa using h3 (j + 1) (Nat.succ_lt_succ hj)) (by simpa using h2)]
  | [], _, i, f, y, h1, _, _ => by simp at h1
  | _ :: _, [], i, f, y, _, _, h2 => by simp at h2
theorem putF_app : ∀ {ks : List Str} {vs : List V} {f : Str} {y : V}, ks[vs.length]? = some f → (∀ j, j < vs.length → ks[j]? ≠ some f) → putF f y (List.zip ks vs) = List.zip ks (vs ++ [y])
  | k :: ks, [], f, y, h1, _ => by
    simp at h1
    subst h1
    simp [putF]
  | k :: ks, x :: vs, f, y, h1, h3 => by
    have hk : k ≠ f := fun e => h3 0 (Nat.succ_pos _) (by simp [e])
    simp only [List.zip_cons_cons, List.cons_append, putF, if_neg hk]
    rw [putF_app (by simpa using h1) (fun j hj => by simpa using h3 (j + 1) (Nat.succ_lt_succ hj))]
  | [], vs, f, y, h1, _ => by simp at h1
/-- o.f = v, o one that changes -/
def sFldW (tbl : List (Nat × Nat)) (fo fv : EF) : SF := fun ls G => (fv ls G).sbind ls fun v G1 => (fo ls G1).sbind ls fun o G2 => match o with
  | .ref i => (match G2[i]? with
    | some (.ins c xs) => (match tbl.lookup c with
      | some j => if j < xs.length then .nx ls (G2.set i (.ins c (xs.set j v))) else if j = xs.length then .nx ls (G2.set i (.ins c (xs ++ [v]))) else .stuck
      | none => .stuck)
    | _ => .stuck)
  | _ => .stuck
@[simp] theorem sFldW_e (tbl : List (Nat × Nat)) (fo fv : EF) (ls : Ls) (G : Gs) : sFldW tbl fo fv ls G = (fv ls G).sbind ls fun v G1 => (fo ls G1).sbind ls fun o G2 => match o with
  | .ref i => (match G2[i]? with
    | some (.ins c xs) => (match tbl.lookup c with
      | some j => if j < xs.length then .nx ls (G2.set i (.ins c (xs.set j v))) else if j = xs.length then .nx ls (G2.set i (.ins c (xs ++ [v]))) else .stuck
      | none => .stuck)
    | _ => .stuck)
  | _ => .stuck := rfl
theorem RWs.len1 {T : Tx} {m : Mm} {H : Hp} {ws : List W} {vs : List V} (r : RWs T m H ws vs) : ws.length = vs.length := r.length
section
variable {T : Tx} {X : Cx} {W0 : WX} {o value : Expr} {fo fv : EF} {pos pos' : Pos} {a : Str}
theorem fs_fld (cx : Ctx T X W0) (h : FE T X W0 o fo) (hv : FE T X W0 value fv) {tbl : List (Nat × Nat)} (ht : ∀ p ∈ tbl, FldOk T a p.1 p.2 ∧ (T.lay p.1).length < 1000) (hs : swapsWith value (some (.Attribute o a pos')) pos.line X.env = pure false := by rfl) :
    FS T X W0 (.Assign [.Attribute o a pos'] value pos) (sFldW tbl fo fv) := by
  obtain ⟨t, h, i⟩ := h
  obtain ⟨tv, hv, iv⟩ := hv
  refine ⟨_, ps_fld h hv hs, fun m ls G σ H D hG hL ho => ?_⟩
  rw [sFldW_e] at ho
  refine iv.goS hG hL ho fun w G1 m1 v H1 k1 g1 r1 l1 o1 => ?_
  refine i.goS g1 l1 o1 fun ob G2 m2 x H2 k2 g2 r2 l2 o2 => ?_
  split at o2
  · rename_i ix
    cases r2 with
    | @ref _ ad hp =>
    split at o2
    · rename_i c xs hg
      obtain ⟨C, dx, vs, hc, h1, l, r⟩ := g2.ob ix _ ad hg hp
      have rw_ := r1.keep k2
      have kw : ∀ {u : HO} (hu : Nb u := by exact trivial), Keep m2 H2 m2 (upd H2 ad u) := fun {u} hu => Keep.write (List.mem_of_getElem? hp) hu
      split at o2
      · rename_i j ej
        obtain ⟨F, hlay⟩ := ht _ (lookup_mem ej)
        have hlay : (T.lay c).length < 1000 := hlay
        obtain ⟨hC, hN⟩ := F.ok C hc
        have hlen := r.length
        refine ⟨ad, C, dx, _, rfl, h1, by rw [cx.hK]; exact hC, by rw [cx.hK]; exact hN, by rw [List.length_zip]; omega, ?_⟩
        split at o2
        · rename_i hj
          have hj' : j < vs.length := by omega
          rw [putF_set F.at_ F.fst hj']
          exact o2 m2 σ _ kw (g2.write hp ⟨C, dx, vs.set j v, hc, upd_same, by rw [List.length_set]; exact l, (r.set rw_ j).keep kw⟩) (l2.keep kw)
        · split at o2
          · rename_i hj
            have hj' : j = vs.length := by omega
            subst hj'
            have hlt : vs.length < (T.lay c).length := (List.getElem?_eq_some_iff.mp F.at_).1
            rw [putF_app F.at_ F.fst]
            exact o2 m2 σ _ kw (g2.write hp ⟨C, dx, vs ++ [v], hc, upd_same, by rw [List.length_append, List.length_singleton]; omega, (r.append (.cons rw_ .nil)).keep kw⟩) (l2.keep kw)
          · exact False.elim o2
      · exact False.elim o2
    · exact False.elim o2
  · exact False.elim o2
end
/-! ### making -/
section
variable {X : Cx} {CX : CXT} {k : Nat} {f C : Addr} {fd : FuncData} {ps : List Str} {sp : Sp} {dvs : List V} {ds : List Value} {E : St → XK} {x : Str} {p pos : Pos} {e : Expr} {es : List Expr} {t : TA}
def tMakeSD (C : Addr) (sp : Sp) (dvs : List V) (E : St → XK) (t : TA) : TE := fun σ H Q => t σ H fun vs H1 => ∀ x dx, H1 x = none → H1 dx = none → dx ≠ x →
  sp (.ref x :: (vs ++ dvs)) (upd (upd H1 dx (.own x)) x (.ins C dx [])) (fun v H2 => v = .non ∧ Q (.ref x) H2) (E σ)
theorem run_makeSD {pins : List (Addr × Obj)} {σ : St} {H : Hp} {s : Shared} {Q : VK} {us : List Value} {vs : List V} (M : Mk X.K C f) (F : FnOk X.prog X.w X.K X.mg X.base CX k f fd ps sp) (hr : Room (k + 1) X.A) (hb : Binds X.K fd ps ds) (hd : Vals dvs ds)
    (hx : PassesAt CX X σ (E σ)) (I : Inv X pins σ H s) (r : Vals vs us)
    (h : ∀ x dx, H x = none → H dx = none → dx ≠ x → sp (.ref x :: (vs ++ dvs)) (upd (upd H dx (.own x)) x (.ins C dx [])) (fun v H2 => v = .non ∧ Q (.ref x) H2) (E σ)) :
    wpAny (model X.prog X.w) X.A (call (.ref C) us) (EP X pins σ Q) X.xe s := by
  have hq := h (s.heap.objs.size + 1) s.heap.objs.size (I.hok.fresh (Nat.le_succ _)) (I.hok.fresh (Nat.le_refl _)) (Nat.ne_of_lt (Nat.lt_succ_self _))
  have I2 := Inv.made (C := C) I
  have r2 : Vals (V.ref (s.heap.objs.size + 1) :: (vs ++ dvs)) (Value.ref (s.heap.objs.size + 1) :: (us ++ ds)) := .cons rfl (r.append hd)
  have hl : (Value.ref (s.heap.objs.size + 1) :: us ++ ds).length = ps.length := by
    have e := r2.length
    rw [F.len _ _ _ _ hq] at e
    exact e.symm
  refine wpAny_call (make_map (f := f) I.kIn M.makes M.init (beq_iff_eq.mp M.fn) (codeAny_mono (F.run _ X.stack _ _ ⟨Value.ref (s.heap.objs.size + 1) :: us, []⟩ (Value.ref (s.heap.objs.size + 1) :: (us ++ ds)) _ _ (E σ) (hr.make C us [])
    (I2.env0.make C us []) (hb _ (Value.ref (s.heap.objs.size + 1) :: us) I2.kIn hl) r2 hq) fun r s' hq' => ?_))
  cases r with
  | error e => exact hx pins _ _ e s' I2 hq'
  | ok fl =>
    cases fl with
    | ret u =>
      obtain ⟨v, H', I3, rv, ev, q3⟩ := I2.after hq'
      subst ev
      exact ⟨rv, ⟨V.ref (s.heap.objs.size + 1), H', I3, rfl, q3⟩⟩
    | next => exact False.elim hq'
    | brk => exact False.elim hq'
    | cont => exact False.elim hq'
theorem pe_makeSD (M : Mk X.K C f) (F : FnOk X.prog X.w X.K X.mg X.base CX k f fd ps sp) (hr : Room (k + 1) X.A) (hg : Gl X x) (hm : X.mg x = some (.ref C)) (hb : Binds X.K fd ps ds) (hd : Vals dvs ds) (hx : ∀ σ, PassesAt CX X σ (E σ))
    (ha : PA X (e :: es) t) (hdb : (x == ("__debug__" : Str)) = false := by decide) (he : starEach (e :: es) X.env = (false, eval e X.env) :: starEach es X.env := by rfl) (hpl : (backTo pos (starEach es X.env)).any (·.1) = false := by rfl) :
    PE X (.Call (.Name x p) (e :: es) [] pos) (tMakeSD C sp dvs E t) := by
  refine ⟨fun pins s σ H Q I h => ?_⟩
  refine wpAny_Call_Name_kw (ld_glob I hg hm ?_ hdb)
  refine PySem.W.callWith_K (h₀ := X.base) I.ok.mod.kin M.kp (thn (ha.run pos pins s σ H _ I h) fun us s1 ⟨vs, H1, I1, r, q⟩ => ⟨I1.kIn, ?_⟩) he hpl
  exact run_makeSD M F hr hb hd (hx σ) I1 r q
theorem pe_makeSD0 (M : Mk X.K C f) (F : FnOk X.prog X.w X.K X.mg X.base CX k f fd ps sp) (hr : Room (k + 1) X.A) (hg : Gl X x) (hm : X.mg x = some (.ref C)) (hb : Binds X.K fd ps ds) (hd : Vals dvs ds) (hx : ∀ σ, PassesAt CX X σ (E σ))
    (hdb : (x == ("__debug__" : Str)) = false := by decide) : PE X (.Call (.Name x p) [] [] pos) (tMakeSD C sp dvs E tNil) := by
  refine ⟨fun pins s σ H Q I h => ?_⟩
  refine wpAny_Call_Name_kw (ld_glob I hg hm ?_ hdb)
  exact PySem.W.callWith_K0 I.kIn M.kp (run_makeSD (us := []) M F hr hb hd (hx σ) I .nil h)
end
/-- a new instance, by its __init__ -/
def mkI (c : Nat) (F : Fn) : Fn := fun ws G => (F (.ref G.length :: ws) (G ++ [.ins c []])).bind fun r G2 => match r with
  | .non => .ok (.ref G.length) G2
  | _ => .stuck
section
variable {T : Tx} {m : Mm} {H : Hp} {Q : VK} {W0 : WX} {σ : St}
/-- what is made: implied by the layer's words, changing or frozen -/
theorem make_sp {c n : Nat} {C : Addr} {F : Fn} {ws : List W} {vs : List V} {G : Gs} (hC : T.ct c = some C) (hG : RG T m G H) (r : RWs T m H ws vs) (hn : ws.length + 1 = n) (ho : Out T W0 m H σ Q (mkI c F ws G)) (x dx : Addr) (hx : H x = none) (hdx : H dx = none) (hne : dx ≠ x) :
    spF T n F (.ref x :: vs) (upd (upd H dx (.own x)) x (.ins C dx [])) (fun v H2 => v = .non ∧ Q (.ref x) H2) (WE W0 σ) := by
  have k1 : Keep m H m (upd H dx (.own x)) := Keep.new hG hdx
  have g1 := hG.new (o := .own x) hdx
  have hx1 : upd H dx (.own x) x = none := by rw [upd_ne (Ne.symm hne)]; exact hx
  have k2 : Keep m (upd H dx (.own x)) (m.push x) (upd (upd H dx (.own x)) x (.ins C dx [])) := Keep.push g1 hx1
  have g2 : RG T (m.push x) (G ++ [.ins c []]) (upd (upd H dx (.own x)) x (.ins C dx [])) := g1.push hx1 ⟨C, dx, [], hC, by rw [upd_same]; simp, Nat.zero_le _, .nil⟩
  have kk := k1.trans k2
  have hix : (m.push x).r[G.length]? = some x := by
    show (m.r ++ [x])[G.length]? = some x
    rw [← hG.len, List.getElem?_append_right (Nat.le_refl _), Nat.sub_self]
    rfl
  refine ⟨m.push x, G ++ [.ins c []], .ref G.length :: ws, g2, .cons (.ref hix) (r.keep kk), by rw [List.length_cons]; exact hn, ?_⟩
  have o2 := Out.keep kk ho
  unfold mkI at o2
  cases e : F (.ref G.length :: ws) (G ++ [.ins c []]) with
  | stuck => rw [e] at o2; exact o2
  | exc w G2 => rw [e] at o2; exact o2
  | ok w G2 =>
    rw [e] at o2
    cases w with
    | non =>
      intro m3 v H3 k3 g3 r3
      cases r3
      refine ⟨rfl, o2 m3 _ H3 k3 g3 (.ref ?_)⟩
      obtain ⟨e, he⟩ := k3.ext
      rw [he, List.getElem?_append_left (List.getElem?_eq_some_iff.mp hix).1]
      exact hix
    | _ => exact False.elim o2
end
structure MakeOk (T : Tx) (P : Program) (w : World) (mg : Str → Option Value) (base : Heap) (k : Nat) (x : Str) (c n : Nat) (F : Fn) (dws : List W) : Prop where
  ok : ∃ (C f : Addr) (fd : FuncData) (ps : List Str) (dvs : List V) (ds : List Value), T.ct c = some C ∧ mg x = some (.ref C) ∧ Mk T.K C f ∧ FnOk P w T.K mg base (L2.CX P w) k f fd ps (spF T n F) ∧ Binds T.K fd ps ds ∧ Dfl T dws dvs ds
section
variable {T : Tx} {X : Cx} {W0 : WX} {e : Expr} {es : List Expr} {fa : EF} {p pos : Pos} {x : Str} {k n c : Nat} {F : Fn} {dws : List W}
theorem make_imp {C : Addr} {dvs : List V} {t : TA} (hC : T.ct c = some C) (hd : ∀ m H, RWs T m H dws dvs) (it : ImpA T W0 t fa) (hl : ∀ ls G ws G1, fa ls G = .ok (.tup ws) G1 → ws.length + dws.length + 1 = n) :
    Imp T W0 (tMakeSD C (spF T n F) dvs (WE W0) t) (eFn (mkI c F) dws fa) := by
  intro mm ls G σ H Q hG hL ho
  refine it mm ls G σ H _ hG hL ?_
  simp only [eFn] at ho
  cases e1 : fa ls G with
  | stuck => rw [e1] at ho; exact ho
  | exc w G1 => rw [e1] at ho; exact ho
  | ok w G1 =>
    rw [e1] at ho
    cases w with
    | tup ws =>
      refine ⟨ws, rfl, fun m1 vs H1 k1 g1 r1 xx dx hx hdx hne => ?_⟩
      exact make_sp hC g1 (r1.append (hd m1 H1)) (by rw [List.length_append]; exact hl ls G ws G1 e1) (Out.keep k1 ho) xx dx hx hdx hne
    | _ => exact False.elim ho
/-- what is made is frozen at once -/
theorem makeZ_imp {C : Addr} {dvs : List V} {t : TA} (hC : T.ct c = some C) (hd : ∀ m H, RWs T m H dws dvs) (it : ImpA T W0 t fa) (hl : ∀ ls G ws G1, fa ls G = .ok (.tup ws) G1 → ws.length + dws.length + 1 = n) :
    Imp T W0 (tMakeSD C (spF T n F) dvs (WE W0) t) (eFn (purF (mkI c F)) dws fa) := by
  intro mm ls G σ H Q hG hL ho
  refine it mm ls G σ H _ hG hL ?_
  simp only [eFn] at ho
  cases e1 : fa ls G with
  | stuck => rw [e1] at ho; exact ho
  | exc w G1 => rw [e1] at ho; exact ho
  | ok w G1 =>
    rw [e1] at ho
    cases w with
    | tup ws =>
      refine ⟨ws, rfl, fun m1 vs H1 k1 g1 r1 xx dx hx hdx hne => ?_⟩
      have o1 : Out T W0 m1 H1 σ Q (purF (mkI c F) (ws ++ dws) G1) := Out.keep k1 ho
      have o2 : Out T (fun c d _ H => W0 c d σ H) m1 H1 [] Q (purF (mkI c F) (ws ++ dws) G1) := Out.wx o1 fun _ _ _ h => h
      have o3 := out_pur g1 o2
      have o4 : Out T W0 m1 H1 σ Q (mkI c F (ws ++ dws) G1) := Out.wx o3 fun _ _ _ h => h
      exact make_sp hC g1 (r1.append (hd m1 H1)) (by rw [List.length_append]; exact hl ls G ws G1 e1) o4 xx dx hx hdx hne
    | _ => exact False.elim ho
theorem fe_make (cx : Ctx T X W0) (M : MakeOk T X.prog X.w X.mg X.base k x c n F dws) (hr : Room (k + 1) X.A) (ha : FA T X W0 (e :: es) fa) (hl : ∀ ls G ws G1, fa ls G = .ok (.tup ws) G1 → ws.length + dws.length + 1 = n) (hg : Gl X x := by rfl) (hdb : (x == ("__debug__" : Str)) = false := by decide +kernel)
    (he : starEach (e :: es) X.env = (false, eval e X.env) :: starEach es X.env := by rfl) (hpl : (backTo pos (starEach es X.env)).any (·.1) = false := by rfl) : FE T X W0 (.Call (.Name x p) (e :: es) [] pos) (eFn (purF (mkI c F)) dws fa) := by
  obtain ⟨t, ha, it⟩ := ha
  obtain ⟨C, f, fd, ps, dvs, ds, hC, hm, hM, hF, hb, hd⟩ := M.ok
  have hK := cx.hK
  exact ⟨_, pe_makeSD (E := WE W0) (by rw [hK]; exact hM) (by rw [hK]; exact hF) hr hg hm (by rw [hK]; exact hb) hd.1 (passAt cx.tk) ha hdb he hpl, makeZ_imp hC hd.2 it hl⟩
theorem fe_make0 (cx : Ctx T X W0) (M : MakeOk T X.prog X.w X.mg X.base k x c n F dws) (hr : Room (k + 1) X.A) (hn : dws.length + 1 = n) (hg : Gl X x := by rfl) (hdb : (x == ("__debug__" : Str)) = false := by decide +kernel) : FE T X W0 (.Call (.Name x p) [] [] pos) (eFn (purF (mkI c F)) dws aNil) := by
  obtain ⟨C, f, fd, ps, dvs, ds, hC, hm, hM, hF, hb, hd⟩ := M.ok
  have hK := cx.hK
  exact ⟨_, pe_makeSD0 (E := WE W0) (by rw [hK]; exact hM) (by rw [hK]; exact hF) hr hg hm (by rw [hK]; exact hb) hd.1 (passAt cx.tk) hdb, makeZ_imp hC hd.2 (fun m ls G σ H Q hG hL ho => by
    obtain ⟨ws, ew, q⟩ := ho
    cases ew
    exact q m [] H (.refl _ _) hG .nil) (fun ls G ws G1 q => by rw [al0 ls G ws G1 q]; omega)⟩
end
end U

/-! keywords and defaults: making, methods, functions -/
namespace U
open PySem
open L2
def permF (pm : List Nat) (F : Fn) : Fn := fun ws G => F (perm pm ws) G
@[simp] theorem permF_e (pm : List Nat) (F : Fn) (ws : List W) (G : Gs) : permF pm F ws G = F (perm pm ws) G := rfl
theorem spF_perm {T : Tx} {n n2 : Nat} {F : Fn} {pm : List Nat} {vs : List V} {H : Hp} {Q : VK} {E : XK} (hp : ∀ ws : List W, ws.length = n → (perm pm ws).length = n2) (h : spF T n (permF pm F) vs H Q E) : spF T n2 F (perm pm vs) H Q E := by
  obtain ⟨m, G, ws, g, r, l, o⟩ := h
  exact ⟨m, G, perm pm ws, g, perm_rws r, hp ws l, o⟩
section
variable {X : Cx} {CX : CXT} {k n : Nat} {f C : Addr} {fd : FuncData} {ps ks : List Str} {sp : Sp} {E : St → XK} {x : Str} {p pos : Pos} {e : Expr} {es : List Expr} {kws : List Keyword} {t tk : TA} {pm : List Nat} {dvs : List V} {ds : List Value}
theorem run_makeKSD {pins : List (Addr × Obj)} {σ : St} {H : Hp} {s : Shared} {Q : VK} {us ws : List Value} {vs zs : List V} (M : Mk X.K C f) (F : FnOk X.prog X.w X.K X.mg X.base CX k f fd ps sp) (hr : Room (k + 1) X.A) (hb : KB X.K fd ps (n + 1) ks ds pm) (hd : Vals dvs ds) (hx : PassesAt CX X σ (E σ))
    (I : Inv X pins σ H s) (r : Vals vs us) (rz : Vals zs ws) (l1 : vs.length = n) (l2 : zs.length = ks.length)
    (h : ∀ x dx, H x = none → H dx = none → dx ≠ x → sp (perm pm ((.ref x :: vs) ++ zs ++ dvs)) (upd (upd H dx (.own x)) x (.ins C dx [])) (fun v H2 => v = .non ∧ Q (.ref x) H2) (E σ)) :
    wpAny (model X.prog X.w) X.A (call (.ref C) us (ks.zip ws)) (EP X pins σ Q) X.xe s := by
  have hq := h (s.heap.objs.size + 1) s.heap.objs.size (I.hok.fresh (Nat.le_succ _)) (I.hok.fresh (Nat.le_refl _)) (Nat.ne_of_lt (Nat.lt_succ_self _))
  have I2 := Inv.made (C := C) I
  have r1 : Vals (V.ref (s.heap.objs.size + 1) :: vs) (Value.ref (s.heap.objs.size + 1) :: us) := .cons rfl r
  have r2 := perm_vals (p := pm) ((r1.append rz).append hd)
  have n1 : (Value.ref (s.heap.objs.size + 1) :: us).length = n + 1 := by
    rw [List.length_cons, ← r.length, l1]
  refine wpAny_call (make_map (f := f) I.kIn M.makes M.init (beq_iff_eq.mp M.fn) (codeAny_mono (F.run _ X.stack _ _ ⟨Value.ref (s.heap.objs.size + 1) :: us, ks.zip ws⟩ _ _ _ (E σ) (hr.make C us (ks.zip ws))
    (I2.env0.make C us (ks.zip ws)) (hb _ (Value.ref (s.heap.objs.size + 1) :: us) ws I2.kIn n1 (rz.length.symm.trans l2)) r2 hq) fun r s' hq' => ?_))
  cases r with
  | error e => exact hx pins _ _ e s' I2 hq'
  | ok fl =>
    cases fl with
    | ret u =>
      obtain ⟨v, H', I3, rv, ev, q3⟩ := I2.after hq'
      subst ev
      exact ⟨rv, ⟨V.ref (s.heap.objs.size + 1), H', I3, rfl, q3⟩⟩
    | next => exact False.elim hq'
    | brk => exact False.elim hq'
    | cont => exact False.elim hq'
def tMakeKSD (C : Addr) (n m : Nat) (sp : Sp) (pm : List Nat) (dvs : List V) (E : St → XK) (t tk : TA) : TE := fun σ H Q => t σ H fun vs H1 => tk σ H1 fun zs H2 => vs.length = n ∧ zs.length = m ∧ ∀ x dx, H2 x = none → H2 dx = none → dx ≠ x →
  sp (perm pm ((.ref x :: vs) ++ zs ++ dvs)) (upd (upd H2 dx (.own x)) x (.ins C dx [])) (fun v H3 => v = .non ∧ Q (.ref x) H3) (E σ)
theorem pe_makeKSD0 (M : Mk X.K C f) (F : FnOk X.prog X.w X.K X.mg X.base CX k f fd ps sp) (hr : Room (k + 1) X.A) (hg : Gl X x) (hm : X.mg x = some (.ref C)) (hb : KB X.K fd ps 1 ks ds pm) (hd : Vals dvs ds) (hx : ∀ σ, PassesAt CX X σ (E σ)) (hkw : PK X kws tk)
    (hall : (backToKw pos (keywordEach kws X.env)).all (·.1.isSome) = true := by rfl) (hks : (backToKw pos (keywordEach kws X.env)).filterMap (·.1) = ks := by rfl) (hdb : (x == ("__debug__" : Str)) = false := by decide)
    (hpl : ((backTo pos (starEach [] X.env)).any (·.1) || (backToKw pos (keywordEach kws X.env)).any (·.1.isNone)) = false := by rfl) :
    PE X (.Call (.Name x p) [] kws pos) (tMakeKSD C 0 ks.length sp pm dvs E tNil tk) := by
  refine ⟨fun pins s σ H Q I h => ?_⟩
  refine wpAny_Call_Name_kw (ld_glob I hg hm ?_ hdb)
  refine PySem.W.callWith_KW0 (h₀ := X.base) I.ok.mod.kin M.kp hall ?_ hpl
  refine thn (hkw.run pos pins s σ H _ I h) fun ws s2 ⟨zs, H2, I2, rz, l1, l2, q2⟩ => ⟨I2.kIn, ?_⟩
  rw [hks]
  exact run_makeKSD (us := []) (vs := []) M F hr hb hd (hx σ) I2 .nil rz rfl l2 q2
theorem pe_makeKSD (M : Mk X.K C f) (F : FnOk X.prog X.w X.K X.mg X.base CX k f fd ps sp) (hr : Room (k + 1) X.A) (hg : Gl X x) (hm : X.mg x = some (.ref C)) (hb : KB X.K fd ps (n + 1) ks ds pm) (hd : Vals dvs ds) (hx : ∀ σ, PassesAt CX X σ (E σ)) (ha : PA X (e :: es) t) (hkw : PK X kws tk)
    (hall : (backToKw pos (keywordEach kws X.env)).all (·.1.isSome) = true := by rfl) (hks : (backToKw pos (keywordEach kws X.env)).filterMap (·.1) = ks := by rfl) (hdb : (x == ("__debug__" : Str)) = false := by decide)
    (he : starEach (e :: es) X.env = (false, eval e X.env) :: starEach es X.env := by rfl) (hpl : ((backTo pos (starEach (e :: es) X.env)).any (·.1) || (backToKw pos (keywordEach kws X.env)).any (·.1.isNone)) = false := by rfl) :
    PE X (.Call (.Name x p) (e :: es) kws pos) (tMakeKSD C n ks.length sp pm dvs E t tk) := by
  refine ⟨fun pins s σ H Q I h => ?_⟩
  refine wpAny_Call_Name_kw (ld_glob I hg hm ?_ hdb)
  refine PySem.W.callWith_KW (h₀ := X.base) I.ok.mod.kin M.kp hall (thn (ha.run pos pins s σ H _ I h) fun us s1 ⟨vs, H1, I1, r, q⟩ => ?_) hpl he
  refine thn (hkw.run pos pins s1 σ H1 _ I1 q) fun ws s2 ⟨zs, H2, I2, rz, l1, l2, q2⟩ => ⟨I2.kIn, ?_⟩
  rw [hks]
  exact run_makeKSD M F hr hb hd (hx σ) I2 r rz l1 l2 q2
end
section
variable {T : Tx} {X : Cx} {W0 : WX} {e : Expr} {es : List Expr} {kws : List Keyword} {fa fk : EF} {p pos : Pos} {x : Str} {k n n2 c : Nat} {F : Fn} {dws : List W} {ps ks : List Str} {pm : List Nat}
/-- making with keywords: how the class is bound for so many positional values and these keywords -/
structure MakeKOk (T : Tx) (P : Program) (w : World) (mg : Str → Option Value) (base : Heap) (k : Nat) (x : Str) (c n2 : Nat) (F : Fn) (dws : List W) (np : Nat) (ks : List Str) (pm : List Nat) : Prop where
  ok : ∃ (C f : Addr) (fd : FuncData) (ps : List Str) (dvs : List V) (ds : List Value), T.ct c = some C ∧ mg x = some (.ref C) ∧ Mk T.K C f ∧ FnOk P w T.K mg base (L2.CX P w) k f fd ps (spF T n2 F) ∧ KB T.K fd ps (np + 1) ks ds pm ∧ Dfl T dws dvs ds
/-- positional values, keywords' values, defaults in one row -/
def eAll (F : Fn) (dws : List W) (fa fk : EF) : EF := fun ls G => (fa ls G).bind fun w G1 => asT w fun ws => (fk ls G1).bind fun z G2 => asT z fun zs => F (ws ++ zs ++ dws) G2
@[simp] theorem eAll_e (F : Fn) (dws : List W) (fa fk : EF) (ls : Ls) (G : Gs) : eAll F dws fa fk ls G = (fa ls G).bind fun w G1 => asT w fun ws => (fk ls G1).bind fun z G2 => asT z fun zs => F (ws ++ zs ++ dws) G2 := rfl
theorem makeK_imp {C : Addr} {dvs : List V} {t tk : TA} {np : Nat} (hC : T.ct c = some C) (hd : ∀ m H, RWs T m H dws dvs) (it : ImpA T W0 t fa) (ik : ImpA T W0 tk fk) (hl : ∀ ls G ws G1, fa ls G = .ok (.tup ws) G1 → ws.length = np) (hk : ∀ ls G ws G1, fk ls G = .ok (.tup ws) G1 → ws.length = ks.length)
    (hp : ∀ ws : List W, ws.length = np + ks.length + dws.length + 1 → (perm pm ws).length = n2) :
    Imp T W0 (tMakeKSD C np ks.length (spF T n2 F) pm dvs (WE W0) t tk) (eAll (purF (mkI c (permF pm F))) dws fa fk) := by
  intro mm ls G σ H Q hG hL ho
  refine it mm ls G σ H _ hG hL ?_
  rw [eAll_e] at ho
  cases e1 : fa ls G with
  | stuck => rw [e1] at ho; exact ho
  | exc w G1 => rw [e1] at ho; exact ho
  | ok w G1 =>
    rw [e1] at ho
    cases w with
    | tup ws =>
      refine ⟨ws, rfl, fun m1 vs H1 k1 g1 r1 => ?_⟩
      refine ik m1 ls G1 σ H1 _ g1 (hL.keep k1) ?_
      have o1 := Out.keep k1 ho
      simp only [Res.bind, asT_e1] at o1
      cases e2 : fk ls G1 with
      | stuck => rw [e2] at o1; exact o1
      | exc w G2 => rw [e2] at o1; exact o1
      | ok z G2 =>
        rw [e2] at o1
        cases z with
        | tup zs =>
          refine ⟨zs, rfl, fun m2 us H2 k2 g2 r2 => ?_⟩
          have l1 := hl ls G ws G1 e1
          have l2 := hk ls G1 zs G2 e2
          refine ⟨by rw [← r1.length, l1], by rw [← r2.length, l2], fun xx dx hx hdx hne => ?_⟩
          have o2 : Out T W0 m2 H2 σ Q (purF (mkI c (permF pm F)) (ws ++ zs ++ dws) G2) := Out.keep k2 o1
          have o3 : Out T (fun c d _ H => W0 c d σ H) m2 H2 [] Q (purF (mkI c (permF pm F)) (ws ++ zs ++ dws) G2) := Out.wx o2 fun _ _ _ h => h
          have o4 := out_pur g2 o3
          have o5 : Out T W0 m2 H2 σ Q (mkI c (permF pm F) (ws ++ zs ++ dws) G2) := Out.wx o4 fun _ _ _ h => h
          have := make_sp (n := np + ks.length + dws.length + 1) hC g2 (((r1.keep k2).append r2).append (hd m2 H2)) (by simp only [List.length_append]; omega) o5 xx dx hx hdx hne
          have := spF_perm hp this
          exact this
        | _ => exact False.elim o1
    | _ => exact False.elim ho
theorem fe_makeK {np : Nat} (cx : Ctx T X W0) (M : MakeKOk T X.prog X.w X.mg X.base k x c n2 F dws np ks pm) (hr : Room (k + 1) X.A) (ha : FA T X W0 (e :: es) fa) (hkw : FK T X W0 kws fk) (hl : ∀ ls G ws G1, fa ls G = .ok (.tup ws) G1 → ws.length = np) (hkl : ∀ ls G ws G1, fk ls G = .ok (.tup ws) G1 → ws.length = ks.length)
    (hp : ∀ ws : List W, ws.length = np + ks.length + dws.length + 1 → (perm pm ws).length = n2) (hg : Gl X x := by rfl) (hall : (backToKw pos (keywordEach kws X.env)).all (·.1.isSome) = true := by rfl) (hks : (backToKw pos (keywordEach kws X.env)).filterMap (·.1) = ks := by rfl) (hdb : (x == ("__debug__" : Str)) = false := by decide +kernel)
    (he : starEach (e :: es) X.env = (false, eval e X.env) :: starEach es X.env := by rfl) (hpl : ((backTo pos (starEach (e :: es) X.env)).any (·.1) || (backToKw pos (keywordEach kws X.env)).any (·.1.isNone)) = false := by rfl) : FE T X W0 (.Call (.Name x p) (e :: es) kws pos) (eAll (purF (mkI c (permF pm F))) dws fa fk) := by
  obtain ⟨t, ha, it⟩ := ha
  obtain ⟨tk, hkw, ik⟩ := hkw
  obtain ⟨C, f, fd, ps, dvs, ds, hC, hm, hM, hF, hb, hd⟩ := M.ok
  have hK := cx.hK
  exact ⟨_, pe_makeKSD (E := WE W0) (by rw [hK]; exact hM) (by rw [hK]; exact hF) hr hg hm (by rw [hK]; exact hb) hd.1 (passAt cx.tk) ha hkw hall hks hdb he hpl, makeK_imp hC hd.2 it ik hl hkl hp⟩
theorem fe_makeK0 (cx : Ctx T X W0) (M : MakeKOk T X.prog X.w X.mg X.base k x c n2 F dws 0 ks pm) (hr : Room (k + 1) X.A) (hkw : FK T X W0 kws fk) (hkl : ∀ ls G ws G1, fk ls G = .ok (.tup ws) G1 → ws.length = ks.length)
    (hp : ∀ ws : List W, ws.length = 0 + ks.length + dws.length + 1 → (perm pm ws).length = n2) (hg : Gl X x := by rfl) (hall : (backToKw pos (keywordEach kws X.env)).all (·.1.isSome) = true := by rfl) (hks : (backToKw pos (keywordEach kws X.env)).filterMap (·.1) = ks := by rfl) (hdb : (x == ("__debug__" : Str)) = false := by decide +kernel)
    (hpl : ((backTo pos (starEach [] X.env)).any (·.1) || (backToKw pos (keywordEach kws X.env)).any (·.1.isNone)) = false := by rfl) : FE T X W0 (.Call (.Name x p) [] kws pos) (eAll (purF (mkI c (permF pm F))) dws aNil fk) := by
  obtain ⟨t, ha, it⟩ := (fa_nil : FA T X W0 [] aNil)
  obtain ⟨tk, hkw, ik⟩ := hkw
  obtain ⟨C, f, fd, ps, dvs, ds, hC, hm, hM, hF, hb, hd⟩ := M.ok
  have hK := cx.hK
  refine ⟨_, pe_makeKSD0 (E := WE W0) (by rw [hK]; exact hM) (by rw [hK]; exact hF) hr hg hm (by rw [hK]; exact hb) hd.1 (passAt cx.tk) hkw hall hks hdb hpl, makeK_imp hC hd.2 (fun m ls G σ H Q hG hL ho => ?_) ik al0 hkl hp⟩
  obtain ⟨ws, ew, q⟩ := ho
  cases ew
  exact q m [] H (.refl _ _) hG .nil
end
/-! ### methods with keywords -/
section
variable {X : Cx} {CX : CXT} {k n : Nat} {f C : Addr} {fd : FuncData} {ps ks : List Str} {sp : Sp} {E : St → XK} {m : Str} {apos pos : Pos} {o e : Expr} {es : List Expr} {kws : List Keyword} {ta : TE} {t tk : TA} {pm : List Nat} {dvs : List V} {ds : List Value}
theorem run_fnKSD {pins : List (Addr × Obj)} {σ : St} {H : Hp} {s : Shared} {Q : VK} {us ws : List Value} {vs zs : List V} (FO : FnOk X.prog X.w X.K X.mg X.base CX k f fd ps sp) (hr : Room k X.A) (hb : KB X.K fd ps n ks ds pm) (hd : Vals dvs ds) (hx : PassesAt CX X σ (E σ))
    (I : Inv X pins σ H s) (r : Vals vs us) (rz : Vals zs ws) (l1 : us.length = n) (l2 : ws.length = ks.length) (h : sp (perm pm (vs ++ zs ++ dvs)) H Q (E σ)) : wpAny (model X.prog X.w) X.A (call (.ref f) us (ks.zip ws)) (EP X pins σ Q) X.xe s := by
  refine wpAny_call (codeAny_mono (FO.run X.A X.stack s H ⟨us, ks.zip ws⟩ _ _ Q (E σ) hr I.env0 (hb s us ws I.kIn l1 l2) (perm_vals ((r.append rz).append hd)) h) fun r s' hq => ?_)
  cases r with
  | error e => exact hx pins H s e s' I hq
  | ok fl =>
    cases fl with
    | ret u => exact I.after hq
    | next => exact False.elim hq
    | brk => exact False.elim hq
    | cont => exact False.elim hq
def tMethKSD (C : Addr) (m : Str) (n l : Nat) (sp : Sp) (pm : List Nat) (dvs : List V) (E : St → XK) (ta : TE) (t tk : TA) : TE := fun σ H Q => ta σ H fun x H1 => ∃ a dx fs, x = .ref a ∧ H1 a = some (.ins C dx fs) ∧ fs.lookup m = none ∧
  t σ H1 fun vs H2 => tk σ H2 fun zs H3 => vs.length = n ∧ zs.length = l ∧ sp (perm pm ((x :: vs) ++ zs ++ dvs)) H3 Q (E σ)
theorem pe_methKSD {pl : Sem Bool} (he : PE X o ta) (c : Cls X.K C) (hm : Meth X.K C m f) (F : FnOk X.prog X.w X.K X.mg X.base CX k f fd ps sp) (hr : Room k X.A) (hb : KB X.K fd ps (n + 1) ks ds pm) (hd : Vals dvs ds) (hx : ∀ σ, PassesAt CX X σ (E σ)) (ha : PA X (e :: es) t) (hkw : PK X kws tk)
    (hall : (backToKw pos (keywordEach kws X.env)).all (·.1.isSome) = true := by rfl) (hks : (backToKw pos (keywordEach kws X.env)).filterMap (·.1) = ks := by rfl)
    (hst : starEach (e :: es) X.env = (false, eval e X.env) :: starEach es X.env := by rfl) (hpl : ((backTo pos (starEach (e :: es) X.env)).any (·.1) || (backToKw pos (keywordEach kws X.env)).any (·.1.isNone)) = false := by rfl)
    (ht : eval (.Call (.Attribute o m apos) (e :: es) kws pos) X.env = (do
      let ov ← eval o X.env
      standAt apos.atName
      let (f, first) ← holding [ov] (getMethod ov m pl)
      callWith pos f first (backTo pos (starEach (e :: es) X.env)) (backToKw pos (keywordEach kws X.env))) := by rfl) :
    PE X (.Call (.Attribute o m apos) (e :: es) kws pos) (tMethKSD C m n ks.length sp pm dvs E ta t tk) := by
  refine ⟨fun pins s σ H Q I h => ?_⟩
  refine PySem.W.methodCall_KW (pl := pl) (thn (he.run pins s σ H _ I h) fun u s1 ⟨x, H1, I1, rx, a, dx, fs, ex, ea, l, q⟩ => ?_) ht
  subst ex
  obtain rfl : u = Value.ref a := rx
  refine getmeth_ok I1 ea c hm l ?_
  refine PySem.W.callWith_KW (first := [.ref a]) (h₀ := X.base) I.ok.mod.kin hm.kp hall (thn (ha.run pos pins s1 σ H1 _ I1 q) fun us s2 ⟨vs, H2, I2, r, q2⟩ => ?_) hpl hst
  refine thn (hkw.run pos pins s2 σ H2 _ I2 q2) fun ws s3 ⟨zs, H3, I3, rz, l1, l2, q3⟩ => ⟨I3.kIn, ?_⟩
  rw [hks]
  exact run_fnKSD (us := .ref a :: us) (vs := .ref a :: vs) F hr hb hd (hx σ) I3 (.cons rfl r) rz (by rw [List.length_cons, ← r.length, l1]) (rz.length.symm.trans l2) q3
theorem pe_methKSD0 {pl : Sem Bool} (he : PE X o ta) (c : Cls X.K C) (hm : Meth X.K C m f) (F : FnOk X.prog X.w X.K X.mg X.base CX k f fd ps sp) (hr : Room k X.A) (hb : KB X.K fd ps 1 ks ds pm) (hd : Vals dvs ds) (hx : ∀ σ, PassesAt CX X σ (E σ)) (hkw : PK X kws tk)
    (hall : (backToKw pos (keywordEach kws X.env)).all (·.1.isSome) = true := by rfl) (hks : (backToKw pos (keywordEach kws X.env)).filterMap (·.1) = ks := by rfl)
    (hpl : ((backTo pos (starEach [] X.env)).any (·.1) || (backToKw pos (keywordEach kws X.env)).any (·.1.isNone)) = false := by rfl)
    (ht : eval (.Call (.Attribute o m apos) [] kws pos) X.env = (do
      let ov ← eval o X.env
      standAt apos.atName
      let (f, first) ← holding [ov] (getMethod ov m pl)
      callWith pos f first (backTo pos (starEach [] X.env)) (backToKw pos (keywordEach kws X.env))) := by rfl) :
    PE X (.Call (.Attribute o m apos) [] kws pos) (tMethKSD C m 0 ks.length sp pm dvs E ta tNil tk) := by
  refine ⟨fun pins s σ H Q I h => ?_⟩
  refine PySem.W.methodCall_KW (pl := pl) (thn (he.run pins s σ H _ I h) fun u s1 ⟨x, H1, I1, rx, a, dx, fs, ex, ea, l, q⟩ => ?_) ht
  subst ex
  obtain rfl : u = Value.ref a := rx
  refine getmeth_ok I1 ea c hm l ?_
  refine PySem.W.callWith_KW0 (first := [.ref a]) (h₀ := X.base) I.ok.mod.kin hm.kp hall ?_ hpl
  refine thn (hkw.run pos pins s1 σ H1 _ I1 q) fun ws s3 ⟨zs, H3, I3, rz, l1, l2, q3⟩ => ⟨I3.kIn, ?_⟩
  rw [hks]
  exact run_fnKSD (us := [.ref a]) (vs := [.ref a]) F hr hb hd (hx σ) I3 (.cons rfl .nil) rz rfl (rz.length.symm.trans l2) q3
end
structure MethKOk (T : Tx) (P : Program) (w : World) (mg : Str → Option Value) (base : Heap) (k : Nat) (m : Str) (c n2 : Nat) (F : Fn) (dws : List W) (np : Nat) (ks : List Str) (pm : List Nat) : Prop where
  ok : ∃ (C f : Addr) (fd : FuncData) (ps : List Str) (dvs : List V) (ds : List Value), T.ct c = some C ∧ Cls T.K C ∧ Meth T.K C m f ∧ FnOk P w T.K mg base (L2.CX P w) k f fd ps (spF T n2 F) ∧ KB T.K fd ps (np + 1) ks ds pm ∧ Dfl T dws dvs ds
  nof : m ∉ T.lay c
/-- o.m(e, .., k = v, ..): F takes the receiver, positional values, keywords' values, defaults in one row -/
def eMethK (tbl : List (Nat × (Fn × List W))) (fo fa fk : EF) : EF := fun ls G => (fo ls G).bind fun o G1 => match clsOf o G1 with
  | some c => (match tbl.lookup c with
    | some p => (fa ls G1).bind fun w G2 => asT w fun ws => (fk ls G2).bind fun z G3 => asT z fun zs => p.1 ((o :: ws) ++ zs ++ p.2) G3
    | none => .stuck)
  | none => .stuck
@[simp] theorem eMethK_e (tbl : List (Nat × (Fn × List W))) (fo fa fk : EF) (ls : Ls) (G : Gs) : eMethK tbl fo fa fk ls G = (fo ls G).bind fun o G1 => match clsOf o G1 with
  | some c => (match tbl.lookup c with
    | some p => (fa ls G1).bind fun w G2 => asT w fun ws => (fk ls G2).bind fun z G3 => asT z fun zs => p.1 ((o :: ws) ++ zs ++ p.2) G3
    | none => .stuck)
  | none => .stuck := rfl
section
variable {T : Tx} {X : Cx} {W0 : WX} {o e : Expr} {es : List Expr} {kws : List Keyword} {fo fa fk : EF} {pos apos : Pos} {m : Str} {k n2 c np : Nat} {F : Fn} {dws : List W} {ks : List Str} {pm : List Nat}
theorem methK_imp {C : Addr} {dvs : List V} {ta : TE} {t tk : TA} (hC : T.ct c = some C) (hd : ∀ m H, RWs T m H dws dvs) (hnf : m ∉ T.lay c) (ia : Imp T W0 ta fo) (it : ImpA T W0 t fa) (ik : ImpA T W0 tk fk) (hl : ∀ ls G ws G1, fa ls G = .ok (.tup ws) G1 → ws.length = np) (hk : ∀ ls G ws G1, fk ls G = .ok (.tup ws) G1 → ws.length = ks.length)
    (hp : ∀ ws : List W, ws.length = np + ks.length + dws.length + 1 → (perm pm ws).length = n2) :
    Imp T W0 (tMethKSD C m np ks.length (spF T n2 F) pm dvs (WE W0) ta t tk) (eMethK [(c, (permF pm F, dws))] fo fa fk) := by
  intro mm ls G σ H Q hG hL ho
  refine ia.go hG hL ho fun w G1 m1 v H1 k1 g1 r1 l1 o1 => ?_
  split at o1
  · rename_i c' e1
    have hlk : [(c, (permF pm F, dws))].lookup c' = if c' == c then some (permF pm F, dws) else none := by simp only [List.lookup_cons, List.lookup_nil]; split <;> rename_i h <;> simp [h]
    rw [hlk] at o1
    by_cases hcc : (c' == c) = true
    · rw [if_pos hcc] at o1
      obtain rfl := beq_iff_eq.mp hcc
      obtain ⟨a, C', dx, vs, xs, rfl, hc, h1, h2, r, l⟩ := ins_ok g1 r1 e1
      rw [hC] at hc
      cases hc
      refine ⟨a, dx, _, rfl, h1, lookup_zip_none hnf, ?_⟩
      refine it m1 ls G1 σ H1 _ g1 l1 ?_
      simp only at o1
      cases e2 : fa ls G1 with
      | stuck => rw [e2] at o1; exact o1
      | exc w G2 => rw [e2] at o1; exact o1
      | ok w2 G2 =>
        rw [e2] at o1
        cases w2 with
        | tup ws =>
          refine ⟨ws, rfl, fun m2 us H2 k2 g2 r2 => ?_⟩
          refine ik m2 ls G2 σ H2 _ g2 (l1.keep k2) ?_
          have o2 := Out.keep k2 o1
          simp only [Res.bind, asT_e1] at o2
          cases e3 : fk ls G2 with
          | stuck => rw [e3] at o2; exact o2
          | exc w G3 => rw [e3] at o2; exact o2
          | ok z G3 =>
            rw [e3] at o2
            cases z with
            | tup zs =>
              refine ⟨zs, rfl, fun m3 ys H3 k3 g3 r3 => ?_⟩
              have q1 := hl ls G1 ws G2 e2
              have q2 := hk ls G2 zs G3 e3
              refine ⟨by rw [← r2.length, q1], by rw [← r3.length, q2], ?_⟩
              exact ⟨m3, G3, perm pm ((w :: ws) ++ zs ++ dws), g3, perm_rws ((RWs.cons (r1.keep (k2.trans k3)) (r2.keep k3) |>.append r3).append (hd m3 H3)), hp _ (by simp only [List.length_append, List.length_cons]; omega), Out.wx (Out.keep k3 o2) fun _ _ _ h => h⟩
            | _ => exact False.elim o2
        | _ => exact False.elim o1
    · rw [if_neg hcc] at o1
      exact False.elim o1
  · exact False.elim o1
theorem fe_methK1 {pl : Sem Bool} (cx : Ctx T X W0) (h : FE T X W0 o fo) (M : MethKOk T X.prog X.w X.mg X.base k m c n2 F dws np ks pm) (hr : Room k X.A) (ha : FA T X W0 (e :: es) fa) (hkw : FK T X W0 kws fk) (hl : ∀ ls G ws G1, fa ls G = .ok (.tup ws) G1 → ws.length = np) (hkl : ∀ ls G ws G1, fk ls G = .ok (.tup ws) G1 → ws.length = ks.length)
    (hp : ∀ ws : List W, ws.length = np + ks.length + dws.length + 1 → (perm pm ws).length = n2) (hall : (backToKw pos (keywordEach kws X.env)).all (·.1.isSome) = true := by rfl) (hks : (backToKw pos (keywordEach kws X.env)).filterMap (·.1) = ks := by rfl)
    (hst : starEach (e :: es) X.env = (false, eval e X.env) :: starEach es X.env := by rfl) (hpl : ((backTo pos (starEach (e :: es) X.env)).any (·.1) || (backToKw pos (keywordEach kws X.env)).any (·.1.isNone)) = false := by rfl)
    (ht : eval (.Call (.Attribute o m apos) (e :: es) kws pos) X.env = (do
      let ov ← eval o X.env
      standAt apos.atName
      let (f, first) ← holding [ov] (getMethod ov m pl)
      callWith pos f first (backTo pos (starEach (e :: es) X.env)) (backToKw pos (keywordEach kws X.env))) := by rfl) :
    FE T X W0 (.Call (.Attribute o m apos) (e :: es) kws pos) (eMethK [(c, (permF pm F, dws))] fo fa fk) := by
  obtain ⟨ta, h, ia⟩ := h
  obtain ⟨t, ha, it⟩ := ha
  obtain ⟨tk, hkw, ik⟩ := hkw
  obtain ⟨C, f, fd, ps, dvs, ds, hC, hCls, hM, hF, hb, hd⟩ := M.ok
  have hK := cx.hK
  exact ⟨_, pe_methKSD (pl := pl) (E := WE W0) h (by rw [hK]; exact hCls) (by rw [hK]; exact hM) (by rw [hK]; exact hF) hr (by rw [hK]; exact hb) hd.1 (passAt cx.tk) ha hkw hall hks hst hpl ht, methK_imp hC hd.2 M.nof ia it ik hl hkl hp⟩
theorem fe_methK10 {pl : Sem Bool} (cx : Ctx T X W0) (h : FE T X W0 o fo) (M : MethKOk T X.prog X.w X.mg X.base k m c n2 F dws 0 ks pm) (hr : Room k X.A) (hkw : FK T X W0 kws fk) (hkl : ∀ ls G ws G1, fk ls G = .ok (.tup ws) G1 → ws.length = ks.length)
    (hp : ∀ ws : List W, ws.length = 0 + ks.length + dws.length + 1 → (perm pm ws).length = n2) (hall : (backToKw pos (keywordEach kws X.env)).all (·.1.isSome) = true := by rfl) (hks : (backToKw pos (keywordEach kws X.env)).filterMap (·.1) = ks := by rfl)
    (hpl : ((backTo pos (starEach [] X.env)).any (·.1) || (backToKw pos (keywordEach kws X.env)).any (·.1.isNone)) = false := by rfl)
    (ht : eval (.Call (.Attribute o m apos) [] kws pos) X.env = (do
      let ov ← eval o X.env
      standAt apos.atName
      let (f, first) ← holding [ov] (getMethod ov m pl)
      callWith pos f first (backTo pos (starEach [] X.env)) (backToKw pos (keywordEach kws X.env))) := by rfl) :
    FE T X W0 (.Call (.Attribute o m apos) [] kws pos) (eMethK [(c, (permF pm F, dws))] fo aNil fk) := by
  obtain ⟨ta, h, ia⟩ := h
  obtain ⟨t, ha, it⟩ := (fa_nil : FA T X W0 [] aNil)
  obtain ⟨tk, hkw, ik⟩ := hkw
  obtain ⟨C, f, fd, ps, dvs, ds, hC, hCls, hM, hF, hb, hd⟩ := M.ok
  have hK := cx.hK
  refine ⟨_, pe_methKSD0 (pl := pl) (E := WE W0) h (by rw [hK]; exact hCls) (by rw [hK]; exact hM) (by rw [hK]; exact hF) hr (by rw [hK]; exact hb) hd.1 (passAt cx.tk) hkw hall hks hpl ht, methK_imp hC hd.2 M.nof ia (fun m ls G σ H Q hG hL ho => ?_) ik al0 hkl hp⟩
  obtain ⟨ws, ew, q⟩ := ho
  cases ew
  exact q m [] H (.refl _ _) hG .nil
theorem fe_methKT {tbl : List (Nat × (Fn × List W))} {E : Expr} (h : ∀ p ∈ tbl, FE T X W0 E (eMethK [p] fo fa fk)) (hne : tbl ≠ []) : FE T X W0 E (eMethK tbl fo fa fk) := by
  refine ⟨_, pe_ex (ι := {p // p ∈ tbl}) fun p => (Classical.choose_spec (h p.1 p.2)).1, fun mm ls G σ H Q hG hL ho => ?_⟩
  have go : ∀ p (hp : p ∈ tbl), eMethK tbl fo fa fk ls G = eMethK [p] fo fa fk ls G → ∃ i : {p // p ∈ tbl}, Classical.choose (h i.1 i.2) σ H Q := fun p hp he => ⟨⟨p, hp⟩, (Classical.choose_spec (h p hp)).2 mm ls G σ H Q hG hL (by rw [← he]; exact ho)⟩
  cases e1 : fo ls G with
  | stuck => rw [eMethK_e, e1] at ho; exact False.elim ho
  | exc w G1 =>
    obtain ⟨p, hp⟩ := List.exists_mem_of_ne_nil tbl hne
    exact go p hp (by rw [eMethK_e, eMethK_e, e1]; rfl)
  | ok w G1 =>
    rw [eMethK_e, e1] at ho
    simp only [Res.bind] at ho
    split at ho
    · rename_i c e2
      split at ho
      · rename_i p e3
        refine go (c, p) (lookup_mem e3) ?_
        rw [eMethK_e, eMethK_e, e1]
        simp only [Res.bind, e2, e3]
        have : [(c, p)].lookup c = some p := by simp
        rw [this]
      · exact False.elim ho
    · exact False.elim ho
end
end U

/-! instances called; class constants; tables row by row -/
namespace U
open PySem
open PySem.Spec
open PyProof.Rows
open L2
section
variable {X : Cx} {CX : CXT} {k n : Nat} {g C : Addr} {fd : FuncData} {ps ks : List Str} {sp : Sp} {E : L2.St → XK} {pos : Pos} {fe e : Expr} {es : List Expr} {kws : List Keyword} {tf : TE} {t tk : TA} {pm : List Nat} {dvs : List V} {ds : List Value}
/-- the callee's code runs -/
theorem code_fnKSD {pins : List (Addr × Obj)} {σ : L2.St} {H : Hp} {s : Shared} {Q : VK} {us ws : List Value} {vs zs : List V} (FO : FnOk X.prog X.w X.K X.mg X.base CX k g fd ps sp) (hr : Room k X.A) (hb : KB X.K fd ps n ks ds pm) (hd : Vals dvs ds) (hx : PassesAt CX X σ (E σ))
    (I : Inv X pins σ H s) (r : Vals vs us) (rz : Vals zs ws) (l1 : us.length = n) (l2 : ws.length = ks.length) (h : sp (perm pm (vs ++ zs ++ dvs)) H Q (E σ)) :
    codeAny (model X.prog X.w) X.A (.call (.ref g) ⟨us, ks.zip ws⟩) (fun r s' => match r with | .ok (.ret v) => EP X pins σ Q v s' | .ok _ => False | .error e => X.xe e s') s := by
  refine codeAny_mono (FO.run X.A X.stack s H ⟨us, ks.zip ws⟩ _ _ Q (E σ) hr I.env0 (hb s us ws I.kIn l1 l2) (perm_vals ((r.append rz).append hd)) h) fun r s' hq => ?_
  cases r with
  | error e => exact hx pins H s e s' I hq
  | ok fl =>
    cases fl with
    | ret u => exact I.after hq
    | next => exact False.elim hq
    | brk => exact False.elim hq
    | cont => exact False.elim hq
def tCallOSD (X : Cx) (C : Addr) (n : Nat) (sp : Sp) (pm : List Nat) (dvs : List V) (E : L2.St → XK) (tf : TE) (t : TA) : TE := fun σ H Q => tf σ H fun y H1 => ∃ a, y = V.ref a ∧ t σ H1 fun vs H2 => StX.InsC X H2 a C ∧ vs.length = n ∧ sp (perm pm ((V.ref a :: vs) ++ [] ++ dvs)) H2 Q (E σ)
theorem pe_callOSD (hf : PE X fe tf) (c : StX.CallO X.K C g) (F : FnOk X.prog X.w X.K X.mg X.base CX k g fd ps sp) (hr : Room k X.A) (hb : KB X.K fd ps (n + 1) [] ds pm) (hd : Vals dvs ds) (hx : ∀ σ, PassesAt CX X σ (E σ)) (ha : PA X (e :: es) t)
    (ht : eval (.Call fe (e :: es) [] pos) X.env = (do callWith pos (← eval fe X.env) [] (backTo pos (starEach (e :: es) X.env)) (backToKw pos (keywordEach [] X.env))) := by rfl)
    (he : starEach (e :: es) X.env = (false, eval e X.env) :: starEach es X.env := by rfl) (hpl : (backTo pos (starEach es X.env)).any (·.1) = false := by rfl) : PE X (.Call fe (e :: es) [] pos) (tCallOSD X C n sp pm dvs E tf t) := by
  refine ⟨fun pins s σ H Q I h => ?_⟩
  refine Call_ (thn (hf.run pins s σ H _ I h) fun u s1 ⟨y, H1, I1, ry, a, ey, q⟩ => ?_) ht
  subst ey
  obtain rfl : u = Value.ref a := ry
  refine StX.callO_with (thn (ha.run pos pins s1 σ H1 _ I1 q) fun us s2 ⟨vs, H2, I2, r, hi, ln, q2⟩ => ?_) he hpl
  obtain ⟨ox, od, J, hdd⟩ := StX.insC_at I2 hi
  refine ⟨⟨C, ox, od, J, hdd⟩, wpAny_call (PySem.W.kco_code I2.kIn J hdd c.at_ c.fn c.fi ?_)⟩
  exact code_fnKSD (us := .ref a :: us) (ws := []) (vs := .ref a :: vs) (zs := []) F hr hb hd (hx σ) I2 (.cons rfl r) .nil (by rw [List.length_cons, ← r.length, ln]) rfl q2
end
structure CallOk (T : Tx) (P : Program) (w : World) (mg : Str → Option Value) (base : Heap) (k c n2 : Nat) (F : Fn) (dws : List W) (np : Nat) (pm : List Nat) : Prop where
  ok : ∃ (C f : Addr) (fd : FuncData) (ps : List Str) (dvs : List V) (ds : List Value), T.ct c = some C ∧ StX.CallO T.K C f ∧ FnOk P w T.K mg base (L2.CX P w) k f fd ps (spF T n2 F) ∧ KB T.K fd ps (np + 1) [] ds pm ∧ Dfl T dws dvs ds
/-- f(args), f an instance -/
def eCallO (tbl : List (Nat × (Fn × List W))) (ff fa : EF) : EF := fun ls G => (ff ls G).bind fun o G1 => match clsOf o G1 with
  | some c => (match tbl.lookup c with
    | some p => (fa ls G1).bind fun w G2 => asT w fun ws => if clsOf o G2 = some c then p.1 ((o :: ws) ++ [] ++ p.2) G2 else .stuck
    | none => .stuck)
  | none => .stuck
@[simp] theorem eCallO_e (tbl : List (Nat × (Fn × List W))) (ff fa : EF) (ls : Ls) (G : Gs) : eCallO tbl ff fa ls G = (ff ls G).bind fun o G1 => match clsOf o G1 with
  | some c => (match tbl.lookup c with
    | some p => (fa ls G1).bind fun w G2 => asT w fun ws => if clsOf o G2 = some c then p.1 ((o :: ws) ++ [] ++ p.2) G2 else .stuck
    | none => .stuck)
  | none => .stuck := rfl
section
variable {T : Tx} {X : Cx} {W0 : WX} {fe e : Expr} {es : List Expr} {ff fa : EF} {pos : Pos} {k n2 c np : Nat} {F : Fn} {dws : List W} {pm : List Nat}
theorem fe_callO1 (cx : Ctx T X W0) (h : FE T X W0 fe ff) (M : CallOk T X.prog X.w X.mg X.base k c n2 F dws np pm) (hr : Room k X.A) (ha : FA T X W0 (e :: es) fa) (hl : ∀ ls G ws G1, fa ls G = .ok (.tup ws) G1 → ws.length = np) (hp : ∀ ws : List W, ws.length = np + dws.length + 1 → (perm pm ws).length = n2)
    (ht : eval (.Call fe (e :: es) [] pos) X.env = (do callWith pos (← eval fe X.env) [] (backTo pos (starEach (e :: es) X.env)) (backToKw pos (keywordEach [] X.env))) := by rfl)
    (he : starEach (e :: es) X.env = (false, eval e X.env) :: starEach es X.env := by rfl) (hpl : (backTo pos (starEach es X.env)).any (·.1) = false := by rfl) : FE T X W0 (.Call fe (e :: es) [] pos) (eCallO [(c, (permF pm F, dws))] ff fa) := by
  obtain ⟨tf, h, ia⟩ := h
  obtain ⟨t, ha, it⟩ := ha
  obtain ⟨C, f, fd, ps, dvs, ds, hC, hCall, hF, hb, hd⟩ := M.ok
  have hK := cx.hK
  refine ⟨_, pe_callOSD (n := np) (E := WE W0) h (by rw [hK]; exact hCall) (by rw [hK]; exact hF) hr (by rw [hK]; exact hb) hd.1 (passAt cx.tk) ha ht he hpl, fun mm ls G σ H Q hG hL ho => ?_⟩
  rw [eCallO_e] at ho
  refine ia.go hG hL ho fun w G1 m1 v H1 k1 g1 r1 l1 o1 => ?_
  split at o1
  · rename_i c' e1
    have hlk : [(c, (permF pm F, dws))].lookup c' = if c' == c then some (permF pm F, dws) else none := by simp only [List.lookup_cons, List.lookup_nil]; split <;> rename_i h <;> simp [h]
    rw [hlk] at o1
    by_cases hcc : (c' == c) = true
    · rw [if_pos hcc] at o1
      obtain rfl := beq_iff_eq.mp hcc
      obtain ⟨a, C', dx, vs, xs, rfl, hc, h1, h2, r, l⟩ := ins_ok g1 r1 e1
      refine ⟨a, rfl, ?_⟩
      refine it m1 ls G1 σ H1 _ g1 l1 ?_
      simp only at o1
      cases e2 : fa ls G1 with
      | stuck => rw [e2] at o1; exact o1
      | exc w G2 => rw [e2] at o1; exact o1
      | ok w2 G2 =>
        rw [e2] at o1
        cases w2 with
        | tup ws =>
          refine ⟨ws, rfl, fun m2 us H2 k2 g2 r2 => ?_⟩
          simp only [Res.bind, asT_e1] at o1
          split at o1
          · rename_i e3
            obtain ⟨a2, C2, dx2, vs2, xs2, ea, hc2, h12, _, _, _⟩ := ins_ok g2 (r1.keep k2) e3
            cases ea
            rw [hC] at hc2
            cases hc2
            refine ⟨.inr ⟨dx2, _, h12⟩, by rw [← r2.length, hl ls G1 ws G2 e2], ?_⟩
            exact ⟨m2, G2, perm pm ((w :: ws) ++ [] ++ dws), g2, perm_rws ((RWs.cons (r1.keep k2) r2 |>.append .nil).append (hd.2 m2 H2)), hp _ (by have := hl ls G1 ws G2 e2; simp only [List.length_append, List.length_cons, List.length_nil]; omega), Out.wx (Out.keep k2 o1) fun _ _ _ h => h⟩
          · exact False.elim o1
        | _ => exact False.elim o1
    · rw [if_neg hcc] at o1
      exact False.elim o1
  · exact False.elim o1
theorem fe_callOT {tbl : List (Nat × (Fn × List W))} {E : Expr} (h : ∀ p ∈ tbl, FE T X W0 E (eCallO [p] ff fa)) (hne : tbl ≠ []) : FE T X W0 E (eCallO tbl ff fa) := by
  refine ⟨_, pe_ex (ι := {p // p ∈ tbl}) fun p => (Classical.choose_spec (h p.1 p.2)).1, fun mm ls G σ H Q hG hL ho => ?_⟩
  have go : ∀ p (hp : p ∈ tbl), eCallO tbl ff fa ls G = eCallO [p] ff fa ls G → ∃ i : {p // p ∈ tbl}, Classical.choose (h i.1 i.2) σ H Q := fun p hp he => ⟨⟨p, hp⟩, (Classical.choose_spec (h p hp)).2 mm ls G σ H Q hG hL (by rw [← he]; exact ho)⟩
  cases e1 : ff ls G with
  | stuck => rw [eCallO_e, e1] at ho; exact False.elim ho
  | exc w G1 =>
    obtain ⟨p, hp⟩ := List.exists_mem_of_ne_nil tbl hne
    exact go p hp (by rw [eCallO_e, eCallO_e, e1]; rfl)
  | ok w G1 =>
    rw [eCallO_e, e1] at ho
    simp only [Res.bind] at ho
    split at ho
    · rename_i c e2
      split at ho
      · rename_i p e3
        refine go (c, p) (lookup_mem e3) ?_
        rw [eCallO_e, eCallO_e, e1]
        simp only [Res.bind, e2, e3]
        have : [(c, p)].lookup c = some p := by simp
        rw [this]
      · exact False.elim ho
    · exact False.elim ho
end
/-! ### a constant of the class -/
structure ConOk (T : Tx) (a : Str) (c : Nat) (w : W) : Prop where
  ok : ∀ C, T.ct c = some C → Cls T.K C ∧ ∃ v u, Con T.K C a v u ∧ ∀ m H, RW T m H w v
  nof : a ∉ T.lay c
def eCon (tbl : List (Nat × W)) (fo : EF) : EF := fun ls G => (fo ls G).bind fun o G1 => match clsOf o G1 with
  | some c => (match tbl.lookup c with
    | some w => .ok w G1
    | none => .stuck)
  | none => .stuck
@[simp] theorem eCon_e (tbl : List (Nat × W)) (fo : EF) (ls : Ls) (G : Gs) : eCon tbl fo ls G = (fo ls G).bind fun o G1 => match clsOf o G1 with
  | some c => (match tbl.lookup c with
    | some w => .ok w G1
    | none => .stuck)
  | none => .stuck := rfl
section
variable {T : Tx} {X : Cx} {W0 : WX} {o : Expr} {fo : EF} {pos : Pos}
theorem fe_con (c : Ctx T X W0) (h : FE T X W0 o fo) {a : Str} {tbl : List (Nat × W)} (ht : ∀ p ∈ tbl, ConOk T a p.1 p.2) (hb : attributeBase o a X.env (eval o X.env) = eval o X.env := by rfl) : FE T X W0 (.Attribute o a pos) (eCon tbl fo) := by
  obtain ⟨t, h, i⟩ := h
  refine ⟨_, pe_con h hb, fun m ls G σ H Q hG hL ho => ?_⟩
  refine i.go hG hL ho fun w G1 m1 v H1 k1 g1 r1 l1 o1 => ?_
  split at o1
  · rename_i cc e1
    obtain ⟨ad, C, dx, vs, xs', rfl, hc, h1, h2, r, l⟩ := ins_ok g1 r1 e1
    split at o1
    · rename_i w' ej
      have F := ht _ (lookup_mem ej)
      obtain ⟨hC, v, u, hcon, hrw⟩ := F.ok C hc
      exact ⟨ad, C, dx, _, v, u, rfl, h1, by rw [c.hK]; exact hC, by rw [c.hK]; exact hcon, lookup_zip_none F.nof, o1.now g1 (hrw m1 H1)⟩
    · exact False.elim o1
  · exact False.elim o1
end
theorem hl_m {fa : EF} {n d m : Nat} (h : ∀ ls G ws G1, fa ls G = .ok (.tup ws) G1 → ws.length = n) (e : n + 1 + d = m) : ∀ ls G ws G1, fa ls G = .ok (.tup ws) G1 → ws.length + 1 + d = m := fun ls G ws G1 q => by rw [h ls G ws G1 q]; exact e
/-! ### row by row -/
theorem row_nil {α : Type} {p : α → Prop} : ∀ x ∈ ([] : List α), p x := fun _ h => absurd h List.not_mem_nil
theorem row_cons {α : Type} {p : α → Prop} {a : α} {l : List α} (h : p a) (t : ∀ x ∈ l, p x) : ∀ x ∈ a :: l, p x := fun x hx => by
  rcases List.mem_cons.mp hx with rfl | hx
  · exact h
  · exact t x hx
end U

/-! defaults: how the values come to the parameters -/
namespace U
open PySem
open L2
section
variable {K : PySem.W.Frag} {x qual : Str} {params : Arguments} {body : List Stmt} {scope : Scope} {dvs : List V} {kws ms : List (Str × V)} {f : Addr} {fd : FuncData} {ps ks : List Str} {n : Nat} {p : List Nat}
/-- defaults and keyword-only defaults -/
theorem kb_both (F : FunD K x qual params body scope dvs kws f fd) (hd : dvs ≠ []) (hk : kws ≠ []) (hms : ∀ q ∈ ms, q ∈ kws)
    (h : ∀ (T D : Addr) (doc pm : Value) (an : Option Addr) (cdv ct : Value) (us its mv ws : List Value), us.length = n → its.length = dvs.length → mv.length = ms.length → ws.length = ks.length →
      ∃ k, bindArgs (PySem.W.fnOf x qual params body scope (.ref T) (.ref D) doc pm an cdv ct) ⟨us, ks.zip ws⟩ = seqItems? (.ref T) >>= k ∧ KwChain D ((ms.map (·.1)).zip mv) (k (some its.toArray)) (ps.zip (perm p (us ++ ws ++ (its ++ mv))))) :
    ∃ ds : List Value, Vals (dvs ++ ms.map (·.2)) ds ∧ KB K fd ps n ks ds p := by
  obtain ⟨oc, od, dV, kV, doc, pm, an, cdv, ct, osl, rfl, lk, hcd, hD, hK⟩ := F.ex
  rcases hD with ⟨e, _⟩ | ⟨_, T, o, its, m, rfl, lT, oT, rT⟩
  · exact absurd e hd
  · rcases hK with e | ⟨D, rfl, hq⟩
    · exact absurd e hk
    · obtain ⟨mv, hl, rk, hks⟩ := kwd_vals (ms := ms) fun q hm => hq q (hms q hm)
      refine ⟨its ++ mv, rT.append rk, fun s us ws X l1 l2 => ?_⟩
      obtain ⟨k, e1, e2⟩ := h T D doc pm an cdv ct us its mv ws l1 rT.length.symm hl l2
      refine BindsTo.of_looks fun M => ?_
      rw [e1]
      exact looks_items X lT oT (KwChain.looks X hks e2)
/-- defaults alone -/
theorem kb_dfl (F : FunD K x qual params body scope dvs kws f fd) (hd : dvs ≠ [])
    (h : ∀ (T : Addr) (kV doc pm : Value) (an : Option Addr) (cdv ct : Value) (us its ws : List Value), us.length = n → its.length = dvs.length → ws.length = ks.length →
      ∃ k, bindArgs (PySem.W.fnOf x qual params body scope (.ref T) kV doc pm an cdv ct) ⟨us, ks.zip ws⟩ = seqItems? (.ref T) >>= k ∧ k (some its.toArray) = pure (ps.zip (perm p (us ++ ws ++ its)))) :
    ∃ ds : List Value, Vals dvs ds ∧ KB K fd ps n ks ds p := by
  obtain ⟨oc, od, dV, kV, doc, pm, an, cdv, ct, osl, rfl, lk, hcd, hD, hK⟩ := F.ex
  rcases hD with ⟨e, _⟩ | ⟨_, T, o, its, m, rfl, lT, oT, rT⟩
  · exact absurd e hd
  · refine ⟨its, rT, fun s us ws X l1 l2 => ?_⟩
    obtain ⟨k, e1, e2⟩ := h T kV doc pm an cdv ct us its ws l1 rT.length.symm l2
    refine BindsTo.of_looks fun M => ?_
    rw [e1]
    exact looks_items X lT oT (.of_pure e2)
/-- keyword-only defaults alone -/
theorem kb_kwd (F : FunD K x qual params body scope [] kws f fd) (hk : kws ≠ []) (hms : ∀ q ∈ ms, q ∈ kws)
    (h : ∀ (D : Addr) (doc pm : Value) (an : Option Addr) (cdv ct : Value) (us mv ws : List Value), us.length = n → mv.length = ms.length → ws.length = ks.length →
      KwChain D ((ms.map (·.1)).zip mv) (bindArgs (PySem.W.fnOf x qual params body scope .none (.ref D) doc pm an cdv ct) ⟨us, ks.zip ws⟩) (ps.zip (perm p (us ++ ws ++ mv)))) :
    ∃ ds : List Value, Vals (ms.map (·.2)) ds ∧ KB K fd ps n ks ds p := by
  obtain ⟨oc, od, dV, kV, doc, pm, an, cdv, ct, osl, rfl, lk, hcd, hD, hK⟩ := F.ex
  rcases hD with ⟨_, rfl⟩ | ⟨e, _⟩
  · rcases hK with e | ⟨D, rfl, hq⟩
    · exact absurd e hk
    · obtain ⟨mv, hl, rk, hks⟩ := kwd_vals (ms := ms) fun q hm => hq q (hms q hm)
      exact ⟨mv, rk, fun s us ws X l1 l2 => BindsTo.of_looks fun M => KwChain.looks X hks (h D doc pm an cdv ct us mv ws l1 hl l2)⟩
  · exact absurd rfl e
end
/-! ### a def with defaults, by its body -/
section
variable {P : Program} {w : World} {mg : Str → Option Value} {base : Heap} {T : Tx}
theorem fn_defD {x qual : Str} {st : Stmt} {dvs : List V} {kws : List (Str × V)} {f : Addr} {fd : FuncData} {N ps : List Str} {k n : Nat} {g : SF} (F : FunD T.K x qual (defArgs st) (defBody st) (defScope st) dvs kws f fd) (S : FnScope N ps (defScope st)) (hn : ps.length = n)
    (hbody : ∀ (cdv : Value) (A : Around) (outer : List Env) (s : Shared) (H : Hp) (E : XK), Room k (A.deeper (PyProof.Rows.envOfC qual (defScope st) s.heap.objs.size f cdv)) → Ctx T (cxOf (L2.CX P w) P w T.K mg base N qual (defScope st) f cdv A outer s H E) (fun c d _ H => E c d H) →
      FSs T (cxOf (L2.CX P w) P w T.K mg base N qual (defScope st) f cdv A outer s H E) (fun c d _ H => E c d H) (defBody st) g) : FnOk P w T.K mg base (L2.CX P w) (k + 1) f fd ps (spF T n (mkFn n N.length g)) := by
  refine F.ok S (fun vs H Q E h => ?_) (fun cdv A outer s H vs Q E hr h => ?_)
  · obtain ⟨m, G, ws, _, r, hl, _⟩ := h
    rw [← r.length, hl, hn]
  · obtain ⟨m, G, ws, hG, r, hl, ho⟩ := h
    obtain ⟨t, ht, it⟩ := hbody cdv A outer s H E hr ⟨takes_of rfl rfl rfl rfl, passes_of rfl, rfl, S.nd, hr.units, rfl⟩
    refine ⟨t, ht, it m (ws.map some ++ List.replicate (N.length - n) none) G (L2.start N vs) H _ hG (by rw [← hl]; exact rl_start r) ?_⟩
    simp only [mkFn, if_pos hl] at ho
    cases e : g (ws.map some ++ List.replicate (N.length - n) none) G with
    | nx ls G' => rw [e] at ho; exact fun m' σ' H' k' g' l' => ho m' _ H' k' g' .non
    | rt w G' => rw [e] at ho; exact ho
    | exc w ls G' => rw [e] at ho; exact fun m' σ' c d H' k' g' l' r' => ho m' c d H' k' g' r'
    | bk _ _ => rw [e] at ho; exact False.elim ho
    | ct _ _ => rw [e] at ho; exact False.elim ho
    | stuck => rw [e] at ho; exact False.elim ho
end
end U

/-! super().m(..) in a plain class: a def with the cell __class__, its body told at the place where it runs -/
namespace U
open PySem PySem.Spec PyProof.Rows
open L2

/-- the judgements at the place: the code that runs is the body bd -/
structure PEA (X : Cx) (bd : List Stmt) (e : Expr) (t : TE) : Prop where
  run : ∀ (pins : List (Addr × Obj)) (s : Shared) (σ : L2.St) (H : Hp) (Q : VK), Inv X pins σ H s → t σ H Q → PySem.wpAt (model X.prog X.w) X.A (.func bd X.env) (eval e X.env) (EP X pins σ Q) X.xe s
structure PSsA (X : Cx) (bd : List Stmt) (st : List Stmt) (t : TS) : Prop where
  run : ∀ (pins : List (Addr × Obj)) (s : Shared) (σ : L2.St) (H : Hp) (D : Ends), Inv X pins σ H s → t D σ H → PySem.wpAt (model X.prog X.w) X.A (.func bd X.env) (execs st X.env) (SP X pins D) X.xe s
theorem PE.at_ {X : Cx} {bd : List Stmt} {e : Expr} {t : TE} (h : PE X e t) : PEA X bd e t := ⟨fun pins s σ H Q I q => PySem.wpAt_of_wpAny (h.run pins s σ H Q I q)⟩
theorem PSs.at_ {X : Cx} {bd st : List Stmt} {t : TS} (h : PSs X st t) : PSsA X bd st t := ⟨fun pins s σ H D I q => PySem.wpAt_of_wpAny (h.run pins s σ H D I q)⟩
section
variable {X : Cx} {bd : List Stmt} {e e₂ : Expr} {rest : List Expr} {st : List Stmt} {pos pos' : Pos} {t ta tb : TE} {u : TS}
/-- return e -/
theorem pa_ret (h : PEA X bd e t) : PSsA X bd [.Return (some e) pos] (fun D σ H => t σ H D.rt) := by
  refine ⟨fun pins s σ H D I q => ?_⟩
  refine ks_wpAt_execs_cons (ks_wpAt_Return_some ?_)
  exact ks_wpAt_mono (h.run pins s σ H D.rt I q) (fun v s' ⟨x, H', I', r, q'⟩ => ⟨x, σ, H', I', r, q'⟩) fun _ _ z => z
/-- x = e, then the rest -/
theorem pa_set {i : Nat} {x : Str} (hnd : X.N.Nodup) (hi : X.N[i]? = some x) (hx : Loc X.env.scope x) (h : PEA X bd e t) (hr : PSs X st u) (hs : swapsWith e (some (.Name x pos')) pos.line X.env = pure false)
    (hf : X.fn x = true ∨ X.env.scope.names.lookup x = some .local) : PSsA X bd (.Assign [.Name x pos'] e pos :: st) (fun D σ H => t σ H fun v H1 => u D (σ.set i (some v)) H1) := by
  refine ⟨fun pins s σ H D I q => ?_⟩
  refine ks_wpAt_execs_cons (ks_wpAt_Assign_Name ?_ hs)
  refine ks_wpAt_mono (h.run pins s σ H _ I q) (fun v s1 ⟨y, H1, I1, r1, q1⟩ => ?_) fun _ _ z => z
  exact store_ok I1 hnd hi hx r1 (fun s2 I2 => PySem.wpAt_of_wpAny (hr.run pins s2 _ H1 D I2 q1)) hf
/-- e and .. -/
theorem pa_and (ha : PEA X bd e ta) (hb : PE X (.BoolOp .And (e₂ :: rest) pos) tb) : PEA X bd (.BoolOp .And (e :: e₂ :: rest) pos) (tAndV ta tb) := by
  refine ⟨fun pins s σ H Q I h => ?_⟩
  show PySem.wpAt (model X.prog X.w) X.A (.func bd X.env) (do
    let v ← eval e X.env
    standAt pos
    let c ← holding [v] (truthy v)
    match BoolOp.And, c with
    | .And, false | .Or, true => pure v
    | _, _ => boolOp pos .And (eval e₂ X.env :: evalEach rest X.env)) _ _ s
  refine PySem.wpAt_bind (PySem.wpAt_mono (ha.run pins s σ H _ I h) (fun v s1 ⟨x, H1, I1, r1, c, ex, q1⟩ => ?_) fun _ _ z => z)
  subst ex
  cases r1
  refine PySem.wpAt_of_wpAny (wpAny_bind (wpAny_standAt (wpAny_bind (wpAny_holding (wpAny_truthy_bool ?_)))))
  cases c with
  | true => exact hb.run pins s1 σ H1 Q I1 q1
  | false => exact wpAny_pure ⟨.bl false, H1, I1, rfl, q1⟩
end

/-! ### super().m(e, ..) -/
/-- what the def's own text and record must show: its class's cell at cc, the class at D -/
structure SupAt (X : Cx) (D cc f : Addr) (slf : Str) : Prop where
  ks : X.env.kindOf "super" = some .globalImplicit
  kc : X.env.kindOf "__class__" = some .free
  fu : X.env.func = some f
  cell : X.env.cells.lookup ("__class__" : Str) = some cc
  fd : ∃ oc od fd osl ar, X.K.lookup f = some ⟨oc, od, .func fd, osl⟩ ∧ (fd.params.posonlyargs ++ fd.params.args).head? = some ar ∧ ar.arg = slf
  code : ∃ cda ccl cdd vs ccs file tf, X.env.code = .ref cda ∧ X.K.lookup cda = some ⟨ccl, cdd, .fields vs, ccs⟩ ∧ vs[2]? = some (.str file tf) ∧ ((X.prog.main.file : Str) == file) = true
  ccl : ∃ cl cld csl, X.K.lookup cc = some ⟨cl, cld, .cell (some (.ref D)), csl⟩
  cls : ∃ cdD, W.clsIn X.K D = some cdD
  top : (X.prog.main.scope.names.lookup ("super" : Str)).isSome = false
  mg : X.mg "super" = none
  self : X.N[0]? = some slf
  loc : X.env.scope.names.lookup slf = some .local
/-- the class C of self, the method found behind D -/
structure SupM (K : PySem.W.Frag) (C D : Addr) (m : Str) (g : Addr) : Prop where
  sub : W.mroIn K C (.ref D) = some true
  at_ : W.ks_superIn K C D m = some (some (.ref g))
  ty : W.typeIn K (.ref g) = some (.type "function")
  fi : W.fnIn K g = true
  op : W.nsIn K cStatics "thirdparty.any" = some none
  nm : (m == ("__class__" : Str)) = false
def tSup (C : Addr) (sp : Sp) (dvs : List V) (E : L2.St → XK) (t : TA) : TE := fun σ H Q => ∃ a dx fs, σ[0]? = some (some (.ref a)) ∧ H a = some (.ins C dx fs) ∧ t σ H fun vs H1 => sp (.ref a :: (vs ++ dvs)) H1 Q (E σ)
section
variable {X : Cx} {CX : CXT} {bd : List Stmt} {k : Nat} {C D cc f g : Addr} {slf m : Str} {fd : FuncData} {ps : List Str} {sp : Sp} {dvs : List V} {ds : List Value} {E : L2.St → XK} {e : Expr} {es : List Expr} {t : TA} {p0 p1 apos pos : Pos}
theorem code_fnSD {pins : List (Addr × Obj)} {σ : L2.St} {H : Hp} {s : Shared} {Q : VK} {us : List Value} {vs : List V} (FO : FnOk X.prog X.w X.K X.mg X.base CX k g fd ps sp) (hr : Room k X.A) (hb : Binds X.K fd ps ds) (hd : Vals dvs ds) (hx : PassesAt CX X σ (E σ))
    (I : Inv X pins σ H s) (r : Vals vs us) (h : sp (vs ++ dvs) H Q (E σ)) :
    codeAny (model X.prog X.w) X.A (.call (.ref g) ⟨us, []⟩) (fun r s' => match r with | .ok (.ret v) => EP X pins σ Q v s' | .ok _ => False | .error e => X.xe e s') s := by
  have r2 := r.append hd
  have hl : (us ++ ds).length = ps.length := by
    have e := r2.length
    rw [FO.len _ _ _ _ h] at e
    exact e.symm
  refine codeAny_mono (FO.run X.A X.stack s H ⟨us, []⟩ (us ++ ds) _ Q (E σ) hr I.env0 (hb s us I.kIn hl) r2 h) fun r s' hq => ?_
  cases r with
  | error e => exact hx pins H s e s' I hq
  | ok fl =>
    cases fl with
    | ret u => exact I.after hq
    | next => exact False.elim hq
    | brk => exact False.elim hq
    | cont => exact False.elim hq
theorem pe_sup {pl : Sem Bool} (S : SupAt X D cc f slf) (M : SupM X.K C D m g) (F : FnOk X.prog X.w X.K X.mg X.base CX k g fd ps sp) (hr : Room k X.A) (hb : Binds X.K fd ps ds) (hd : Vals dvs ds) (hx : ∀ σ, PassesAt CX X σ (E σ)) (ha : PA X (e :: es) t)
    (hst : starEach (e :: es) X.env = (false, eval e X.env) :: starEach es X.env := by rfl) (hpl : (backTo pos (starEach es X.env)).any (·.1) = false := by rfl)
    (he : eval (.Call (.Attribute (.Call (.Name "super" p0) [] [] p1) m apos) (e :: es) [] pos) X.env = (do
      let ov ← attributeBase (.Call (.Name "super" p0) [] [] p1) m X.env (eval (.Call (.Name "super" p0) [] [] p1) X.env)
      standAt apos.atName
      let (f, first) ← holding [ov] (getMethod ov m pl)
      callWith pos f first (backTo pos (starEach (e :: es) X.env)) []) := by rfl) :
    PEA X bd (.Call (.Attribute (.Call (.Name "super" p0) [] [] p1) m apos) (e :: es) [] pos) (tSup C sp dvs E t) := by
  refine ⟨fun pins s σ H Q I h => ?_⟩
  obtain ⟨a, dx, fs, hσ, hH, h⟩ := h
  have KX := I.kIn
  obtain ⟨oc, od, fdd, osl, ar, lf, hp, ear⟩ := S.fd
  obtain ⟨cda, ccl, cdd, vs, ccs, file, tf, ecode, lcode, hvs, hfile⟩ := S.code
  obtain ⟨cl, cld, csl, lcell⟩ := S.ccl
  obtain ⟨cdD, hD⟩ := S.cls
  obtain ⟨mb, hb1, hb2⟩ := I.mod.blt
  refine ks_wpAt_MethodCall (pl := pl) ?_ he
  refine ks_wpAt_super_base S.ks S.kc M.nm S.fu (KX _ _ lf) rfl hp ecode (KX _ _ lcode) rfl hvs hfile S.top ?_
  refine W.ks_loadName_global I.ok.kind S.ks (Calls.loadGlobal_builtin (by rw [I.ok.glob]; exact I.mod.glob.keeps I.bk) S.mg (by rw [I.ok.blt]; exact hb1.keeps I.bk) ((hb2 _ (by decide +kernel)).trans (by decide +kernel : bootBuiltins "super" = some (.type "super"))) ⟨rfl, ?_⟩)
  refine wpAny_loadName_free I.ok.kind S.kc S.cell ⟨_, KX _ _ lcell, rfl⟩ ?_
  obtain ⟨mm, hns, hl⟩ := I.loc
  obtain ⟨u, ru, lk⟩ := hl 0 slf _ S.self hσ (.inl S.loc)
  obtain rfl : u = Value.ref a := ru
  have hm : mm slf = some (.ref a) := by
    rcases lk with ⟨_, q⟩ | ⟨q, _⟩
    · exact q
    · have q : X.env.scope.names.lookup slf = some .cell ∨ X.env.scope.names.lookup slf = some .free := q
      rw [S.loc] at q
      rcases q with q | q <;> cases q
  subst ear
  refine wpAny_loadName_local I.ok.kind S.loc hns hm ?_
  obtain ⟨oD, hD1, hD2⟩ : ∃ oD, s.heap.get? D = some oD ∧ oD.data = .cls cdD := by
    unfold W.clsIn at hD
    split at hD
    · rename_i c d cd' sl ho
      cases hD
      exact ⟨_, KX _ _ ho, rfl⟩
    · cases hD
  obtain ⟨ox, odx, J, hpl'⟩ := StX.insC_at I (.inr ⟨dx, fs, hH⟩ : StX.InsC X H a C)
  obtain ⟨hh, gg, dd, tt, os⟩ := s
  refine ks_wpAny_isType_cls hD1 hD2 ⟨rfl, ?_⟩
  refine ks_wpAny_call_super hD1 hD2 J.at_ J.cls (fun c e => ?_) (W.looks_mroIn KX M.sub) (fun h' e1 k1 => ?_)
  · rw [hpl'] at e
    cases e
  have I1 : Inv X ((hh.objs.size, W.ks_superObj D a C) :: pins) σ H ⟨h', gg, dd, tt, os⟩ := ClX.pin_new (t' := tt) I (fun b o z => k1 b o z) (Nat.le_refl _) e1 (fun v z => nomatch z)
  have KX1 := I1.kIn
  obtain ⟨of, hof, hofc⟩ : ∃ of, h'.get? g = some of ∧ of.cls = .type "function" := by
    have ht' : (X.K.lookup g).map (·.cls) = some (.type "function") := M.ty
    cases z : X.K.lookup g with
    | none => rw [z] at ht'; cases ht'
    | some of => rw [z] at ht'; exact ⟨of, KX1 _ _ z, Option.some.inj ht'⟩
  obtain ⟨ox1, odx1, J1, _⟩ := StX.insC_at I1 (.inr ⟨dx, fs, hH⟩ : StX.InsC X H a C)
  cases hcC : W.clsIn X.K C with
  | none =>
    have := M.at_
    unfold W.ks_superIn at this
    rw [hcC] at this
    cases this
  | some cd =>
    have hal := M.at_
    unfold W.ks_superIn at hal
    rw [hcC] at hal
    refine ks_wpAny_getMethod_super e1 (W.looks_opaque KX1 M.op) (l₀ := cd.mro) ?_ rfl KX1 hal hof hofc (W.ks_ne KX1 J1 hcC) M.nm ?_
    · exact fun A Q E s k q => wpAny_bind ((W.looks_clsIn KX1 hcC) A _ E s k (wpAny_pure q))
    have I2 := ClX.met_new (g := g) (C := a) I1
    refine ClX.callwith_cm (C := a) I2 (ClX.base_none I1 (Nat.le_refl _)) M.fi (thn (ha.run pos _ _ σ H _ I2 h) fun us s3 ⟨ws, H2, I3, rv, q2⟩ => ⟨⟨ClX.pin_at I3, I3.kIn⟩, ?_⟩) hst hpl
    have z := wpAny_call (W.method_call (ClX.pin_at I3) (code_fnSD (us := .ref a :: us) (vs := .ref a :: ws) F hr hb hd (hx σ) I3 (.cons rfl rv) q2))
    exact thn z fun _ _ y => ClX.unpinE (ClX.unpinE y)
end

/-! ### a def with the cell __class__, by its body -/
structure SupScope (N P : List Str) (sc : Scope) : Prop where
  kind : sc.kind = .function
  co : sc.isCoroutine = false
  gen : sc.isGenerator = false
  nd : N.Nodup
  pre : N.take P.length = P
  par : ∀ x ∈ P, sc.names.lookup x = some .local
  fr : ∀ y ∈ sc.names, y.2 = .free → y.1 = ("__class__" : Str)
  nc : ∀ y ∈ sc.names, y.2 ≠ .cell
abbrev envS (qual : Str) (scope : Scope) (L f : Addr) (cd : Value) (cc : Addr) : Env := W.ksEnv qual scope L f cd cc
def cxS (CX : CXT) (P : Program) (w : World) (K : PySem.W.Frag) (mg : Str → Option Value) (base : Heap) (N : List Str) (qual : Str) (scope : Scope) (f : Addr) (cd : Value) (cc : Addr) (A : Around) (outer : List Env) (s : Shared) (H : Hp) (E : XK) : Cx where
  prog := P
  w := w
  K := K
  mg := mg
  base := base
  A := A.deeper (envS qual scope s.heap.objs.size f cd cc)
  N := N
  s_0 := s
  H_0 := H
  env := envS qual scope s.heap.objs.size f cd cc
  outer := outer
  stack := envS qual scope s.heap.objs.size f cd cc :: outer
  ex := []
  calm := true
  fn := fun _ => false
  pn := []
  xe := fun e s' => wpAny (model P w) (A.deeper (envS qual scope s.heap.objs.size f cd cc)) (leaving (envS qual scope s.heap.objs.size f cd cc) e) (fun _ s'' => CX outer H s E e s'') (fun e' s'' => CX outer H s E e' s'') s'
theorem lookup_out {α : Type} {x : Str} : ∀ {l : List (Str × α)}, (∀ v, (x, v) ∉ l) → l.lookup x = none
  | [], _ => rfl
  | (n, v) :: r, h => by
    have hn : (x == n) = false := by
      rw [beq_eq_false_iff_ne]
      rintro rfl
      exact h v List.mem_cons_self
    rw [List.lookup_cons, hn]
    exact lookup_out fun w q => h w (List.mem_cons_of_mem _ q)
theorem lookup_app {α : Type} {x : Str} : ∀ {l r : List (Str × α)}, (l ++ r).lookup x = (l.lookup x).or (r.lookup x)
  | [], _ => rfl
  | (n, v) :: l, r => by
    rw [List.cons_append, List.lookup_cons, List.lookup_cons]
    cases x == n with
    | true => rfl
    | false => exact lookup_app
theorem revz_get {x : Str} {v : Value} : ∀ {P : List Str} {vs : List Value} {i : Nat}, P.Nodup → P[i]? = some x → vs[i]? = some v → (P.zip vs).reverse.lookup x = some v
  | [], _, _, _, h, _ => by simp at h
  | _ :: _, [], _, _, _, h => by simp at h
  | p :: P, u :: vs, 0, nd, h1, h2 => by
    simp at h1 h2
    subst h1; subst h2
    rw [List.zip_cons_cons, List.reverse_cons, lookup_app, lookup_out fun v q => (List.nodup_cons.mp nd).1 (List.of_mem_zip (List.mem_reverse.mp q)).1]
    simp
  | p :: P, u :: vs, i + 1, nd, h1, h2 => by
    rw [List.zip_cons_cons, List.reverse_cons, lookup_app, revz_get (i := i) (List.nodup_cons.mp nd).2 (by simpa using h1) (by simpa using h2)]
    rfl
theorem inv_startS {CX : CXT} {P : Program} {w : World} {K : PySem.W.Frag} {mg : Str → Option Value} {base : Heap} {N ps : List Str} {qual : Str} {scope : Scope} {f cc : Addr} {cd : Value} {A : Around} {outer : List Env} {s : Shared} {H : Hp} {E : XK} {us : List Value} {vs : List V} {h₀ : Heap} {tk : Nat} {cl cv : Value} {cld : Option Addr} {csl : Array (Option Value)}
    (S : SupScope N ps scope) (hd : A.handled = none) (e0 : Env0 P w K mg base A outer s H) (hl : vs.length = ps.length) (r : Vals vs us) (lc : K.lookup cc = some ⟨cl, cld, .cell (some cv), csl⟩)
    (hn : h₀.Ns s.heap.objs.size fun x => (ps.zip us).reverse.lookup x) (hk : ∀ b o, s.heap.get? b = some o → h₀.get? b = some o) :
    Inv (cxS CX P w K mg base N qual scope f cd cc A outer s H E) [] (start N vs) H { s with heap := h₀, toks := tk } := by
  have hpl : ps.length ≤ N.length := by have := congrArg List.length S.pre; rw [List.length_take] at this; omega
  have noA : ∀ b : Addr, b ∉ (cxS CX P w K mg base N qual scope f cd cc A outer s H E).ex := fun b z => absurd (show b ∈ ([] : List Addr) from z) (by simp)
  have lk : ∀ {y : Str} {c : Addr}, (cxS CX P w K mg base N qual scope f cd cc A outer s H E).env.cells.lookup y = some c → y = "__class__" ∧ c = cc := fun {y c} h => by
    have h : ([(("__class__" : Str), cc)]).lookup y = some c := h
    rw [List.lookup_cons] at h
    split at h
    · rename_i e
      cases h
      exact ⟨beq_iff_eq.mp e, rfl⟩
    · cases h
  have bcc : base.get? cc = some ⟨cl, cld, .cell (some cv), csl⟩ := e0.mod.kin _ _ lc
  refine ⟨⟨e0.mod, S.kind, rfl, rfl, Nat.le_refl _, fun y z c h1 h2 => ?_, fun y hy => ?_, fun y c h _ => ?_, fun _ => hd, Around.frames_deeper e0.frames, .inr ⟨rfl, rfl⟩, fun b z => absurd z (noA b), e0.bs, e0.bsz, fun b _ _ => noA b, fun b z => absurd z (noA b), e0.funs, e0.frf⟩,
    rfl, e0.bare, Un.kept hk, ⟨_, hn, fun i y v h1 h2 h3 => ?_⟩, fun y c h => ?_, e0.hok.fresh (Nat.le_refl _), fun y c h => ?_, fun p hp => absurd (show p ∈ ([] : List (Addr × Obj)) from hp) (by simp), e0.hok.kept hk, ?_⟩
  · rw [(lk h1).1, (lk h2).1]
  · have hy : scope.names.lookup y = some .cell ∨ scope.names.lookup y = some .free := hy
    rcases hy with hy | hy
    · exact absurd rfl (S.nc _ (PySem.mem_of_lookup hy))
    · have e := S.fr _ (PySem.mem_of_lookup hy) rfl
      have e : y = "__class__" := e
      subst e
      exact ⟨cc, by show ([(("__class__" : Str), cc)]).lookup ("__class__" : Str) = some cc; rw [List.lookup_cons]; rfl⟩
  · exact absurd h (by show ¬ (false = true); simp)
  · have hi : i < vs.length := by
      unfold L2.start at h2
      by_cases hi : i < vs.length
      · exact hi
      · rw [List.getElem?_append_right (by simpa using hi)] at h2
        rw [List.getElem?_replicate] at h2
        split at h2 <;> cases h2
    have ha : vs[i]? = some v := by
      unfold L2.start at h2
      rw [List.getElem?_append_left (by simpa using hi), List.getElem?_map] at h2
      cases e : vs[i]? with
      | none => rw [e] at h2; cases h2
      | some a => rw [e] at h2; cases h2; rfl
    obtain ⟨u, hu, rv⟩ := r.get ha
    have hp : ps[i]? = some y := by
      rw [← S.pre, List.getElem?_take_of_lt (by omega)]; exact h1
    have ndP : ps.Nodup := by rw [← S.pre]; exact S.nd.sublist (List.take_sublist _ _)
    exact ⟨u, rv, .inl ⟨S.par y (List.mem_of_getElem? hp), revz_get ndP hp hu⟩⟩
  · obtain ⟨rfl, rfl⟩ := lk h
    exact ⟨_, _, hk _ _ (e0.bs _ _ bcc).1, rfl⟩
  · obtain ⟨rfl, rfl⟩ := lk h
    exact (e0.bs _ _ bcc).2
  · unfold L2.start
    show _ = N.length
    rw [List.length_append, List.length_map, List.length_replicate]
    omega
theorem fn_ofS {CX : CXT} {P : Program} {w : World} {K : PySem.W.Frag} {mg : Str → Option Value} {base : Heap} {k : Nat} {f cc : Addr} {name qual : Str} {params : Arguments} {body : List Stmt} {scope : Scope} {dV kV doc pm cdv ct oc cl cv : Value} {an od cld : Option Addr}
    {osl csl : Array (Option Value)} {N ps : List Str} {sp : Sp} (lk : K.lookup f = some ⟨oc, od, .func (W.ksFn name qual params body scope dV kV doc pm an cdv ct cc), osl⟩) (lc : K.lookup cc = some ⟨cl, cld, .cell (some cv), csl⟩) (hcd : PySem.W.codeIn K cdv qual = true) (S : SupScope N ps scope)
    (len : ∀ vs H Q E, sp vs H Q E → vs.length = ps.length)
    (hbody : ∀ (A : Around) (outer : List Env) (s : Shared) (H : Hp) (vs : List V) (Q : VK) (E : XK), Room k (A.deeper (envS qual scope s.heap.objs.size f cdv cc)) → sp vs H Q E →
      ∃ t, PSsA (cxS CX P w K mg base N qual scope f cdv cc A outer s H E) body body t ∧ t { nx := fun _ H' => Q .non H', rt := Q } (start N vs) H) :
    FnOk P w K mg base CX (k + 1) f (W.ksFn name qual params body scope dV kV doc pm an cdv ct cc) ps sp := by
  refine ⟨len, fun A outer s H args us vs Q E hr e0 hb r hsp => ?_⟩
  have hl := len _ _ _ _ hsp
  have KX : K.In s.heap := e0.mod.kin.keeps fun b o e => (e0.bs b o e).1
  have lim : s.heap.NoLimit := e0.mod.nolimit.keeps fun b o e => (e0.bs b o e).1
  refine ks_codeAny_call_defAt hr.depth (KX _ _ lk) rfl lim (PySem.W.codeRec_of KX hcd) rfl hb (fun x hx => S.nc x hx) (fun y hy => S.par y.1 (List.of_mem_zip hy).1) (fun h₀ hns hk => ?_) S.co S.gen S.kind
  obtain ⟨t, ht, hq⟩ := hbody A outer s H vs Q E (hr.deeper _) hsp
  have I : Inv (cxS CX P w K mg base N qual scope f cdv cc A outer s H E) [] (start N vs) H { s with heap := h₀, toks := s.toks + (ps.zip us).length } := inv_startS S hr.hd e0 hl r lc hns hk
  refine ks_wpAt_mono (ht.run [] _ (start N vs) H _ I hq) (fun fl s' hs => ?_) fun e s' hs => hs
  have fin : ∀ {σ' : L2.St} {H' : Hp} {v : V} {u : Value}, Inv (cxS CX P w K mg base N qual scope f cdv cc A outer s H E) [] σ' H' s' → RelV v u → Q v H' → CE outer P w H s Q u s' :=
    fun {σ' H' v u} J rv q => ⟨v, H', J.os, J.bare, J.base, J.hok, rv, q⟩
  cases fl with
  | ret u =>
    obtain ⟨v, σ', H', J, rv, q⟩ := hs
    exact fin J rv q
  | next =>
    obtain ⟨σ', H', J, q⟩ := hs
    exact fin (v := V.non) (u := Value.none) J rfl q
  | brk =>
    obtain ⟨_, _, _, q⟩ := hs
    exact False.elim q
  | cont =>
    obtain ⟨_, _, _, q⟩ := hs
    exact False.elim q

/-! ### the layer -/
def FEA (T : Tx) (X : Cx) (W0 : WX) (bd : List Stmt) (e : Expr) (f : EF) : Prop := ∃ t, PEA X bd e t ∧ Imp T W0 t f
def FSsA (T : Tx) (X : Cx) (W0 : WX) (bd st : List Stmt) (g : SF) : Prop := ∃ t, PSsA X bd st t ∧ ImpS T W0 t g
section
variable {T : Tx} {X : Cx} {W0 : WX} {bd : List Stmt} {e e₂ : Expr} {rest : List Expr} {st : List Stmt} {f fb : EF} {g : SF} {pos pos' : Pos}
theorem ffa_ret (h : FEA T X W0 bd e f) : FSsA T X W0 bd [.Return (some e) pos] (sRet f) := by
  obtain ⟨t, h, i⟩ := h
  refine ⟨_, pa_ret h, fun m ls G σ H D hG hL ho => ?_⟩
  exact i.goS hG hL ho fun w G1 m1 v H1 k1 g1 r1 l1 o1 => o1 m1 v H1 (.refl _ _) g1 r1
theorem ffa_set (i : Nat) {x : Str} (c : Ctx T X W0) (h : FEA T X W0 bd e f) (hr : FSs T X W0 st g) (hs : swapsWith e (some (.Name x pos')) pos.line X.env = pure false := by rfl) (hi : X.N[i]? = some x := by rfl) (hx : Loc X.env.scope x := by first | exact Or.inl rfl | exact Or.inr rfl) (hf : X.fn x = true ∨ X.env.scope.names.lookup x = some .local := by first | exact .inl rfl | exact .inr rfl) :
    FSsA T X W0 bd (.Assign [.Name x pos'] e pos :: st) (sSeq (sAsg f (gN i)) g) := by
  obtain ⟨t, h, it⟩ := h
  obtain ⟨u, hr, iu⟩ := hr
  refine ⟨_, pa_set c.nd hi hx h hr hs hf, fun m ls G σ H D hG hL ho => ?_⟩
  simp only [sSeq, sAsg] at ho
  have q : (Res.sbind (f ls G) ls fun w G1 => gN i w ls G1).seq g = Res.sbind (f ls G) ls fun w G1 => g (ls.set i (some w)) G1 := by
    cases f ls G <;> rfl
  rw [q] at ho
  exact it.goS hG hL ho fun w G1 m1 v H1 k1 g1 r1 l1 o1 => iu m1 _ G1 _ H1 D g1 (l1.set i r1) o1
theorem ffa_and (ha : FEA T X W0 bd e f) (hb : FE T X W0 (.BoolOp .And (e₂ :: rest) pos) fb) : FEA T X W0 bd (.BoolOp .And (e :: e₂ :: rest) pos) (eAnd f fb) := by
  obtain ⟨t, h, ia⟩ := ha
  obtain ⟨u, hb, ib⟩ := hb
  refine ⟨_, pa_and h hb, fun m ls G σ H Q hG hL ho => ?_⟩
  refine ia.go hG hL ho fun w G1 m1 v H1 k1 g1 r1 l1 o1 => ?_
  cases r1 with
  | bl b =>
    refine ⟨b, rfl, ?_⟩
    cases b with
    | true => exact ib m1 ls G1 σ H1 Q g1 l1 o1
    | false => exact o1 m1 _ H1 (.refl _ _) g1 (.bl false)
  | _ => exact False.elim o1
end
/-- the method found behind the class at D, as a def of the layer -/
structure SupOk (T : Tx) (P : Program) (w : World) (mg : Str → Option Value) (base : Heap) (k : Nat) (m : Str) (c n : Nat) (D : Addr) (F : Fn) : Prop where
  ok : ∃ (C g : Addr) (fd : FuncData) (ps : List Str), T.ct c = some C ∧ SupM T.K C D m g ∧ FnOk P w T.K mg base (L2.CX P w) k g fd ps (spF T n F) ∧ Binds T.K fd ps []
def eSup (c : Nat) (F : Fn) (fa : EF) : EF := fun ls G => match lget ls 0 with
  | some o => if clsOf o G = some c then (fa ls G).bind fun w G2 => asT w fun ws => F (o :: ws) G2 else .stuck
  | none => .stuck
@[simp] theorem eSup_e (c : Nat) (F : Fn) (fa : EF) (ls : Ls) (G : Gs) : eSup c F fa ls G = match lget ls 0 with
  | some o => if clsOf o G = some c then (fa ls G).bind fun w G2 => asT w fun ws => F (o :: ws) G2 else .stuck
  | none => .stuck := rfl
section
variable {T : Tx} {X : Cx} {W0 : WX} {bd : List Stmt} {e : Expr} {es : List Expr} {fa : EF} {k n c : Nat} {D cc f : Addr} {F : Fn} {m slf : Str} {p0 p1 apos pos : Pos}
theorem ffa_sup {pl : Sem Bool} (cx : Ctx T X W0) (S : SupAt X D cc f slf) (M : SupOk T X.prog X.w X.mg X.base k m c n D F) (hr : Room k X.A) (ha : FA T X W0 (e :: es) fa) (hl : ∀ ls G ws G1, fa ls G = .ok (.tup ws) G1 → ws.length + 1 = n)
    (hst : starEach (e :: es) X.env = (false, eval e X.env) :: starEach es X.env := by rfl) (hpl : (backTo pos (starEach es X.env)).any (·.1) = false := by rfl)
    (he : eval (.Call (.Attribute (.Call (.Name "super" p0) [] [] p1) m apos) (e :: es) [] pos) X.env = (do
      let ov ← attributeBase (.Call (.Name "super" p0) [] [] p1) m X.env (eval (.Call (.Name "super" p0) [] [] p1) X.env)
      standAt apos.atName
      let (f, first) ← holding [ov] (getMethod ov m pl)
      callWith pos f first (backTo pos (starEach (e :: es) X.env)) []) := by rfl) :
    FEA T X W0 bd (.Call (.Attribute (.Call (.Name "super" p0) [] [] p1) m apos) (e :: es) [] pos) (eSup c F fa) := by
  obtain ⟨t, ha, it⟩ := ha
  obtain ⟨C, g, fd, ps, hC, hM, hF, hb⟩ := M.ok
  have hK := cx.hK
  refine ⟨_, pe_sup (pl := pl) (E := WE W0) S (by rw [hK]; exact hM) (by rw [hK]; exact hF) hr (by rw [hK]; exact hb) .nil (passAt cx.tk) ha hst hpl he, fun mm ls G σ H Q hG hL ho => ?_⟩
  rw [eSup_e] at ho
  split at ho
  · rename_i o eo
    split at ho
    · rename_i ec
      obtain ⟨v, hv, rv⟩ := hL.at_ 0 o (lget_some eo)
      obtain ⟨a, C', dx, vs, xs, rfl, hc, h1, h2, r, l⟩ := ins_ok hG rv ec
      rw [hC] at hc
      cases hc
      refine ⟨a, dx, _, hv, h1, ?_⟩
      refine it mm ls G σ H _ hG hL ?_
      cases e2 : fa ls G with
      | stuck => rw [e2] at ho; exact ho
      | exc w G2 => rw [e2] at ho; exact ho
      | ok w2 G2 =>
        rw [e2] at ho
        cases w2 with
        | tup ws =>
          refine ⟨ws, rfl, fun m2 us H2 k2 g2 r2 => ?_⟩
          refine ⟨m2, G2, o :: ws, g2, .cons (rv.keep k2) (by rw [List.append_nil]; exact r2), ?_, Out.wx (Out.keep k2 ho) fun _ _ _ h => h⟩
          rw [List.length_cons]
          exact hl ls G ws G2 e2
        | _ => exact False.elim ho
    · exact False.elim ho
  · exact False.elim ho
end
/-- the record of a def with the cell __class__ -/
structure FunS (K : PySem.W.Frag) (P : Program) (x qual : Str) (st : Stmt) (f cc D : Addr) (fd : FuncData) : Prop where
  ex : ∃ (oc : Value) (od : Option Addr) (dV kV doc pm : Value) (an : Option Addr) (cdv ct : Value) (osl : Array (Option Value)),
    fd = W.ksFn x qual (defArgs st) (defBody st) (defScope st) dV kV doc pm an cdv ct cc ∧ K.lookup f = some ⟨oc, od, .func fd, osl⟩ ∧ PySem.W.codeIn K cdv qual = true ∧
    ∃ cda ccl cdd vs ccs file tf, cdv = .ref cda ∧ K.lookup cda = some ⟨ccl, cdd, .fields vs, ccs⟩ ∧ vs[2]? = some (.str file tf) ∧ ((P.main.file : Str) == file) = true
  cell : ∃ cl cld csl, K.lookup cc = some ⟨cl, cld, .cell (some (.ref D)), csl⟩
section
variable {P : Program} {w : World} {mg : Str → Option Value} {base : Heap} {T : Tx}
theorem fn_defS {x qual : Str} {st : Stmt} {f cc D : Addr} {fd : FuncData} {N ps : List Str} {k n : Nat} {g : SF} {slf : Str} {ar : Arg} (F : FunS T.K P x qual st f cc D fd) (S : SupScope N ps (defScope st)) (hn : ps.length = n)
    (hcls : ∃ cdD, W.clsIn T.K D = some cdD) (htop : (P.main.scope.names.lookup ("super" : Str)).isSome = false) (hmg : mg "super" = none)
    (hks : (defScope st).names.lookup ("super" : Str) = some .globalImplicit) (hkc : (defScope st).names.lookup ("__class__" : Str) = some .free) (hp : ((defArgs st).posonlyargs ++ (defArgs st).args).head? = some ar) (har : ar.arg = slf) (hN : N[0]? = some slf) (hself : (defScope st).names.lookup slf = some .local)
    (hbody : ∀ (cdv : Value) (A : Around) (outer : List Env) (s : Shared) (H : Hp) (E : XK), Room k (A.deeper (envS qual (defScope st) s.heap.objs.size f cdv cc)) → Ctx T (cxS (L2.CX P w) P w T.K mg base N qual (defScope st) f cdv cc A outer s H E) (fun c d _ H => E c d H) → SupAt (cxS (L2.CX P w) P w T.K mg base N qual (defScope st) f cdv cc A outer s H E) D cc f slf →
      FSsA T (cxS (L2.CX P w) P w T.K mg base N qual (defScope st) f cdv cc A outer s H E) (fun c d _ H => E c d H) (defBody st) (defBody st) g) : FnOk P w T.K mg base (L2.CX P w) (k + 1) f fd ps (spF T n (mkFn n N.length g)) := by
  obtain ⟨oc, od, dV, kV, doc, pm, an, cdv, ct, osl, rfl, lk, hcd, hcode⟩ := F.ex
  obtain ⟨cl, cld, csl, lc⟩ := F.cell
  refine fn_ofS lk lc hcd S (fun vs H Q E h => ?_) (fun A outer s H vs Q E hr h => ?_)
  · obtain ⟨m, G, ws, _, r, hl, _⟩ := h
    rw [← r.length, hl, hn]
  · obtain ⟨m, G, ws, hG, r, hl, ho⟩ := h
    obtain ⟨t, ht, it⟩ := hbody cdv A outer s H E hr ⟨takes_of rfl rfl rfl rfl, passes_of rfl, rfl, S.nd, hr.units, rfl⟩
      ⟨hks, hkc, rfl, by show ([(("__class__" : Str), cc)]).lookup ("__class__" : Str) = some cc; rw [List.lookup_cons]; rfl, ⟨oc, od, _, osl, ar, lk, hp, har⟩, hcode, ⟨cl, cld, csl, lc⟩, hcls, htop, hmg, hN, hself⟩
    refine ⟨t, ht, it m (ws.map some ++ List.replicate (N.length - n) none) G (L2.start N vs) H _ hG (by rw [← hl]; exact rl_start r) ?_⟩
    simp only [mkFn, if_pos hl] at ho
    cases e : g (ws.map some ++ List.replicate (N.length - n) none) G with
    | nx ls G' => rw [e] at ho; exact fun m' σ' H' k' g' l' => ho m' _ H' k' g' .non
    | rt w G' => rw [e] at ho; exact ho
    | exc w ls G' => rw [e] at ho; exact fun m' σ' c d H' k' g' l' r' => ho m' c d H' k' g' r'
    | bk _ _ => rw [e] at ho; exact False.elim ho
    | ct _ _ => rw [e] at ho; exact False.elim ho
    | stuck => rw [e] at ho; exact False.elim ho
end
end U

/-! dicts: keys numbers and texts, or tuples of them that begin with a number -/
namespace U
open PySem PySem.Spec PyProof.Rows
open L2

/-! ### keys, tables -/
def fEq : W → W → Bool
  | .int i, .int j => i == j
  | .str s, .str t => s == t
  | _, _ => false
def fEqs : List W → List W → Bool
  | [], [] => true
  | a :: r, b :: q => fEq a b && fEqs r q
  | _, _ => false
def kEq : W → W → Bool
  | .tup a, .tup b => fEqs a b
  | a, b => fEq a b
@[simp] theorem fEq_i (i j : Int) : fEq (.int i) (.int j) = (i == j) := rfl
@[simp] theorem fEq_s (i j : List Nat) : fEq (.str i) (.str j) = (i == j) := rfl
@[simp] theorem fEqs_n : fEqs [] [] = true := rfl
@[simp] theorem fEqs_c (a b : W) (r q : List W) : fEqs (a :: r) (b :: q) = (fEq a b && fEqs r q) := rfl
@[simp] theorem fEqs_nc (b : W) (q : List W) : fEqs [] (b :: q) = false := rfl
@[simp] theorem fEqs_cn (b : W) (q : List W) : fEqs (b :: q) [] = false := rfl
@[simp] theorem kEq_i (i j : Int) : kEq (.int i) (.int j) = (i == j) := rfl
@[simp] theorem kEq_s (i j : List Nat) : kEq (.str i) (.str j) = (i == j) := rfl
@[simp] theorem kEq_t (a b : List W) : kEq (.tup a) (.tup b) = fEqs a b := rfl
def fKey : W → Option Key
  | .int i => some (.inl i)
  | .str s => some (.inr ⟨s.toArray⟩)
  | _ => none
def fKeys : List W → Option (List Key)
  | [] => some []
  | w :: r => match fKey w, fKeys r with
    | some k, some ks => some (k :: ks)
    | _, _ => none
def tKey : W → Option (List Key)
  | .tup (.int i :: r) => (fKeys r).map fun ks => .inl i :: ks
  | _ => none
def isFK : W → Bool
  | .int _ => true
  | .str _ => true
  | _ => false
def isTK : W → Bool
  | .tup (.int _ :: r) => r.all isFK
  | _ => false
@[simp] theorem isFK_i (i : Int) : isFK (.int i) = true := rfl
@[simp] theorem isFK_s (i : List Nat) : isFK (.str i) = true := rfl
@[simp] theorem isFK_t (i : List W) : isFK (.tup i) = false := rfl
@[simp] theorem isTK_i (i : Int) : isTK (.int i) = false := rfl
@[simp] theorem isTK_s (i : List Nat) : isTK (.str i) = false := rfl
@[simp] theorem isTK_t (i : Int) (r : List W) : isTK (.tup (.int i :: r)) = r.all isFK := rfl
@[simp] theorem dFlat_n : dFlat [] = true := rfl
@[simp] theorem dFlat_i (i : Int) (v : W) (r : List W) : dFlat (.tup [.int i, v] :: r) = true := rfl
@[simp] theorem dFlat_s (i : List Nat) (v : W) (r : List W) : dFlat (.tup [.str i, v] :: r) = true := rfl
@[simp] theorem dFlat_t (i : List W) (v : W) (r : List W) : dFlat (.tup [.tup i, v] :: r) = false := rfl
theorem fKey_of {w : W} (h : isFK w = true) : ∃ k, fKey w = some k := by
  cases w <;> first | exact ⟨_, rfl⟩ | cases h
theorem fKeys_of : ∀ {r : List W}, r.all isFK = true → ∃ ks, fKeys r = some ks
  | [], _ => ⟨[], rfl⟩
  | w :: r, h => by
    rw [List.all_cons, Bool.and_eq_true] at h
    obtain ⟨k, e1⟩ := fKey_of h.1
    obtain ⟨ks, e2⟩ := fKeys_of h.2
    exact ⟨k :: ks, by simp only [fKeys, e1, e2]⟩
theorem tKey_of {w : W} (h : isTK w = true) : ∃ i r ks, w = .tup (.int i :: r) ∧ fKeys r = some ks ∧ tKey w = some (.inl i :: ks) := by
  unfold isTK at h
  split at h
  · rename_i i r
    obtain ⟨ks, e⟩ := fKeys_of h
    exact ⟨i, r, ks, rfl, e, by simp only [tKey, e]; rfl⟩
  · cases h
/-- what the table holds at the key -/
def dGet : List W → W → Option W
  | .tup [k, v] :: r, x => if kEq k x then some v else dGet r x
  | _ :: r, x => dGet r x
  | [], _ => none
@[simp] theorem dGet_n (x : W) : dGet [] x = none := rfl
@[simp] theorem dGet_c (k v : W) (r : List W) (x : W) : dGet (.tup [k, v] :: r) x = if kEq k x then some v else dGet r x := rfl
def rplD (k v : W) : W → W
  | .tup [j, u] => if kEq j k then .tup [j, v] else .tup [j, u]
  | e => e
@[simp] theorem rplD_c (k v j u : W) : rplD k v (.tup [j, u]) = if kEq j k then .tup [j, v] else .tup [j, u] := rfl
def dHas (es : List W) (k : W) : Bool := (dGet es k).isSome
def dPut (es : List W) (k v : W) : List W := if dHas es k then es.map (rplD k v) else es ++ [.tup [k, v]]
/-- the key may be asked of the table -/
def dkOk (k : W) (es : List W) : Bool := (isFK k && dFlat es) || (isTK k && (es.isEmpty || !dFlat es))
def dKeys : List W → List W
  | .tup [k, _] :: r => k :: dKeys r
  | _ :: r => dKeys r
  | [] => []
@[simp] theorem dKeys_n : dKeys [] = [] := rfl
@[simp] theorem dKeys_c (k v : W) (r : List W) : dKeys (.tup [k, v] :: r) = k :: dKeys r := rfl

section
variable {T : Tx} {m : Mm} {H : Hp}
theorem fEq_k {a : W} {k : Key} (h : fKey a = some k) (j : Key) : fEq (kW j) a = decide (j = k) := by
  cases a with
  | int i =>
    cases h
    cases j with
    | inl j =>
      show (j == i) = decide (Sum.inl j = Sum.inl i)
      rw [Bool.eq_iff_iff]; simp
    | inr s =>
      show false = decide (Sum.inr s = Sum.inl i)
      simp
  | str i =>
    cases h
    cases j with
    | inl j =>
      show false = decide (Sum.inl j = Sum.inr _)
      simp
    | inr s =>
      show (s.cps.toList == i) = decide (Sum.inr s = Sum.inr _)
      rw [Bool.eq_iff_iff]
      simp only [beq_iff_eq, decide_eq_true_eq, Sum.inr.injEq]
      constructor
      · intro e; subst e; simp
      · intro e; subst e; simp
  | _ => cases h
theorem fEqs_k : ∀ {r : List W} {ks : List Key}, fKeys r = some ks → ∀ js : List Key, fEqs (js.map kW) r = decide (js = ks)
  | [], _, h, [] => by cases h; rfl
  | [], _, h, _ :: _ => by cases h; rfl
  | w :: r, ks, h, js => by
    simp only [fKeys] at h
    split at h
    · rename_i k ks' e1 e2
      cases h
      cases js with
      | nil => rfl
      | cons j js =>
        rw [List.map_cons, fEqs_c, fEq_k e1, fEqs_k e2]
        rw [Bool.eq_iff_iff]; simp
    · cases h
theorem kEq_f {a : W} {k : Key} (h : fKey a = some k) (j : Key) : kEq (kW j) a = decide (j = k) := by
  rw [← fEq_k h]
  cases j <;> cases a <;> first | rfl | cases h
theorem kEq_tk {a : W} {ks : List Key} (h : tKey a = some ks) (js : List Key) : kEq (.tup (js.map kW)) a = decide (js = ks) := by
  unfold tKey at h
  split at h
  · rename_i i r
    cases e : fKeys r with
    | none => rw [e] at h; cases h
    | some ks' =>
      rw [e] at h
      cases h
      rw [kEq_t]
      refine fEqs_k (r := .int i :: r) ?_ js
      simp only [fKeys, fKey, e]
  · cases h
theorem RWe.cI {k : Key} {w : W} {v : V} {ws : List W} {vs : List (Key × V)} (r : RW T m H w v) (t : RWe T m H ws vs) : RWe T m H (.tup [kW k, w] :: ws) ((k, v) :: vs) := by
  cases k with
  | inl i => exact .consI r t
  | inr s => exact .consS (k := s.cps.toList) r t
/-- how a table of flat keys begins -/
theorem RWe.inv {e : W} {ws : List W} {kvs : List (Key × V)} (r : RWe T m H (e :: ws) kvs) : ∃ k w v vs, e = .tup [kW k, w] ∧ kvs = (k, v) :: vs ∧ RW T m H w v ∧ RWe T m H ws vs := by
  cases r with
  | consI r t => exact ⟨_, _, _, _, rfl, rfl, r, t⟩
  | @consS s _ _ _ _ r t => exact ⟨.inr ⟨s.toArray⟩, _, _, _, by show _ = W.tup [.str s.toArray.toList, _]; simp, rfl, r, t⟩
theorem RWt.inv {e : W} {ws : List W} {kvs : List (List Key × V)} (r : RWt T m H (e :: ws) kvs) : ∃ k w v vs, e = .tup [.tup (k.map kW), w] ∧ kvs = (k, v) :: vs ∧ RW T m H w v ∧ RWt T m H ws vs := by
  cases r with
  | cons r t => exact ⟨_, _, _, _, rfl, rfl, r, t⟩
theorem RWe.get {a : W} {k : Key} (hk : fKey a = some k) : ∀ {es : List W} {kvs : List (Key × V)}, RWe T m H es kvs → match dGet es a with
    | some x => ∃ y, valV kvs k = some y ∧ RW T m H x y
    | none => valV kvs k = none
  | [], _, r => by cases r; rfl
  | e :: ws, kvs, r => by
    obtain ⟨j, w, v, vs, rfl, rfl, r1, r2⟩ := r.inv
    rw [dGet_c, kEq_f hk]
    by_cases q : j = k
    · rw [if_pos (by simpa using q)]
      exact ⟨v, valV_pos q, r1⟩
    · rw [if_neg (by simpa using q), valV_neg q]
      exact RWe.get hk r2
theorem RWt.get {a : W} {k : List Key} (hk : tKey a = some k) : ∀ {es : List W} {kvs : List (List Key × V)}, RWt T m H es kvs → match dGet es a with
    | some x => ∃ y, valV kvs k = some y ∧ RW T m H x y
    | none => valV kvs k = none
  | [], _, r => by cases r; rfl
  | e :: ws, kvs, r => by
    obtain ⟨j, w, v, vs, rfl, rfl, r1, r2⟩ := r.inv
    rw [dGet_c, kEq_tk hk]
    by_cases q : j = k
    · rw [if_pos (by simpa using q)]
      exact ⟨v, valV_pos q, r1⟩
    · rw [if_neg (by simpa using q), valV_neg q]
      exact RWt.get hk r2
theorem RWe.has {a : W} {k : Key} (hk : fKey a = some k) {es : List W} {kvs : List (Key × V)} (r : RWe T m H es kvs) : (valV kvs k).isSome = dHas es a := by
  have q := r.get hk
  unfold dHas
  cases e : dGet es a with
  | none => rw [e] at q; rw [show valV kvs k = none from q]; rfl
  | some x => rw [e] at q; obtain ⟨y, q, _⟩ := q; rw [q]; rfl
theorem RWt.has {a : W} {k : List Key} (hk : tKey a = some k) {es : List W} {kvs : List (List Key × V)} (r : RWt T m H es kvs) : (valV kvs k).isSome = dHas es a := by
  have q := r.get hk
  unfold dHas
  cases e : dGet es a with
  | none => rw [e] at q; rw [show valV kvs k = none from q]; rfl
  | some x => rw [e] at q; obtain ⟨y, q, _⟩ := q; rw [q]; rfl
theorem RWe.map {a x : W} {k : Key} {y : V} (hk : fKey a = some k) (rx : RW T m H x y) : ∀ {es : List W} {kvs : List (Key × V)}, RWe T m H es kvs → RWe T m H (es.map (rplD a x)) (kvs.map fun kv => if kv.1 = k then (kv.1, y) else kv)
  | [], _, r => by cases r; exact .nil
  | e :: ws, kvs, r => by
    obtain ⟨j, w, v, vs, rfl, rfl, r1, r2⟩ := r.inv
    rw [List.map_cons, List.map_cons, rplD_c, kEq_f hk]
    by_cases q : j = k
    · rw [if_pos (by simpa using q), if_pos q]
      exact .cI rx (RWe.map hk rx r2)
    · rw [if_neg (by simpa using q), if_neg q]
      exact .cI r1 (RWe.map hk rx r2)
theorem RWt.map {a x : W} {k : List Key} {y : V} (hk : tKey a = some k) (rx : RW T m H x y) : ∀ {es : List W} {kvs : List (List Key × V)}, RWt T m H es kvs → RWt T m H (es.map (rplD a x)) (kvs.map fun kv => if kv.1 = k then (kv.1, y) else kv)
  | [], _, r => by cases r; exact .nil
  | e :: ws, kvs, r => by
    obtain ⟨j, w, v, vs, rfl, rfl, r1, r2⟩ := r.inv
    rw [List.map_cons, List.map_cons, rplD_c, kEq_tk hk]
    by_cases q : j = k
    · rw [if_pos (by simpa using q), if_pos q]
      exact .cons rx (RWt.map hk rx r2)
    · rw [if_neg (by simpa using q), if_neg q]
      exact .cons r1 (RWt.map hk rx r2)
theorem RWe.app : ∀ {es us : List W} {kvs ts : List (Key × V)}, RWe T m H es kvs → RWe T m H us ts → RWe T m H (es ++ us) (kvs ++ ts)
  | [], _, _, _, r, s => by cases r; exact s
  | e :: ws, us, kvs, ts, r, s => by
    obtain ⟨j, w, v, vs, rfl, rfl, r1, r2⟩ := r.inv
    exact .cI r1 (RWe.app r2 s)
theorem RWt.app : ∀ {es us : List W} {kvs ts : List (List Key × V)}, RWt T m H es kvs → RWt T m H us ts → RWt T m H (es ++ us) (kvs ++ ts)
  | [], _, _, _, r, s => by cases r; exact s
  | e :: ws, us, kvs, ts, r, s => by
    obtain ⟨j, w, v, vs, rfl, rfl, r1, r2⟩ := r.inv
    exact .cons r1 (RWt.app r2 s)
theorem fKey_kW {a : W} {k : Key} (h : fKey a = some k) : a = kW k := by
  cases a with
  | int i => cases h; rfl
  | str s => cases h; show W.str s = W.str s.toArray.toList; simp
  | _ => cases h
theorem fKeys_kW : ∀ {r : List W} {ks : List Key}, fKeys r = some ks → r = ks.map kW
  | [], _, h => by cases h; rfl
  | w :: r, ks, h => by
    simp only [fKeys] at h
    split at h
    · rename_i k ks' e1 e2
      cases h
      rw [List.map_cons, ← fKey_kW e1, ← fKeys_kW e2]
    · cases h
theorem tKey_kW {a : W} {ks : List Key} (h : tKey a = some ks) : a = .tup (ks.map kW) := by
  unfold tKey at h
  split at h
  · rename_i i r
    cases e : fKeys r with
    | none => rw [e] at h; cases h
    | some ks' =>
      rw [e] at h
      cases h
      rw [fKeys_kW e]
      rfl
  · cases h
theorem RWe.put {a x : W} {k : Key} {y : V} (hk : fKey a = some k) (rx : RW T m H x y) {es : List W} {kvs : List (Key × V)} (r : RWe T m H es kvs) : RWe T m H (dPut es a x) (putK kvs k y) := by
  unfold dPut putK
  rw [valV_any, r.has hk]
  split
  · exact r.map hk rx
  · refine r.app ?_
    rw [fKey_kW hk]
    exact .cI rx .nil
theorem RWt.put {a x : W} {k : List Key} {y : V} (hk : tKey a = some k) (rx : RW T m H x y) {es : List W} {kvs : List (List Key × V)} (r : RWt T m H es kvs) : RWt T m H (dPut es a x) (putK kvs k y) := by
  unfold dPut putK
  rw [valV_any, r.has hk]
  split
  · exact r.map hk rx
  · refine r.app ?_
    rw [tKey_kW hk]
    exact .cons rx .nil
theorem RWe.length : ∀ {es : List W} {kvs : List (Key × V)}, RWe T m H es kvs → es.length = kvs.length
  | [], _, r => by cases r; rfl
  | e :: ws, kvs, r => by
    obtain ⟨j, w, v, vs, rfl, rfl, r1, r2⟩ := r.inv
    rw [List.length_cons, List.length_cons, RWe.length r2]
theorem RWt.length : ∀ {es : List W} {kvs : List (List Key × V)}, RWt T m H es kvs → es.length = kvs.length
  | [], _, r => by cases r; rfl
  | e :: ws, kvs, r => by
    obtain ⟨j, w, v, vs, rfl, rfl, r1, r2⟩ := r.inv
    rw [List.length_cons, List.length_cons, RWt.length r2]
theorem RWe.flat : ∀ {es : List W} {kvs : List (Key × V)}, RWe T m H es kvs → dFlat es = true
  | [], _, _ => rfl
  | e :: ws, kvs, r => by
    obtain ⟨j, w, v, vs, rfl, rfl, r1, r2⟩ := r.inv
    cases j <;> rfl
theorem fKey_ok {a : W} {x : V} {k : Key} (r : RW T m H a x) (h : fKey a = some k) : x = kV k := by
  cases r with
  | int i => cases h; rfl
  | str s => cases h; rfl
  | _ => cases h
theorem fKeys_ok : ∀ {ws : List W} {vs : List V} {ks : List Key}, RWs T m H ws vs → fKeys ws = some ks → vs = ks.map kV
  | _, _, _, .nil, h => by cases h; rfl
  | w :: ws, _, ks, .cons r t, h => by
    simp only [fKeys] at h
    split at h
    · rename_i k ks' e1 e2
      cases h
      rw [List.map_cons, fKey_ok r e1, fKeys_ok t e2]
    · cases h
/-- a tuple that is a key stands tracked -/
theorem tKey_ok {a : W} {x : V} {k : List Key} (r : RW T m H a x) (h : tKey a = some k) : ∃ b, x = .ref b ∧ H b = some (.tup (k.map kV)) ∧ m.fr b := by
  cases r with
  | @tup ws vs b r f =>
    unfold tKey at h
    split at h
    · rename_i i rr ew
      cases ew
      cases e : fKeys rr with
      | none => rw [e] at h; cases h
      | some ks' =>
        rw [e] at h
        cases h
        have ev := fKeys_ok r (ks := .inl i :: ks') (by simp only [fKeys, fKey, e])
        subst ev
        rcases f with ⟨n, f⟩ | ⟨_, f⟩
        · exact ⟨b, rfl, f, n⟩
        · cases f
    · cases h
  | _ => cases h
end

/-! ### the table a value is -/
def dOf : W → Gs → Option (List W)
  | .dic es, _ => some es
  | .ref i, G => (match G[i]? with
    | some (.dic es) => some es
    | _ => none)
  | _, _ => none
@[simp] theorem dOf_e1 : dOf (.dic es) G = some es := rfl
@[simp] theorem dOf_e2 : dOf (.ref i) G = (match G[i]? with
    | some (.dic es) => some es
    | _ => none) := rfl
@[simp] theorem dOf_e3 : dOf .non G = none := rfl
@[simp] theorem dOf_e4 : dOf (.bl b) G = none := rfl
@[simp] theorem dOf_e5 : dOf (.int b) G = none := rfl
@[simp] theorem dOf_e6 : dOf (.str b) G = none := rfl
@[simp] theorem dOf_e7 : dOf (.tup b) G = none := rfl
@[simp] theorem dOf_e8 : dOf (.lst b) G = none := rfl
@[simp] theorem dOf_e9 : dOf (.fz b) G = none := rfl
@[simp] theorem dOf_e10 : dOf (.obj b c) G = none := rfl
/-- the dict behind a value -/
theorem dOf_ok {T : Tx} {m : Mm} {G : Gs} {H : Hp} {w : W} {v : V} {es : List W} (hG : RG T m G H) (r : RW T m H w v) (e : dOf w G = some es) :
    ∃ a, v = .ref a ∧ ((∃ kvs, Rd H a (.dK kvs) ∧ RWe T m H es kvs) ∨ ∃ kvs, Rd H a (.dT kvs) ∧ es ≠ [] ∧ RWt T m H es kvs) := by
  cases r with
  | dic r n f => cases e; exact ⟨_, rfl, .inl ⟨_, f, r⟩⟩
  | dit r z n f => cases e; exact ⟨_, rfl, .inr ⟨_, f, z, r⟩⟩
  | @ref i a h =>
    simp only [dOf_e2] at e
    split at e
    · rename_i es' hg
      cases e
      rcases hG.ob i _ a hg h with ⟨kvs, e1, r⟩ | ⟨kvs, e1, z, r⟩
      · exact ⟨a, rfl, .inl ⟨kvs, .inl e1, r⟩⟩
      · exact ⟨a, rfl, .inr ⟨kvs, .inl e1, z, r⟩⟩
    · cases e
  | _ => cases e

/-- what the dict holds at a key; a tuple may be asked of an empty one -/
def DGetU (H : Hp) (a : Addr) (y : V) (r : Option V) : Prop := DGet H a y r ∨ (Rd H a (.dK []) ∧ r = none ∧ ∃ (b : Addr) (ks : List Key), y = .ref b ∧ H b = some (.tup (ks.map kV)))
section
variable {X : Cx} {pins : List (Addr × Obj)} {σ : L2.St} {H : Hp} {s : Shared} {a : Addr} {y : V} {u : Value} {o : Option V} {A : Around} {E : Value → Shared → Prop}
theorem dk_asT {P : Program} {w : World} {h : Heap} (ok : HOk P w H h) (e : Rd H a (.dK [])) : (a == sysModules) = false ∧ h.DictOfH (tupleKind (mixKind P w)) a [] := by
  obtain ⟨z, hd, vs, rel, dd⟩ := dk_rd ok e
  cases rel
  obtain ⟨ob, es, ep, h1, h2, h3, h4, h5, h6⟩ := dd
  refine ⟨hd, ob, es, ep, h1, h2, h3, ?_, fun x hx => (nomatch hx), List.nodup_nil⟩
  cases hh : es.toList with
  | nil => rfl
  | cons e r => rw [hh] at h5; first | exact False.elim h5 | cases h5
theorem d_inE {b : Addr} {ks : List Key} {Q : Value → Shared → Prop} (hu : A.units + 1 < cLine) (I : Inv X pins σ H s) (e : Rd H a (.dK [])) (eb : H b = some (.tup (ks.map kV))) (h : ∀ s', Inv X pins σ H s' → Q (.bool false) s') :
    wpAny (model X.prog X.w) A (compareOp .In (.ref b) (.ref a)) Q E s := by
  obtain ⟨hd, dd⟩ := dk_asT I.hok e
  exact wpAny_in_heap (tupleKind_room_in1 hu) (key_of I.hok eb) hd dd (h _ (I.tok _))
theorem d_ninE {b : Addr} {ks : List Key} {Q : Value → Shared → Prop} (hu : A.units + 1 < cLine) (I : Inv X pins σ H s) (e : Rd H a (.dK [])) (eb : H b = some (.tup (ks.map kV))) (h : ∀ s', Inv X pins σ H s' → Q (.bool true) s') :
    wpAny (model X.prog X.w) A (compareOp .NotIn (.ref b) (.ref a)) Q E s := by
  obtain ⟨hd, dd⟩ := dk_asT I.hok e
  exact wpAny_notIn_heap (tupleKind_room_in1 hu) (key_of I.hok eb) hd dd (h _ (I.tok _))
end
def rInD (neg : Bool) : R2 := fun x y H Q => ∃ a o, y = .ref a ∧ DGetU H a x o ∧ Q (.bl (if neg then !o.isSome else o.isSome)) H
theorem op_inD {X : Cx} (hu : X.A.units + 1 < cLine) : OpR X (compareOp .In) (rInD false) := by
  intro pins s σ H x y v u Q I rx ry h
  obtain ⟨a, o, rfl, g, q⟩ := h
  obtain rfl : u = Value.ref a := ry
  rcases g with g | ⟨e, rfl, b, ks, rfl, eb⟩
  · exact d_in hu I g rx fun s' I' => ⟨.bl o.isSome, H, I', rfl, q⟩
  · obtain rfl : v = Value.ref b := rx
    exact d_inE hu I e eb fun s' I' => ⟨.bl false, H, I', rfl, q⟩
theorem op_ninD {X : Cx} (hu : X.A.units + 1 < cLine) : OpR X (compareOp .NotIn) (rInD true) := by
  intro pins s σ H x y v u Q I rx ry h
  obtain ⟨a, o, rfl, g, q⟩ := h
  obtain rfl : u = Value.ref a := ry
  rcases g with g | ⟨e, rfl, b, ks, rfl, eb⟩
  · exact d_notIn hu I g rx fun s' I' => ⟨.bl (!o.isSome), H, I', rfl, q⟩
  · obtain rfl : v = Value.ref b := rx
    exact d_ninE hu I e eb fun s' I' => ⟨.bl true, H, I', rfl, q⟩
/-- a key asked -/
theorem dget_ok {T : Tx} {m : Mm} {G : Gs} {H : Hp} {wk wd : W} {x y : V} {es : List W} (hG : RG T m G H) (rk : RW T m H wk x) (rd : RW T m H wd y) (e : dOf wd G = some es) (ok : dkOk wk es = true) :
    ∃ a o, y = .ref a ∧ DGetU H a x o ∧ (match dGet es wk with
      | some w => ∃ z, o = some z ∧ RW T m H w z ∧ DGet H a x (some z)
      | none => o = none) := by
  obtain ⟨a, rfl, q⟩ := dOf_ok hG rd e
  unfold dkOk at ok
  rw [Bool.or_eq_true, Bool.and_eq_true, Bool.and_eq_true] at ok
  rcases q with ⟨kvs, hd, r⟩ | ⟨kvs, hd, z, r⟩
  · rcases ok with ⟨fk, _⟩ | ⟨tk, he⟩
    · obtain ⟨k, ek⟩ := fKey_of fk
      have ex := fKey_ok rk ek
      subst ex
      refine ⟨a, valV kvs k, rfl, .inl (.inl ⟨kvs, k, hd, rfl, rfl⟩), ?_⟩
      have q := r.get ek
      cases eg : dGet es wk with
      | none => rw [eg] at q; exact q
      | some w => rw [eg] at q; obtain ⟨z, q1, q2⟩ := q; exact ⟨z, q1, q2, .inl ⟨kvs, k, hd, rfl, q1.symm⟩⟩
    · rw [r.flat] at he
      have he : es = [] := by simpa using he
      subst he
      cases r
      obtain ⟨i, rr, ks, ew, ekr, ek⟩ := tKey_of tk
      obtain ⟨b, rfl, hb, _⟩ := tKey_ok rk ek
      exact ⟨a, none, rfl, .inr ⟨hd, rfl, b, _, rfl, hb⟩, rfl⟩
  · rcases ok with ⟨_, fl⟩ | ⟨tk, _⟩
    · rw [r.nflat z] at fl; cases fl
    · obtain ⟨i, rr, ks, ew, ekr, ek⟩ := tKey_of tk
      obtain ⟨b, rfl, hb, _⟩ := tKey_ok rk ek
      refine ⟨a, valV kvs (.inl i :: ks), rfl, .inl (.inr ⟨kvs, _, b, hd, rfl, hb, rfl⟩), ?_⟩
      have q := r.get ek
      cases eg : dGet es wk with
      | none => rw [eg] at q; exact q
      | some w => rw [eg] at q; obtain ⟨z, q1, q2⟩ := q; exact ⟨z, q1, q2, .inr ⟨kvs, _, b, hd, rfl, hb, q1.symm⟩⟩

/-! ### in -/
/-- a list that changes, as it stands -/
def lOf : W → Gs → W
  | .ref i, G => (match G[i]? with
    | some (.lst xs) => .lst xs
    | _ => .ref i)
  | w, _ => w
def inD : OF := fun a b G => match dOf b G with
  | some es => if dkOk a es then .ok (.bl (dHas es a)) G else .stuck
  | none => inW a b G
def ninD : OF := fun a b G => match dOf b G with
  | some es => if dkOk a es then .ok (.bl (!dHas es a)) G else .stuck
  | none => ninW a b G
@[simp] theorem inD_e (a b : W) (G : Gs) : inD a b G = match dOf b G with
  | some es => if dkOk a es then .ok (.bl (dHas es a)) G else .stuck
  | none => inW a b G := rfl
@[simp] theorem ninD_e (a b : W) (G : Gs) : ninD a b G = match dOf b G with
  | some es => if dkOk a es then .ok (.bl (!dHas es a)) G else .stuck
  | none => ninW a b G := rfl
def rInX (K : PySem.W.Frag) (neg : Bool) : R2 := fun x y H Q => rInU K neg x y H Q ∨ rInD neg x y H Q
theorem or_inD {X : Cx} (hu : X.A.units + 64 < cLine) : OpR X (compareOp .In) (rInX X.K false) := or_inU.or (op_inD (by omega))
theorem or_ninD {X : Cx} (hu : X.A.units + 64 < cLine) : OpR X (compareOp .NotIn) (rInX X.K true) := or_ninU.or (op_ninD (by omega))
theorem io_inD {T : Tx} {W0 : WX} : ImpO T W0 (rInX T.K false) inD := by
  intro m G σ H Q a b x y hG ra rb ho
  unfold inD at ho
  split at ho
  · rename_i es e
    split at ho
    · rename_i ok
      obtain ⟨ad, o, rfl, g, q⟩ := dget_ok hG ra rb e ok
      refine .inr ⟨ad, o, rfl, g, ?_⟩
      have : o.isSome = dHas es a := by
        unfold dHas
        cases eg : dGet es a with
        | none => rw [eg] at q; rw [show o = none from q]; rfl
        | some w => rw [eg] at q; obtain ⟨z, q, _⟩ := q; rw [q]; rfl
      rw [this]
      exact ho.now hG (.bl _)
    · exact False.elim ho
  · exact .inl (io_in (W0 := W0) m G σ H Q a b x y hG ra rb ho)
theorem io_ninD {T : Tx} {W0 : WX} : ImpO T W0 (rInX T.K true) ninD := by
  intro m G σ H Q a b x y hG ra rb ho
  unfold ninD at ho
  split at ho
  · rename_i es e
    split at ho
    · rename_i ok
      obtain ⟨ad, o, rfl, g, q⟩ := dget_ok hG ra rb e ok
      refine .inr ⟨ad, o, rfl, g, ?_⟩
      have : o.isSome = dHas es a := by
        unfold dHas
        cases eg : dGet es a with
        | none => rw [eg] at q; rw [show o = none from q]; rfl
        | some w => rw [eg] at q; obtain ⟨z, q, _⟩ := q; rw [q]; rfl
      rw [this]
      exact ho.now hG (.bl _)
    · exact False.elim ho
  · exact .inl (io_nin (W0 := W0) m G σ H Q a b x y hG ra rb ho)

/-! ### d[k] -/
def ixD : OF := fun a k G => match dOf a G with
  | some es => if dkOk k es then (match dGet es k with
    | some w => .ok w G
    | none => .stuck) else .stuck
  | none => ixW a k G
@[simp] theorem ixD_e (a k : W) (G : Gs) : ixD a k G = match dOf a G with
  | some es => if dkOk k es then (match dGet es k with
    | some w => .ok w G
    | none => .stuck) else .stuck
  | none => ixW a k G := rfl
def rIxDD : R2 := fun x y H Q => ∃ a v, x = .ref a ∧ DGet H a y (some v) ∧ Q v H
theorem ix_dd {X : Cx} (hu : X.A.units + 1 < cLine) : IxR X rIxDD := by
  intro value slice pins s σ H x y v u Q I rx ry h hs
  obtain ⟨a, z, rfl, g, q⟩ := h
  obtain rfl : v = Value.ref a := rx
  exact tail_any (dict_typeIs I g) PySem.F.slot_dict_getitem.lookup (d_getItem hu I g ry fun w' s' I' r' => ⟨z, H, I', r', q⟩) hs
theorem io_ixD {T : Tx} {W0 : WX} : ImpO T W0 (fun x y H Q => rIx T.K x y H Q ∨ rIxDD x y H Q) ixD := by
  intro m G σ H Q a b x y hG ra rb ho
  unfold ixD at ho
  split at ho
  · rename_i es e
    split at ho
    · rename_i ok
      obtain ⟨ad, o, rfl, g, q⟩ := dget_ok hG rb ra e ok
      split at ho
      · rename_i w eg
        rw [eg] at q
        obtain ⟨z, rfl, rz, g'⟩ := q
        exact .inr ⟨ad, z, rfl, g', ho.now hG rz⟩
      · exact False.elim ho
    · exact False.elim ho
  · exact .inl (io_ix (W0 := W0) m G σ H Q a b x y hG ra rb ho)
section
variable {T : Tx} {X : Cx} {W0 : WX} {a b : Expr} {fa fb : EF} {pos : Pos}
theorem fe_ixD (c : Ctx T X W0) (ha : FE T X W0 a fa) (hb : FE T X W0 b fb) (hs : PlainIx b := by exact fun _ _ => rfl) : FE T X W0 (.Subscript a b pos) (eOp ixD fa fb) := by
  obtain ⟨ta, ha, ia⟩ := ha
  obtain ⟨tb, hb, ib⟩ := hb
  have := c.hu
  refine ⟨_, pe_ix (ix_seq.or (ix_dd (by omega))) ha hb hs, ?_⟩
  rw [c.hK]
  exact imp_op io_ixD ia ib
end

/-! ### {} -/
@[simp] def eDic0 : EF := fun _ G => .ok (.dic []) G
@[simp] def eDicM : EF := fun _ G => .ok (.ref G.length) (G ++ [.dic []])
section
variable {T : Tx} {X : Cx} {W0 : WX} {pos : Pos}
theorem fe_dic0 : FE T X W0 (.Dict [] [] pos) eDic0 := ⟨_, pe_dnewK, fun m ls G σ H Q hG hL ho p hp =>
  ho m _ _ (.new hG hp) (hG.new hp) (.dic .nil (hG.free hp) (.inl upd_same))⟩
theorem fe_dicM : FE T X W0 (.Dict [] [] pos) eDicM := ⟨_, pe_dnewK, fun m ls G σ H Q hG hL ho p hp => by
  have k : Keep m H (m.push p) (upd H p (.dK [])) := Keep.push hG hp
  refine ho (m.push p) _ _ k (hG.push hp (.inl ⟨[], upd_same, .nil⟩)) (.ref ?_)
  show (m.r ++ [p])[G.length]? = some p
  rw [← hG.len, List.getElem?_append_right (Nat.le_refl _), Nat.sub_self]
  rfl⟩
end

/-! ### dict(d): a copy (flat keys) -/
def dictW : List W → Gs → Res
  | [w], G => (match dOf w G with
    | some es => if dFlat es then .ok (.dic es) G else .stuck
    | none => .stuck)
  | _, _ => .stuck
@[simp] theorem dictW_e (w : W) (G : Gs) : dictW [w] G = (match dOf w G with
    | some es => if dFlat es then .ok (.dic es) G else .stuck
    | none => .stuck) := rfl
theorem ib_dict {T : Tx} {W0 : WX} : ImpB T W0 (fun xs H Q => ∃ (a : Addr) (kvs : List (Key × V)), xs = [.ref a] ∧ Rd H a (.dK kvs) ∧ ∀ p, H p = none → Q (.ref p) (upd H p (.dK kvs))) dictW := by
  intro m G σ H Q ws vs hG r0 ho
  unfold dictW at ho
  split at ho
  · rename_i w
    obtain ⟨v, rfl, r⟩ := r0.inv1
    split at ho
    · rename_i es e
      split at ho
      · rename_i fl
        obtain ⟨a, rfl, q⟩ := dOf_ok hG r e
        rcases q with ⟨kvs, hd, re⟩ | ⟨kvs, hd, z, re⟩
        · exact ⟨a, kvs, rfl, hd, fun p hp => ho m _ _ (.new hG hp) (hG.new hp) (.dic (re.keep (.new hG hp)) (hG.free hp) (.inl upd_same))⟩
        · rw [re.nflat z] at fl; cases fl
      · exact False.elim ho
    · exact False.elim ho
  · exact False.elim ho

/-! ### len -/
def lenD : List W → Gs → Res := fun ws G => match ws with
  | [w] => (match dOf w G with
    | some es => if dFlat es then .ok (.int es.length) G else .stuck
    | none => lenW [w] G)
  | ws => lenW ws G
@[simp] theorem lenD_e (w : W) (G : Gs) : lenD [w] G = (match dOf w G with
    | some es => if dFlat es then .ok (.int es.length) G else .stuck
    | none => lenW [w] G) := rfl
end U
namespace U
open PySem PySem.Spec PyProof.Rows
open L2
/-! ### d[k] = v -/
/-- the heap behind a[y] = v; an empty dict may take either kind -/
def DPutU (H : Hp) (a : Addr) (y v : V) (H' : Hp) : Prop := DPut H a y v H' ∨ (H a = some (.dK []) ∧ ∃ (b : Addr) (ks : List Key), y = .ref b ∧ H b = some (.tup (ks.map kV)) ∧ H' = upd H a (.dT [(ks, v)]))
theorem set_dictU {X : Cx} (hu : X.A.units + 1 < cLine) : PSet X (fun o i v H Q => ∃ a H', o = .ref a ∧ DPutU H a i v H' ∧ Q H') := by
  intro pins s σ H o i v ov iv u Q I ro ri rv h
  obtain ⟨a, H', rfl, g, q⟩ := h
  obtain rfl : ov = Value.ref a := ro
  rcases g with g | ⟨e, b, ks, rfl, eb, rfl⟩
  · exact d_setItem hu I g ri rv fun s' I' => ⟨H', I', q⟩
  · obtain rfl : iv = Value.ref b := ri
    obtain ⟨hd, dd⟩ := dk_asT I.hok (.inl e)
    refine wpAny_setItem_heap (hsz := Nat.zero_le _) (tupleKind_room_in1 hu) (key_of I.hok eb) dd fun h' dd' hs => ⟨_, ?_, q⟩
    obtain ⟨ob, es, ep, hq, h2, h3, h4, _, h5⟩ := dd'
    refine d_write I (by rw [e]; exact True.intro) hs ⟨ob, hq⟩ ⟨(by rw [sizeLine_eq]; show 1 ≤ _; omega), hd, _, .cons ⟨rfl, ?_, rv⟩ .nil, ob, es, ep, hq, h2, h3, h4, h5⟩
    rw [upd_ne (ne_of eb e (fun z => nomatch z))]
    exact eb
def gSetD (fo fi : EF) : TF := fun v ls G => match fo ls G with
  | .ok (.ref i) G1 => (match fi ls G1 with
    | .ok k G2 => (match G2[i]? with
      | some (.lst xs) => (match k with
        | .int z => (match ixN xs.length z with
          | some j => .nx ls (G2.set i (.lst (xs.set j v)))
          | none => .stuck)
        | _ => .stuck)
      | some (.dic es) => if dkOk k es && decide (es.length < SZ) then .nx ls (G2.set i (.dic (dPut es k v))) else .stuck
      | _ => .stuck)
    | _ => .stuck)
  | _ => .stuck
@[simp] theorem gSetD_e (fo fi : EF) (v : W) (ls : Ls) (G : Gs) : gSetD fo fi v ls G = match fo ls G with
  | .ok (.ref i) G1 => (match fi ls G1 with
    | .ok k G2 => (match G2[i]? with
      | some (.lst xs) => (match k with
        | .int z => (match ixN xs.length z with
          | some j => .nx ls (G2.set i (.lst (xs.set j v)))
          | none => .stuck)
        | _ => .stuck)
      | some (.dic es) => if dkOk k es && decide (es.length < SZ) then .nx ls (G2.set i (.dic (dPut es k v))) else .stuck
      | _ => .stuck)
    | _ => .stuck)
  | _ => .stuck := rfl
theorem sto_setD {fo fi : EF} : Sto (gSetD fo fi) := fun w ls G => by
  unfold gSetD
  split
  · split
    · split
      · split
        · split
          · exact .inl ⟨_, _, rfl⟩
          · exact .inr rfl
        · exact .inr rfl
      · split
        · exact .inl ⟨_, _, rfl⟩
        · exact .inr rfl
      · exact .inr rfl
    · exact .inr rfl
  · exact .inr rfl
theorem PSet.or {X : Cx} {t t' : TSet} (h : PSet X t) (h' : PSet X t') : PSet X (fun o i v H Q => t o i v H Q ∨ t' o i v H Q) := by
  intro pins s σ H o i v ov iv u Q I ro ri rv q
  rcases q with q | q
  · exact h pins s σ H o i v ov iv u Q I ro ri rv q
  · exact h' pins s σ H o i v ov iv u Q I ro ri rv q
section
variable {T : Tx} {X : Cx} {W0 : WX} {o : Expr} {fo : EF} {pos : Pos}
theorem fg_setD {i : Expr} {fi : EF} (c : Ctx T X W0) (ho : FE T X W0 o fo) (hi : FE T X W0 i fi)
    (ha : ∀ v, assign (.Subscript o i pos) X.env v = (do
      let ov ← holding [v] (eval o X.env)
      let iv ← holding [v, ov] (eval i X.env)
      standAt pos
      holding [v, ov, iv] (setItem ov iv v)
      release [v, ov, iv] []) := by intro _; rfl) : FG T X [] (.Subscript o i pos) (gSetD fo fi) := by
  obtain ⟨t, ho, io⟩ := ho
  obtain ⟨ti, hi, ii⟩ := hi
  have hu := c.hu
  refine ⟨_, pg_sub ho hi (U.PSet.or set_list (set_dictU (by omega))) ha, fun m ls G σ H w v Q hG hL r hq => ?_⟩
  unfold gSetD at hq
  refine io m ls G σ H _ hG hL ?_
  cases e1 : fo ls G with
  | stuck => rw [e1] at hq; exact False.elim hq
  | exc _ _ => rw [e1] at hq; exact False.elim hq
  | ok wo G1 =>
    rw [e1] at hq
    intro m1 vo H1 k1 g1 r1
    cases r1 with
    | @ref k a h =>
      refine ii m1 ls G1 σ H1 _ g1 (hL.keep k1) ?_
      simp only at hq
      cases e2 : fi ls G1 with
      | stuck => rw [e2] at hq; exact False.elim hq
      | exc _ _ => rw [e2] at hq; exact False.elim hq
      | ok wi G2 =>
        rw [e2] at hq
        intro m2 vi H2 k2 g2 r2
        have h2 := k2.get h
        have r' := (r.keep k1).keep k2
        simp only at hq
        split at hq
        · rename_i xs e3
          split at hq
          · rename_i z
            cases r2
            split at hq
            · rename_i j e4
              obtain ⟨us, e5, r5⟩ := g2.lst h2 e3
              refine .inl ⟨a, us, z, j, rfl, rfl, e5, by rw [← r5.length]; exact e4, ?_⟩
              have k : Keep m2 H2 m2 (upd H2 a (.lst (us.set j v))) := Keep.write (List.mem_of_getElem? h2)
              exact hq m2 σ _ ((k1.trans k2).trans k) (g2.write h2 ⟨_, upd_same, (r5.set r' j).keep k⟩) ((hL.keep (k1.trans k2)).keep k) (.refl _ _)
            · exact False.elim hq
          · exact False.elim hq
        · rename_i es e3
          split at hq
          · rename_i ok
            rw [Bool.and_eq_true] at ok
            obtain ⟨ok, hz⟩ := ok
            have hz := of_decide_eq_true hz
            rw [sz_eq] at hz
            unfold dkOk at ok
            rw [Bool.or_eq_true, Bool.and_eq_true, Bool.and_eq_true] at ok
            have am : a ∈ m2.r := List.mem_of_getElem? h2
            have fin : ∀ {u : HO}, DPutU H2 a vi v (upd H2 a u) → RO T m2 (upd H2 a u) (.dic (dPut es wi w)) a → ∃ a_1 H', V.ref a = V.ref a_1 ∧ DPutU H2 a_1 vi v H' ∧ Q σ H' := fun {u} hp ro => by
              have k : Keep m2 H2 m2 (upd H2 a u) := Keep.write am (by obtain ⟨z, e, n⟩ := ro.nt; rw [upd_same] at e; cases e; exact n.nb)
              exact ⟨a, _, rfl, hp, hq m2 σ _ ((k1.trans k2).trans k) (g2.write h2 ro) ((hL.keep (k1.trans k2)).keep k) (.refl _ _)⟩
            refine .inr ?_
            rcases g2.ob k _ a e3 h2 with ⟨kvs, e5, r5⟩ | ⟨kvs, e5, z, r5⟩
            · rcases ok with ⟨fk, _⟩ | ⟨tk, he⟩
              · obtain ⟨q, eq⟩ := fKey_of fk
                have ex := fKey_ok r2 eq
                subst ex
                have k : Keep m2 H2 m2 (upd H2 a (.dK (putK kvs q v))) := Keep.write am
                exact fin (.inl (.inl ⟨kvs, q, e5, rfl, by rw [← r5.length]; exact hz, rfl⟩)) (.inl ⟨_, upd_same, (r5.put eq r').keep k⟩)
              · rw [r5.flat] at he
                have he : es = [] := by simpa using he
                subst he
                cases r5
                obtain ⟨i0, rr, ks, ew, ekr, ek⟩ := tKey_of tk
                obtain ⟨b, rfl, hb, _⟩ := tKey_ok r2 ek
                have k : Keep m2 H2 m2 (upd H2 a (.dT [(.inl i0 :: ks, v)])) := Keep.write am
                have rt : RWt T m2 H2 (dPut [] wi w) [(.inl i0 :: ks, v)] := RWt.put (kvs := []) ek r' .nil
                exact fin (.inr ⟨e5, b, _, rfl, hb, rfl⟩) (.inr ⟨_, upd_same, (fun e => nomatch e), rt.keep k⟩)
            · rcases ok with ⟨_, fl⟩ | ⟨tk, _⟩
              · rw [r5.nflat z] at fl; cases fl
              · obtain ⟨i0, rr, ks, ew, ekr, ek⟩ := tKey_of tk
                obtain ⟨b, rfl, hb, _⟩ := tKey_ok r2 ek
                have k : Keep m2 H2 m2 (upd H2 a (.dT (putK kvs (.inl i0 :: ks) v))) := Keep.write am
                refine fin (.inl (.inr ⟨kvs, _, b, e5, rfl, hb, by rw [← r5.length]; exact hz, rfl⟩)) (.inr ⟨_, upd_same, ?_, (r5.put ek r').keep k⟩)
                unfold dPut
                split
                · cases es with
                  | nil => exact absurd rfl z
                  | cons e r => intro q; cases q
                · intro q
                  have := congrArg List.length q
                  rw [List.length_append] at this
                  simp at this
          · exact False.elim hq
        · exact False.elim hq
    | _ => exact False.elim hq
end
/-! ### for over what may be a dict -/
section
variable {T : Tx} {X : Cx} {W0 : WX} {pos : Pos} {tg iter : Expr} {body : List Stmt} {fi : EF} {g : TF} {gb : SF}
/-- the loop, once its items are known -/
theorem for_imp {is : List Nat} {ti : TI} {tg' : TG} {tb : TS} (ig : ImpG T is tg' g) (ib : ImpS T W0 tb gb) {m : Mm} {ls : Ls} {G1 : Gs} {σ : L2.St} {H : Hp} {D : Ends} (g1 : RG T m G1 H) (hL : RL T m H ls σ) {ws : List W}
    (hi : ∀ R : It → Hp → Prop, (∀ J, ItOk T m H J ws → R J H) → ti σ H R) (ho : OutS T W0 m H D (forL g gb ws ls G1)) : tFor ti tg' tb D σ H := by
  refine hi _ fun J it => ?_
  refine ⟨fun i k σ H' => k = ws.length - i ∧ ∃ m2 ls2 G2, Keep m H m2 H' ∧ RG T m2 G2 H' ∧ RL T m2 H' ls2 σ ∧ OutS T W0 m2 H' D (forL g gb (ws.drop i) ls2 G2), ⟨ws.length, rfl, m, ls, G1, .refl _ _, g1, hL, ho⟩, ?_⟩
  rintro i k σ2 H2 ⟨rfl, m2, ls2, G2, k2, g2, l2, o2⟩
  obtain ⟨go, stop⟩ := it m2 G2 H2 k2 g2
  cases hw : ws[i]? with
  | none =>
    have hle : ws.length ≤ i := List.getElem?_eq_none_iff.mp hw
    rw [List.drop_eq_nil_of_le hle] at o2
    exact .inl ⟨stop i hle, o2 m2 σ2 H2 (.refl _ _) g2 l2⟩
  | some w =>
    have hlt : i < ws.length := (List.getElem?_eq_some_iff.mp hw).1
    have hd : ws.drop i = w :: ws.drop (i + 1) := by
      rw [List.drop_eq_getElem_cons hlt, (List.getElem?_eq_some_iff.mp hw).2]
    rw [hd] at o2
    obtain ⟨hgo, hy⟩ := go i w hw
    refine .inr ⟨hgo, fun σ H' => ∃ m3 ls3 G3, Keep m H m3 H' ∧ RG T m3 G3 H' ∧ RL T m3 H' ls3 σ ∧ OutS T W0 m3 H' D (forL g gb (ws.drop (i + 1)) ls3 G3), fun σ' H' n => ⟨ws.length - (i + 1), by omega, rfl, n⟩, fun x H' yl => ?_⟩
    obtain ⟨k3, g3, r3⟩ := hy x H' yl
    refine ig m2 ls2 G2 σ2 H' w x _ g3 (l2.keep k3) r3 ?_
    simp only [forL] at o2
    cases eg : g w ls2 G2 with
    | nx ls4 G4 =>
      rw [eg] at o2
      intro m4 σ4 H4 k4 g4 l4 _
      refine ib m4 ls4 G4 σ4 H4 _ g4 l4 ?_
      have k14 := (k2.trans k3).trans k4
      have o4 := OutS.keep (k3.trans k4) o2
      simp only at o4
      cases eb : gb ls4 G4 with
      | nx ls5 G5 => rw [eb] at o4; exact fun m5 σ5 H5 k5 g5 l5 => ⟨m5, ls5, G5, k14.trans k5, g5, l5, OutS.keep k5 o4⟩
      | ct ls5 G5 => rw [eb] at o4; exact fun m5 σ5 H5 k5 g5 l5 => ⟨m5, ls5, G5, k14.trans k5, g5, l5, OutS.keep k5 o4⟩
      | bk ls5 G5 => rw [eb] at o4; exact o4
      | rt w G5 => rw [eb] at o4; exact o4
      | exc w ls5 G5 => rw [eb] at o4; exact o4
      | stuck => rw [eb] at o4; exact o4
    | rt w G4 => rw [eg] at o2; exact False.elim o2
    | bk ls4 G4 => rw [eg] at o2; exact False.elim o2
    | ct ls4 G4 => rw [eg] at o2; exact False.elim o2
    | exc w ls4 G4 => rw [eg] at o2; exact False.elim o2
    | stuck => rw [eg] at o2; exact False.elim o2
/-- an expression that changes nothing, and whose value does not lean on a dict -/
def FPu (T : Tx) (X : Cx) (W0 : WX) (e : Expr) (f : EF) : Prop := (∀ ls G c G', f ls G ≠ .exc c G') ∧ ∃ t, PE X e t ∧ ∀ (m : Mm) (ls : Ls) (G : Gs) (σ : L2.St) (H : Hp) (w : W) (G' : Gs), RG T m G H → RL T m H ls σ → f ls G = .ok w G' →
  G' = G ∧ ∃ v, RW T m H w v ∧ ∀ (H' : Hp) (Q : VK), (∀ a o, H a = some o → Pl o → H' a = some o) → Q v H' → t σ H' Q
theorem fp_var (i : Nat) {x : Str} {pos : Pos} (hN : X.N[i]? = some x := by rfl) (hv : Vis X.env.scope x := by first | exact Or.inl rfl | exact Or.inr (Or.inl rfl) | exact Or.inr (Or.inr rfl))
    (hd : (x == ("__debug__" : Str)) = false := by decide +kernel) (hcd : (x == ("__classdict__" : Str)) = false := by decide +kernel) : FPu T X W0 (.Name x pos) (eVar i) := by
  refine ⟨fun ls G c G' e => ?_, _, pe_var hN hv hd hcd, fun m ls G σ H w G' hG hL e => ?_⟩
  · unfold eVar at e
    split at e <;> cases e
  unfold eVar at e
  split at e
  · rename_i w' e1
    cases e
    obtain ⟨v, hv, r⟩ := hL.at_ i w (lget_some e1)
    exact ⟨rfl, v, r, fun H' Q _ q => ⟨v, hv, q⟩⟩
  · cases e
theorem fp_fld {o : Expr} {fo : EF} (c : Ctx T X W0) (h : FPu T X W0 o fo) {a : Str} {tbl : List (Nat × Nat)} (ht : ∀ p ∈ tbl, FldOk T a p.1 p.2) (hb : attributeBase o a X.env (eval o X.env) = eval o X.env := by rfl) : FPu T X W0 (.Attribute o a pos) (eFld tbl fo) := by
  obtain ⟨nx, t, h, i⟩ := h
  refine ⟨fun ls G c G' e => ?_, _, pe_fld h hb, fun m ls G σ H w G' hG hL e => ?_⟩
  · rw [eFld_e] at e
    cases e1 : fo ls G with
    | stuck => rw [e1] at e; cases e
    | exc _ _ => exact nx _ _ _ _ e1
    | ok ow G1 =>
      rw [e1] at e
      simp only [Res.bind] at e
      split at e
      · split at e
        · split at e <;> cases e
        · cases e
      · cases e
  rw [eFld_e] at e
  cases e1 : fo ls G with
  | stuck => rw [e1] at e; cases e
  | exc _ _ => rw [e1] at e; cases e
  | ok ow G1 =>
    rw [e1] at e
    obtain ⟨rfl, v, r, hq⟩ := i m ls G σ H ow G1 hG hL e1
    simp only [Res.bind] at e
    split at e
    · rename_i cc xs e2 e3
      obtain ⟨ad, C, dx, vs, xs', rfl, hc, h1, h2, r2, l⟩ := ins_ok hG r e2
      rw [e3] at h2
      cases h2
      split at e
      · rename_i j ej
        have F := ht _ (lookup_mem ej)
        split at e
        · rename_i w' ew
          cases e
          obtain ⟨v', ev, rv⟩ := r2.get ew
          obtain ⟨hC, hN⟩ := F.ok C hc
          refine ⟨rfl, v', rv, fun H' Q hp q => hq H' _ hp ?_⟩
          exact ⟨ad, C, dx, _, v', rfl, hp _ _ h1 trivial, by rw [c.hK]; exact hC, by rw [c.hK]; exact hN, lookup_zip F.at_ F.fst ev, q⟩
        · cases e
      · cases e
    · cases e
/-- the items of a list, a tuple, a text, a dict's keys -/
def iSeqD (f : EF) : EF := fun ls G => (f ls G).bind fun w G1 => match w with
  | .dic es => .ok (.lst (dKeys es)) G1
  | w => iSeq (eC w) ls G1
@[simp] theorem iSeqD_e (f : EF) (ls : Ls) (G : Gs) : iSeqD f ls G = (f ls G).bind fun w G1 => match w with
  | .dic es => .ok (.lst (dKeys es)) G1
  | w => iSeq (eC w) ls G1 := rfl
theorem keys_get : ∀ {m : Mm} {H : Hp} {es : List W} {kvs : List (Key × V)} {i : Nat} {w : W}, RWe T m H es kvs → (dKeys es)[i]? = some w → ∃ k v, kvs[i]? = some (k, v) ∧ w = kW k
  | _, _, [], _, _, _, r, e => by cases r; simp at e
  | _, _, x :: ws, kvs, i, w, r, e => by
    obtain ⟨j, u, v, vs, rfl, rfl, r1, r2⟩ := r.inv
    rw [dKeys_c] at e
    cases i with
    | zero => simp at e; exact ⟨j, v, rfl, e.symm⟩
    | succ i =>
      rw [List.getElem?_cons_succ] at e ⊢
      exact keys_get r2 e
theorem keys_len : ∀ {m : Mm} {H : Hp} {es : List W} {kvs : List (Key × V)}, RWe T m H es kvs → (dKeys es).length = kvs.length
  | _, _, [], _, r => by cases r; rfl
  | _, _, x :: ws, kvs, r => by
    obtain ⟨j, u, v, vs, rfl, rfl, r1, r2⟩ := r.inv
    rw [dKeys_c, List.length_cons, List.length_cons, keys_len r2]
theorem kW_ok (m : Mm) (H : Hp) (k : Key) : RW T m H (kW k) (kV k) := by
  cases k with
  | inl i => exact .int i
  | inr s => exact .str s.cps.toList
theorem it_keys {m : Mm} {H : Hp} {d : Addr} {o : Obj} {es : List W} {kvs : List (Key × V)} (r : RWe T m H es kvs) (n : m.fr d) (h : H d = some (.frz o (.dK kvs))) : ItOk T m H (Itk d o kvs) (dKeys es) := fun m' G' H' k g => by
  have q := (k.at_ h n).1
  refine ⟨fun i w e => ?_, fun i hi => ⟨q, by rw [← keys_len r]; exact hi⟩⟩
  obtain ⟨j, v, e1, rfl⟩ := keys_get r e
  refine ⟨⟨q, (List.getElem?_eq_some_iff.mp e1).1⟩, fun x H'' y => ?_⟩
  obtain ⟨rfl, j', v', e2, rfl⟩ := y
  rw [e1] at e2
  cases e2
  exact ⟨.refl _ _, g, kW_ok _ _ _⟩
theorem keysT_get : ∀ {m : Mm} {H : Hp} {es : List W} {kvs : List (List Key × V)} {i : Nat} {w : W}, RWt T m H es kvs → (dKeys es)[i]? = some w → ∃ k v, kvs[i]? = some (k, v) ∧ w = .tup (k.map kW)
  | _, _, _, _, _, _, .nil, e => by simp at e
  | _, _, _, _, 0, w, .cons (ks := ks) (v := v) _ _, e => by
    rw [dKeys_c] at e
    simp at e
    exact ⟨ks, v, rfl, e.symm⟩
  | _, _, _, _, i + 1, w, .cons _ t, e => by
    rw [dKeys_c, List.getElem?_cons_succ] at e
    obtain ⟨k, v, h1, h2⟩ := keysT_get t e
    exact ⟨k, v, by rw [List.getElem?_cons_succ]; exact h1, h2⟩
theorem keysT_len : ∀ {m : Mm} {H : Hp} {es : List W} {kvs : List (List Key × V)}, RWt T m H es kvs → (dKeys es).length = kvs.length
  | _, _, _, _, .nil => rfl
  | _, _, _, _, .cons _ t => by rw [dKeys_c, List.length_cons, List.length_cons, keysT_len t]
theorem kWs_ok (m : Mm) (H : Hp) : ∀ ks : List Key, RWs T m H (ks.map kW) (ks.map kV)
  | [] => .nil
  | k :: ks => .cons (kW_ok m H k) (kWs_ok m H ks)
theorem it_keysT {m : Mm} {H : Hp} {d : Addr} {o : Obj} {es : List W} {kvs : List (List Key × V)} (r : RWt T m H es kvs) (n : m.fr d) (h : H d = some (.frz o (.dT kvs))) : ItOk T m H (Itkt d o kvs) (dKeys es) := fun m' G' H' k g => by
  have q := (k.at_ h n).1
  refine ⟨fun i w e => ?_, fun i hi => ⟨q, by rw [← keysT_len r]; exact hi⟩⟩
  obtain ⟨j, v, e1, rfl⟩ := keysT_get r e
  refine ⟨⟨q, (List.getElem?_eq_some_iff.mp e1).1⟩, fun x H'' y => ?_⟩
  obtain ⟨rfl, j', v', b, e2, rfl, hb⟩ := y
  rw [e1] at e2
  cases e2
  exact ⟨.refl _ _, g, .tup (kWs_ok _ _ _) (.inl ⟨g.tupFr hb, hb⟩)⟩
theorem seq_imp {m : Mm} {H : Hp} {G : Gs} {ls : Ls} {w : W} {v : V} {ws : List W} (r : RW T m H w v) (e : iSeq (eC w) ls G = .ok (.lst ws) G) (R : It → Hp → Prop) (hR : ∀ J, ItOk T m H J ws → R J H) :
    (∃ a xs, v = .ref a ∧ SqL T.K H a xs ∧ R (Itl T.K a) H) ∨ (∃ a xs, v = .ref a ∧ SqT T.K H a xs ∧ R (Itt T.K a) H) ∨ ∃ x, v = .str x ∧ R (Its x) H := by
  cases r with
  | lst r n f => cases e; exact .inl ⟨_, _, rfl, SqL.of f, hR _ (it_lst r fun m' H' k => SqL.of (k.at_ f n).1)⟩
  | fz r f => cases e; exact .inl ⟨_, _, rfl, f.sq, hR _ (it_lst r fun m' H' k => (k.fzL f).sq)⟩
  | tup r f => cases e; exact .inr (.inl ⟨_, _, rfl, f.sq, hR _ (it_tup r fun m' H' k => (k.fzT f).sq)⟩)
  | str s => cases e; exact .inr (.inr ⟨_, rfl, hR _ it_str⟩)
  | _ => cases e
theorem seq_or (w : W) (ls : Ls) (G : Gs) : (∃ ws, iSeq (eC w) ls G = .ok (.lst ws) G) ∨ iSeq (eC w) ls G = .stuck := by
  cases w <;> first | exact .inl ⟨_, rfl⟩ | exact .inr rfl
/-- what is wanted while d is locked -/
theorem OutS.locked {m : Mm} {H : Hp} {D : Ends} {d : Addr} {od : Obj} {u : HO} (hd : H d = some u) (du : DD u) (n : d ∉ m.r) {r : SRes} (h : OutS T W0 m H D r) :
    OutS T W0 m (upd H d (.frz od u)) ⟨fun σ' H' => H' d = some (.frz od u) ∧ D.nx σ' (upd H' d u), fun v H' => H' d = some (.frz od u) ∧ D.rt v (upd H' d u), fun σ' H' => H' d = some (.frz od u) ∧ D.bk σ' (upd H' d u), fun σ' H' => H' d = some (.frz od u) ∧ D.ct σ' (upd H' d u)⟩ r := by
  have key : ∀ {m' : Mm} {H' : Hp}, Keep m (upd H d (.frz od u)) m' H' → H' d = some (.frz od u) ∧ d ∉ m'.r ∧ Keep m H m' (upd H' d u) := fun {m' H'} k => ⟨(k.fzE upd_same n).1, (k.fzE upd_same n).2, Keep.unlock hd k n du.nt.nb⟩
  cases r with
  | nx ls G =>
      intro m' σ' H' k g l
      obtain ⟨e, n', k'⟩ := key k
      exact ⟨e, h m' σ' _ k' (g.unlock e n' du.nt) (l.kr (KR.unlock e))⟩
  | rt w G =>
      intro m' v H' k g r
      obtain ⟨e, n', k'⟩ := key k
      exact ⟨e, h m' v _ k' (g.unlock e n' du.nt) (r.kr (KR.unlock e))⟩
  | bk ls G =>
      intro m' σ' H' k g l
      obtain ⟨e, n', k'⟩ := key k
      exact ⟨e, h m' σ' _ k' (g.unlock e n' du.nt) (l.kr (KR.unlock e))⟩
  | ct ls G =>
      intro m' σ' H' k g l
      obtain ⟨e, n', k'⟩ := key k
      exact ⟨e, h m' σ' _ k' (g.unlock e n' du.nt) (l.kr (KR.unlock e))⟩
  | exc w ls G => exact fun m' σ' c dd H' k g l r => h m' σ' c dd H' ((Keep.lock hd du).trans k) g l r
  | stuck => exact h
theorem fs_forD {is : List Nat} {f : EF} (c : Ctx T X W0) (hi : FPu T X W0 iter f) (hg : FG T X is tg g) (hb : FSs T X W0 body gb) (hs : ∀ x, foldedSetIterable iter X.env x = pure x := by intro _; rfl) : FS T X W0 (.For tg iter body [] pos) (sFor (iSeqD f) g gb) := by
  obtain ⟨nx, te, hi, ii⟩ := hi
  obtain ⟨tg', hg, ig⟩ := hg
  obtain ⟨tb, hb, ib⟩ := hb
  have P1 := ps_for (pos := pos) c.po c.calm (pi_keys (tg := tg) hi) hg hb hs
  have P2 := ps_for (pos := pos) c.po c.calm (pi_sw (tg := tg) hi) hg hb hs
  refine ⟨fun D σ H => tLock (tFor (iKeys te) tg' tb) D σ H ∨ tFor (iKeys te) tg' tb D σ H ∨ tFor (itS X.K te) tg' tb D σ H, ⟨fun pins s σ H D I h => ?_⟩, fun m ls G σ H D hG hL ho => ?_⟩
  · rcases h with h | h | h
    · exact (ps_lock P1).run pins s σ H D I h
    · exact P1.run pins s σ H D I h
    · exact P2.run pins s σ H D I h
  · simp only [sFor, iSeqD_e] at ho
    cases e1 : f ls G with
    | stuck => rw [e1] at ho; exact False.elim ho
    | exc _ _ => exact absurd e1 (nx _ _ _ _)
    | ok w G1 =>
      rw [e1] at ho
      obtain ⟨rfl, v, r, hq⟩ := ii m ls G σ H w G1 hG hL e1
      simp only [Res.bind] at ho
      split at ho
      · rename_i es
        simp only [Res.sbind] at ho
        cases r with
        | @dic _ kvs d r n hd =>
          rcases hd with hd | ⟨od, hd⟩
          · refine .inl ⟨d, _, hd, trivial, fun od => ?_⟩
            have kl : Keep m H m (upd H d (.frz od (.dK kvs))) := Keep.lock hd trivial
            have gl := hG.lock (od := od) hd trivial n.1
            refine for_imp ig ib gl (hL.keep kl) (ws := dKeys es) (fun R hR => ?_) (OutS.locked hd trivial n.1 ho)
            refine hq _ _ (fun a o ha hp => ?_) ⟨d, od, rfl, .inl ⟨kvs, upd_same, hR _ (it_keys (r.keep kl) n upd_same)⟩⟩
            rw [upd_ne (fun e => by subst e; rw [hd] at ha; cases ha; exact hp)]
            exact ha
          · refine .inr (.inl (for_imp ig ib hG hL (ws := dKeys es) (fun R hR => ?_) ho))
            exact hq _ _ (fun a o ha _ => ha) ⟨d, od, rfl, .inl ⟨kvs, hd, hR _ (it_keys r n hd)⟩⟩
        | @dit _ kvs d r z n hd =>
          rcases hd with hd | ⟨od, hd⟩
          · refine .inl ⟨d, _, hd, trivial, fun od => ?_⟩
            have kl : Keep m H m (upd H d (.frz od (.dT kvs))) := Keep.lock hd trivial
            have gl := hG.lock (od := od) hd trivial n.1
            refine for_imp ig ib gl (hL.keep kl) (ws := dKeys es) (fun R hR => ?_) (OutS.locked hd trivial n.1 ho)
            refine hq _ _ (fun a o ha hp => ?_) ⟨d, od, rfl, .inr ⟨kvs, upd_same, hR _ (it_keysT (r.keep kl) n upd_same)⟩⟩
            rw [upd_ne (fun e => by subst e; rw [hd] at ha; cases ha; exact hp)]
            exact ha
          · refine .inr (.inl (for_imp ig ib hG hL (ws := dKeys es) (fun R hR => ?_) ho))
            exact hq _ _ (fun a o ha _ => ha) ⟨d, od, rfl, .inr ⟨kvs, hd, hR _ (it_keysT r n hd)⟩⟩
      · rcases seq_or w ls G1 with ⟨ws, ew⟩ | ew
        · rw [ew] at ho
          refine .inr (.inr (for_imp ig ib hG hL (ws := ws) (fun R hR => ?_) ho))
          refine hq _ _ (fun a o ha _ => ha) ?_
          rw [c.hK]
          exact seq_imp r ew R hR
        · rw [ew] at ho
          exact False.elim ho
end
end U

/-! instances called with keywords alone -/
namespace U
open PySem
open PySem.Spec
open PyProof.Rows
open L2
theorem callO_ofK {M : Model} {A : Around} {E : Value → Shared → Prop} {s : Shared} {a : Addr} {pos : Pos} {Q : Value → Shared → Prop} {args : List (Bool × Sem Value)} {keywords : List (Option Str × Sem Value)} (hplain : (args.any (·.1) || keywords.any (·.1.isNone)) = false)
    (h : wpAny M A (evalArgs (.ref a) true args keywords) (fun z s₁ => (∃ C ox od, PySem.W.InstAt s₁.heap a ox C od ∧ ox.data = .plain) ∧ wpAny M A (call (.ref a) ([] ++ z.pos) z.kw) Q E s₁) E s) : wpAny M A (callWith pos (.ref a) [] args keywords) Q E s := by
  unfold callWith
  refine wpAny_bind (wpAny_holding (wpAny_mono h (fun z s₁ h₁ => wpAny_bind (wpAny_standAt ?_)) fun _ _ y => y))
  obtain ⟨⟨C, ox, od, J, hd⟩, h₁⟩ := h₁
  have L := PySem.W.kco_keeper (M := M) J hd
  simp only [hplain]
  refine wpAny_bind (L.here ?_)
  have tail : ∀ {t : Sem Value}, wpAny M A t Q E s₁ → wpAny M A (t >>= fun r => holding [r] point >>= fun _ => pure r) Q E s₁ :=
    fun ht => wpAny_bind (wpAny_mono ht (fun r s₂ hr => wpAny_bind (wpAny_holding (wpAny_point (wpAny_pure hr)))) fun _ _ y => y)
  exact tail (wpAny_operateT h₁)
section
variable {X : Cx} {CX : CXT} {k : Nat} {g C : Addr} {fd : FuncData} {ps ks : List Str} {sp : Sp} {E : L2.St → XK} {pos : Pos} {fe : Expr} {kws : List Keyword} {tf : TE} {tk : TA} {pm : List Nat} {dvs : List V} {ds : List Value}
def tCallOKSD (X : Cx) (C : Addr) (m : Nat) (sp : Sp) (pm : List Nat) (dvs : List V) (E : L2.St → XK) (tf : TE) (tk : TA) : TE := fun σ H Q => tf σ H fun y H1 => ∃ a, y = V.ref a ∧ tk σ H1 fun zs H2 => StX.InsC X H2 a C ∧ zs.length = m ∧ sp (perm pm ((V.ref a :: []) ++ zs ++ dvs)) H2 Q (E σ)
theorem pe_callOKSD (hf : PE X fe tf) (c : StX.CallO X.K C g) (F : FnOk X.prog X.w X.K X.mg X.base CX k g fd ps sp) (hr : Room k X.A) (hb : KB X.K fd ps 1 ks ds pm) (hd : Vals dvs ds) (hx : ∀ σ, PassesAt CX X σ (E σ)) (hkw : PK X kws tk)
    (ht : eval (.Call fe [] kws pos) X.env = (do callWith pos (← eval fe X.env) [] (backTo pos (starEach [] X.env)) (backToKw pos (keywordEach kws X.env))) := by rfl)
    (hall : (backToKw pos (keywordEach kws X.env)).all (·.1.isSome) = true := by rfl) (hks : (backToKw pos (keywordEach kws X.env)).filterMap (·.1) = ks := by rfl)
    (hpl : ((backTo pos (starEach [] X.env)).any (·.1) || (backToKw pos (keywordEach kws X.env)).any (·.1.isNone)) = false := by rfl) : PE X (.Call fe [] kws pos) (tCallOKSD X C ks.length sp pm dvs E tf tk) := by
  refine ⟨fun pins s σ H Q I h => ?_⟩
  rw [ht]
  refine wpAny_bind (thn (hf.run pins s σ H _ I h) fun u s1 ⟨y, H1, I1, ry, a, ey, q⟩ => ?_)
  subst ey
  obtain rfl : u = Value.ref a := ry
  refine callO_ofK hpl (evalArgs_kw2_nil hall (thn (hkw.run pos pins s1 σ H1 _ I1 q) fun us s2 ⟨zs, H2, I2, r, hi, ln, q2⟩ => ?_))
  obtain ⟨ox, od, J, hdd⟩ := StX.insC_at I2 hi
  refine ⟨⟨C, ox, od, J, hdd⟩, ?_⟩
  rw [hks]
  refine wpAny_call (PySem.W.kco_code I2.kIn J hdd c.at_ c.fn c.fi ?_)
  exact code_fnKSD (n := 1) (us := [.ref a]) (ws := us) (vs := [.ref a]) (zs := zs) F hr hb hd (hx σ) I2 (.cons rfl .nil) r rfl (by rw [← r.length, ln]) q2
end
structure CallKOk (T : Tx) (P : Program) (w : World) (mg : Str → Option Value) (base : Heap) (k c n2 : Nat) (F : Fn) (dws : List W) (ks : List Str) (pm : List Nat) : Prop where
  ok : ∃ (C f : Addr) (fd : FuncData) (ps : List Str) (dvs : List V) (ds : List Value), T.ct c = some C ∧ StX.CallO T.K C f ∧ FnOk P w T.K mg base (L2.CX P w) k f fd ps (spF T n2 F) ∧ KB T.K fd ps 1 ks ds pm ∧ Dfl T dws dvs ds
/-- f(k = v), f an instance -/
def eCallOK (tbl : List (Nat × (Fn × List W))) (ff fk : EF) : EF := fun ls G => (ff ls G).bind fun o G1 => match clsOf o G1 with
  | some c => (match tbl.lookup c with
    | some p => (fk ls G1).bind fun w G2 => asT w fun ws => if clsOf o G2 = some c then p.1 ([o] ++ ws ++ p.2) G2 else .stuck
    | none => .stuck)
  | none => .stuck
@[simp] theorem eCallOK_e (tbl : List (Nat × (Fn × List W))) (ff fk : EF) (ls : Ls) (G : Gs) : eCallOK tbl ff fk ls G = (ff ls G).bind fun o G1 => match clsOf o G1 with
  | some c => (match tbl.lookup c with
    | some p => (fk ls G1).bind fun w G2 => asT w fun ws => if clsOf o G2 = some c then p.1 ([o] ++ ws ++ p.2) G2 else .stuck
    | none => .stuck)
  | none => .stuck := rfl
section
variable {T : Tx} {X : Cx} {W0 : WX} {fe : Expr} {kws : List Keyword} {ff fk : EF} {pos : Pos} {k n2 c : Nat} {F : Fn} {dws : List W} {ks : List Str} {pm : List Nat}
theorem fe_callOK1 (cx : Ctx T X W0) (h : FE T X W0 fe ff) (M : CallKOk T X.prog X.w X.mg X.base k c n2 F dws ks pm) (hr : Room k X.A) (ha : FK T X W0 kws fk) (hl : ∀ ls G ws G1, fk ls G = .ok (.tup ws) G1 → ws.length = ks.length) (hp : ∀ ws : List W, ws.length = ks.length + dws.length + 1 → (perm pm ws).length = n2)
    (ht : eval (.Call fe [] kws pos) X.env = (do callWith pos (← eval fe X.env) [] (backTo pos (starEach [] X.env)) (backToKw pos (keywordEach kws X.env))) := by rfl)
    (hall : (backToKw pos (keywordEach kws X.env)).all (·.1.isSome) = true := by rfl) (hks : (backToKw pos (keywordEach kws X.env)).filterMap (·.1) = ks := by rfl)
    (hpl : ((backTo pos (starEach [] X.env)).any (·.1) || (backToKw pos (keywordEach kws X.env)).any (·.1.isNone)) = false := by rfl) : FE T X W0 (.Call fe [] kws pos) (eCallOK [(c, (permF pm F, dws))] ff fk) := by
  obtain ⟨tf, h, ia⟩ := h
  obtain ⟨t, ha, it⟩ := ha
  obtain ⟨C, f, fd, ps, dvs, ds, hC, hCall, hF, hb, hd⟩ := M.ok
  have hK := cx.hK
  refine ⟨_, pe_callOKSD (E := WE W0) h (by rw [hK]; exact hCall) (by rw [hK]; exact hF) hr (by rw [hK]; exact hb) hd.1 (passAt cx.tk) ha ht hall hks hpl, fun mm ls G σ H Q hG hL ho => ?_⟩
  rw [eCallOK_e] at ho
  refine ia.go hG hL ho fun w G1 m1 v H1 k1 g1 r1 l1 o1 => ?_
  split at o1
  · rename_i c' e1
    have hlk : [(c, (permF pm F, dws))].lookup c' = if c' == c then some (permF pm F, dws) else none := by simp only [List.lookup_cons, List.lookup_nil]; split <;> rename_i h <;> simp [h]
    rw [hlk] at o1
    by_cases hcc : (c' == c) = true
    · rw [if_pos hcc] at o1
      obtain rfl := beq_iff_eq.mp hcc
      obtain ⟨a, C', dx, vs, xs, rfl, hc, h1, h2, r, l⟩ := ins_ok g1 r1 e1
      refine ⟨a, rfl, ?_⟩
      refine it m1 ls G1 σ H1 _ g1 l1 ?_
      simp only at o1
      cases e2 : fk ls G1 with
      | stuck => rw [e2] at o1; exact o1
      | exc w G2 => rw [e2] at o1; exact o1
      | ok w2 G2 =>
        rw [e2] at o1
        cases w2 with
        | tup ws =>
          refine ⟨ws, rfl, fun m2 us H2 k2 g2 r2 => ?_⟩
          simp only [Res.bind, asT_e1] at o1
          split at o1
          · rename_i e3
            obtain ⟨a2, C2, dx2, vs2, xs2, ea, hc2, h12, _, _, _⟩ := ins_ok g2 (r1.keep k2) e3
            cases ea
            rw [hC] at hc2
            cases hc2
            refine ⟨.inr ⟨dx2, _, h12⟩, by rw [← r2.length, hl ls G1 ws G2 e2], ?_⟩
            exact ⟨m2, G2, perm pm ([w] ++ ws ++ dws), g2, perm_rws (((RWs.cons (r1.keep k2) .nil).append r2).append (hd.2 m2 H2)), hp _ (by have := hl ls G1 ws G2 e2; simp only [List.length_append, List.length_cons, List.length_nil]; omega), Out.wx (Out.keep k2 o1) fun _ _ _ h => h⟩
          · exact False.elim o1
        | _ => exact False.elim o1
    · rw [if_neg hcc] at o1
      exact False.elim o1
  · exact False.elim o1
theorem fe_callOKT {tbl : List (Nat × (Fn × List W))} {E : Expr} (h : ∀ p ∈ tbl, FE T X W0 E (eCallOK [p] ff fk)) (hne : tbl ≠ []) : FE T X W0 E (eCallOK tbl ff fk) := by
  refine ⟨_, pe_ex (ι := {p // p ∈ tbl}) fun p => (Classical.choose_spec (h p.1 p.2)).1, fun mm ls G σ H Q hG hL ho => ?_⟩
  have go : ∀ p (hp : p ∈ tbl), eCallOK tbl ff fk ls G = eCallOK [p] ff fk ls G → ∃ i : {p // p ∈ tbl}, Classical.choose (h i.1 i.2) σ H Q := fun p hp he => ⟨⟨p, hp⟩, (Classical.choose_spec (h p hp)).2 mm ls G σ H Q hG hL (by rw [← he]; exact ho)⟩
  cases e1 : ff ls G with
  | stuck => rw [eCallOK_e, e1] at ho; exact False.elim ho
  | exc w G1 =>
    obtain ⟨p, hp⟩ := List.exists_mem_of_ne_nil tbl hne
    exact go p hp (by rw [eCallOK_e, eCallOK_e, e1]; rfl)
  | ok w G1 =>
    rw [eCallOK_e, e1] at ho
    simp only [Res.bind] at ho
    split at ho
    · rename_i c e2
      split at ho
      · rename_i p e3
        refine go (c, p) (lookup_mem e3) ?_
        rw [eCallOK_e, eCallOK_e, e1]
        simp only [Res.bind, e2, e3]
        have : [(c, p)].lookup c = some p := by simp
        rw [this]
      · exact False.elim ho
    · exact False.elim ho
end
end U

/-! small facts that printed proofs lean on -/
namespace U
open PySem
open L2
theorem perm_lenG {pm : List Nat} {n m : Nat} (h : (pm.all fun i => decide (i < n)) = true) (hm : pm.length = m) : ∀ ws : List W, ws.length = n → (perm pm ws).length = m := by
  intro ws hw
  subst hm
  induction pm with
  | nil => rfl
  | cons i pm ih =>
    rw [List.all_cons, Bool.and_eq_true] at h
    have hi := of_decide_eq_true h.1
    unfold perm at ih ⊢
    have e : ws[i]? = some (ws[i]'(by omega)) := List.getElem?_eq_getElem (by omega)
    rw [List.filterMap_cons, e]
    simp only [List.length_cons]
    rw [ih h.2]
theorem hl_s {fa : EF} {n m : Nat} (h : ∀ ls G ws G1, fa ls G = .ok (.tup ws) G1 → ws.length = n) (e : n + 1 = m) : ∀ ls G ws G1, fa ls G = .ok (.tup ws) G1 → ws.length + 1 = m := fun ls G ws G1 q => by rw [h ls G ws G1 q]; exact e
theorem fldOk_of {T : Tx} {f : Str} {c i : Nat} {l : List Str} (hl : T.lay c = l) (h : (l[i]? == some f && (l.take i).all fun g => g != f) = true) (ok : ∀ C, T.ct c = some C → Cls T.K C ∧ NoAttr T.K C f) : FldOk T f c i := by
  rw [Bool.and_eq_true] at h
  subst hl
  refine ⟨beq_iff_eq.mp h.1, fun j hj e => ?_, ok⟩
  have hm : f ∈ (T.lay c).take i := by
    refine List.mem_of_getElem? (i := j) ?_
    rw [List.getElem?_take_of_lt hj]
    exact e
  have := List.all_eq_true.mp h.2 f hm
  simp at this
theorem fss_stuck {T : Tx} {X : Cx} {W0 : WX} {st : List Stmt} : FSs T X W0 st sStuck := ⟨fun _ _ _ => False, ⟨fun _ _ _ _ _ _ h => False.elim h⟩, fun _ _ _ _ _ _ _ _ ho => ho⟩
theorem dfl_nil : Dfl T [] [] [] := dfl0
theorem law_spA {K : PySem.W.Frag} {H : Hp} {a : Addr} {ns : List Int} {F : Fn} {G : Gs} (hS : SqL K H a (ns.map V.int)) (h : F [.fz (ns.map .int)] [] = .ok (.bl true) G) : ∀ (ct : Nat → Option Addr) (lay : Nat → List Str), spF ⟨K, ct, lay, [], none⟩ 1 F [.ref a] H (fun v _ => v = .bl true) fun _ _ _ => False :=
  fun ct lay => law_sp (T := ⟨K, ct, lay, [], none⟩) (fun _ h => nomatch h) rfl hS h
end U

/-! texts cut and read; a field counted up; an instance that stays; a dict of the module -/
namespace U
open PySem PySem.Spec PyProof.Rows
open L2
def strO (s : Str) : W := .str s.cps.toList
theorem strO_ok {T : Tx} {m : Mm} {H : Hp} (s : Str) : RW T m H (strO s) (.str s) := .str s.cps.toList
theorem strsO_ok {T : Tx} {m : Mm} {H : Hp} : ∀ ss : List Str, RWs T m H (ss.map strO) (ss.map V.str)
  | [] => .nil
  | s :: r => .cons (strO_ok s) (strsO_ok r)
/-! ### s.split(t), s.startswith(t) -/
def splitL (s t : List Nat) : List W := (Txt.split ⟨s.toArray⟩ ⟨t.toArray⟩).map strO
def eSplit (fo fa : EF) : EF := fun ls G => (fo ls G).bind fun o G1 => match o with
  | .str s => (fa ls G1).bind fun w G2 => match w with
    | .str t => if t ≠ [] ∧ s.length + 2 ≤ SZ then .ok (.lst (splitL s t)) G2 else .stuck
    | _ => .stuck
  | _ => .stuck
@[simp] theorem eSplit_e (fo fa : EF) (ls : Ls) (G : Gs) : eSplit fo fa ls G = (fo ls G).bind fun o G1 => match o with
  | .str s => (fa ls G1).bind fun w G2 => match w with
    | .str t => if t ≠ [] ∧ s.length + 2 ≤ SZ then .ok (.lst (splitL s t)) G2 else .stuck
    | _ => .stuck
  | _ => .stuck := rfl
def eStarts (fo fa : EF) : EF := fun ls G => (fo ls G).bind fun o G1 => match o with
  | .str s => (fa ls G1).bind fun w G2 => match w with
    | .str t => .ok (.bl (Txt.startswith ⟨s.toArray⟩ ⟨t.toArray⟩)) G2
    | _ => .stuck
  | _ => .stuck
@[simp] theorem eStarts_e (fo fa : EF) (ls : Ls) (G : Gs) : eStarts fo fa ls G = (fo ls G).bind fun o G1 => match o with
  | .str s => (fa ls G1).bind fun w G2 => match w with
    | .str t => .ok (.bl (Txt.startswith ⟨s.toArray⟩ ⟨t.toArray⟩)) G2
    | _ => .stuck
  | _ => .stuck := rfl
section
variable {T : Tx} {X : Cx} {W0 : WX} {o e : Expr} {fo fa : EF} {apos pos : Pos}
theorem fe_split (c : Ctx T X W0) (ho : FE T X W0 o fo) (he : FE T X W0 e fa) (hs : starEach [e] X.env = [(false, eval e X.env)] := by rfl) (hbase : attributeBase o "split" X.env (eval o X.env) = eval o X.env := by rfl) (hline : (apos.endLine == pos.line) = true := by rfl) :
    FE T X W0 (.Call (.Attribute o "split" apos) [e] [] pos) (eSplit fo fa) := by
  obtain ⟨t, ho, i⟩ := ho
  obtain ⟨te, he, ie⟩ := he
  refine ⟨_, pe_split ho he hs hbase hline, fun m ls G σ H Q hG hL hq => ?_⟩
  refine i.go hG hL hq fun w G1 m1 v H1 k1 g1 r1 l1 o1 => ?_
  cases r1 with
  | str s =>
    refine ⟨⟨_, rfl⟩, ?_⟩
    refine ie.go g1 l1 o1 fun w2 G2 m2 v2 H2 k2 g2 r2 l2 o2 => ?_
    cases r2 with
    | str t =>
      simp only at o2
      split at o2
      · rename_i h
        refine ⟨_, _, rfl, rfl, ?_, by rw [str_len, ← sz_eq]; exact h.2, fun p hp => o2.newL g2 (strsO_ok _) hp⟩
        rw [str_len]
        cases t with
        | nil => exact absurd rfl h.1
        | cons _ _ => rfl
      · exact False.elim o2
    | _ => exact False.elim o2
  | _ => exact False.elim o1
theorem fe_starts (c : Ctx T X W0) (ho : FE T X W0 o fo) (he : FE T X W0 e fa) (hs : starEach [e] X.env = [(false, eval e X.env)] := by rfl) (hbase : attributeBase o "startswith" X.env (eval o X.env) = eval o X.env := by rfl) (hline : (apos.endLine == pos.line) = true := by rfl) :
    FE T X W0 (.Call (.Attribute o "startswith" apos) [e] [] pos) (eStarts fo fa) := by
  obtain ⟨t, ho, i⟩ := ho
  obtain ⟨te, he, ie⟩ := he
  refine ⟨_, pe_m1 PySem.F.slot_str_startswith PySem.F.type_str_startswith mt_startswith ho he hs hbase hline, fun m ls G σ H Q hG hL hq => ?_⟩
  refine i.go hG hL hq fun w G1 m1 v H1 k1 g1 r1 l1 o1 => ?_
  cases r1 with
  | str s =>
    refine ⟨⟨_, rfl⟩, ?_⟩
    refine ie.go g1 l1 o1 fun w2 G2 m2 v2 H2 k2 g2 r2 l2 o2 => ?_
    cases r2 with
    | str t => exact ⟨_, _, rfl, rfl, o2.now g2 (.bl _)⟩
    | _ => exact False.elim o2
  | _ => exact False.elim o1
end
/-! ### int(text) -/
def intD : List W → Gs → Res
  | [.str s], G => if s.length ≤ 640 then (match PySem.intText? ⟨s.toArray⟩ with
    | some n => .ok (.int n) G
    | none => .stuck) else .stuck
  | ws, G => intW ws G
@[simp] theorem intD_e1 (s : List Nat) (G : Gs) : intD [.str s] G = if s.length ≤ 640 then (match PySem.intText? ⟨s.toArray⟩ with
    | some n => .ok (.int n) G
    | none => .stuck) else .stuck := rfl
@[simp] theorem intD_e2 (i : Int) (G : Gs) : intD [.int i] G = .ok (.int i) G := rfl
@[simp] theorem intD_e3 (b : Bool) (G : Gs) : intD [.bl b] G = .ok (.int (if b then 1 else 0)) G := rfl
theorem ib_intD {T : Tx} {W0 : WX} : ImpB T W0 (fun xs H Q => ((∃ i, xs = [.int i] ∧ Q (.int i) H) ∨ ∃ k, xs = [.bl k] ∧ Q (.int (if k then 1 else 0)) H) ∨ ∃ a n, xs = [.str a] ∧ PySem.intText? a = some n ∧ a.length ≤ 640 ∧ Q (.int n) H) intD := by
  intro m G σ H Q ws vs hG r0 ho
  unfold intD at ho
  split at ho
  · obtain ⟨v, rfl, r⟩ := r0.inv1
    cases r
    split at ho
    · rename_i h
      split at ho
      · rename_i n e
        exact .inr ⟨_, n, rfl, e, by rw [str_len]; exact h, ho.now hG (.int _)⟩
      · exact False.elim ho
    · exact False.elim ho
  · exact .inl (ib_int (W0 := W0) m G σ H Q ws vs hG r0 ho)
/-! ### self.f += e -/
def sFldAugW (tbl : List (Nat × Nat)) (fo fv : EF) : SF := fun ls G => (fo ls G).sbind ls fun o G1 => match o with
  | .ref i => (match G1[i]? with
    | some (.ins c xs) => (match tbl.lookup c with
      | some j => (match xs[j]? with
        | some (.int a) => (fv ls G1).sbind ls fun w G2 => match w with
          | .int b => (match G2[i]? with
            | some (.ins c2 ys) => if c2 = c ∧ j < ys.length then .nx ls (G2.set i (.ins c (ys.set j (.int (a + b))))) else .stuck
            | _ => .stuck)
          | _ => .stuck
        | _ => .stuck)
      | none => .stuck)
    | _ => .stuck)
  | _ => .stuck
@[simp] theorem sFldAugW_e (tbl : List (Nat × Nat)) (fo fv : EF) (ls : Ls) (G : Gs) : sFldAugW tbl fo fv ls G = (fo ls G).sbind ls fun o G1 => match o with
  | .ref i => (match G1[i]? with
    | some (.ins c xs) => (match tbl.lookup c with
      | some j => (match xs[j]? with
        | some (.int a) => (fv ls G1).sbind ls fun w G2 => match w with
          | .int b => (match G2[i]? with
            | some (.ins c2 ys) => if c2 = c ∧ j < ys.length then .nx ls (G2.set i (.ins c (ys.set j (.int (a + b))))) else .stuck
            | _ => .stuck)
          | _ => .stuck
        | _ => .stuck)
      | none => .stuck)
    | _ => .stuck)
  | _ => .stuck := rfl
section
variable {T : Tx} {X : Cx} {W0 : WX} {o value : Expr} {fo fv : EF} {pos tpos : Pos} {a : Str}
theorem fs_fldaug (cx : Ctx T X W0) (h : FE T X W0 o fo) (hv : FE T X W0 value fv) {tbl : List (Nat × Nat)} (ht : ∀ p ∈ tbl, FldOk T a p.1 p.2 ∧ (T.lay p.1).length < 1000) :
    FS T X W0 (.AugAssign (.Attribute o a tpos) .Add value pos) (sFldAugW tbl fo fv) := by
  obtain ⟨t, h, i⟩ := h
  obtain ⟨tv, hv, iv⟩ := hv
  refine ⟨_, ps_fldaug h hv in_add, fun m ls G σ H D hG hL ho => ?_⟩
  rw [sFldAugW_e] at ho
  refine i.goS hG hL ho fun ob G1 m1 x H1 k1 g1 r1 l1 o1 => ?_
  split at o1
  · rename_i ix
    cases r1 with
    | @ref _ ad hp =>
    split at o1
    · rename_i c xs hg
      obtain ⟨C, dx, vs, hc, h1, l, r⟩ := g1.ob ix _ ad hg hp
      split at o1
      · rename_i j ej
        obtain ⟨F, hlay⟩ := ht _ (lookup_mem ej)
        have hlay : (T.lay c).length < 1000 := hlay
        obtain ⟨hC, hN⟩ := F.ok C hc
        split at o1
        · rename_i z ez
          obtain ⟨v', ev, rv⟩ := r.get ez
          cases rv
          refine ⟨ad, C, dx, _, _, rfl, h1, by rw [cx.hK]; exact hC, by rw [cx.hK]; exact hN, lookup_zip F.at_ F.fst ev, ?_⟩
          refine iv.goS g1 l1 o1 fun w G2 m2 y H2 k2 g2 r2 l2 o2 => ?_
          split at o2
          · rename_i b
            cases r2
            split at o2
            · rename_i c2 ys hg2
              split at o2
              · rename_i hh
                obtain ⟨rfl, hj⟩ := hh
                have hp2 := k2.get hp
                obtain ⟨C2, dx2, vs2, hc2, h2, l2', r2'⟩ := g2.ob ix _ ad hg2 hp2
                rw [hc] at hc2
                cases hc2
                have hlen := r2'.length
                have hj' : j < vs2.length := by omega
                have kw : ∀ {u : HO} (hu : Nb u := by exact trivial), Keep m2 H2 m2 (upd H2 ad u) := fun {u} hu => Keep.write (List.mem_of_getElem? hp2) hu
                refine ⟨_, _, rfl, rfl, dx2, _, h2, by rw [List.length_zip]; omega, ?_⟩
                rw [putF_set F.at_ F.fst hj']
                exact o2 m2 σ _ kw (g2.write hp2 ⟨C, dx2, vs2.set j (.int (z + b)), hc, upd_same, by rw [List.length_set]; exact l2', (r2'.set (.int _) j).keep kw⟩) (l2.keep kw)
              · exact False.elim o2
            · exact False.elim o2
          · exact False.elim o2
        · exact False.elim o1
      · exact False.elim o1
    · exact False.elim o1
  · exact False.elim o1
end
/-! ### an instance made that stays changing -/
section
variable {T : Tx} {X : Cx} {W0 : WX} {e : Expr} {es : List Expr} {fa : EF} {p pos : Pos} {x : Str} {k n c : Nat} {F : Fn} {dws : List W}
theorem fe_makeL (cx : Ctx T X W0) (M : MakeOk T X.prog X.w X.mg X.base k x c n F dws) (hr : Room (k + 1) X.A) (ha : FA T X W0 (e :: es) fa) (hl : ∀ ls G ws G1, fa ls G = .ok (.tup ws) G1 → ws.length + dws.length + 1 = n) (hg : Gl X x := by rfl) (hdb : (x == ("__debug__" : Str)) = false := by decide +kernel)
    (he : starEach (e :: es) X.env = (false, eval e X.env) :: starEach es X.env := by rfl) (hpl : (backTo pos (starEach es X.env)).any (·.1) = false := by rfl) : FE T X W0 (.Call (.Name x p) (e :: es) [] pos) (eFn (mkI c F) dws fa) := by
  obtain ⟨t, ha, it⟩ := ha
  obtain ⟨C, f, fd, ps, dvs, ds, hC, hm, hM, hF, hb, hd⟩ := M.ok
  have hK := cx.hK
  exact ⟨_, pe_makeSD (E := WE W0) (by rw [hK]; exact hM) (by rw [hK]; exact hF) hr hg hm (by rw [hK]; exact hb) hd.1 (passAt cx.tk) ha hdb he hpl, make_imp hC hd.2 it hl⟩
end
/-! ### a dict of the module with text keys -/
def kLook : List (List Nat × Int) → List Nat → Option Int
  | [], _ => none
  | p :: r, s => if p.1 = s then some p.2 else kLook r s
def eKIx (tbl : List (List Nat × Int)) (fi : EF) : EF := fun ls G => (fi ls G).bind fun w G1 => match w with
  | .str s => (match kLook tbl s with
    | some i => .ok (.int i) G1
    | none => .stuck)
  | _ => .stuck
@[simp] theorem eKIx_e (tbl : List (List Nat × Int)) (fi : EF) (ls : Ls) (G : Gs) : eKIx tbl fi ls G = (fi ls G).bind fun w G1 => match w with
  | .str s => (match kLook tbl s with
    | some i => .ok (.int i) G1
    | none => .stuck)
  | _ => .stuck := rfl
def eKIn (tbl : List (List Nat × Int)) (fi : EF) : EF := fun ls G => (fi ls G).bind fun w G1 => match w with
  | .str s => (match kLook tbl s with
    | some i => .ok (.bl true) G1
    | none => .stuck)
  | _ => .stuck
@[simp] theorem eKIn_e (tbl : List (List Nat × Int)) (fi : EF) (ls : Ls) (G : Gs) : eKIn tbl fi ls G = (fi ls G).bind fun w G1 => match w with
  | .str s => (match kLook tbl s with
    | some i => .ok (.bl true) G1
    | none => .stuck)
  | _ => .stuck := rfl
theorem kLook_mem : ∀ {tbl : List (List Nat × Int)} {s : List Nat} {i : Int}, kLook tbl s = some i → (s, i) ∈ tbl
  | p :: r, s, i, h => by
    simp only [kLook] at h
    split at h
    · rename_i e
      cases h
      rw [← e]
      exact List.mem_cons_self
    · exact List.mem_cons_of_mem _ (kLook_mem h)
def rKIn (K : PySem.W.Frag) (w : World) : R2 := fun x y H Q => ∃ p z v, x = .str z ∧ y = .ref p ∧ (p == sysModules) = false ∧ KDct K w p z v ∧ Q (.bl true) H
theorem op_kin {X : Cx} : OpR X (compareOp .In) (rKIn X.K X.w) := by
  intro pins s σ H x y v u Q I rx ry h
  obtain ⟨p, z, r, rfl, rfl, hsys, ⟨es, n, u0, hl, hk, e, ru⟩, q⟩ := h
  obtain rfl : u = Value.ref p := ry
  obtain ⟨t, rfl⟩ := rx
  have hm := PySem.W.mapOf_K (prog := X.prog) (w := X.w) I.kIn hl hk
  refine wpAny_in_of (strKind_is X.prog X.w z t) hsys hm ?_
  rw [PySem.W.find_K hl e]
  exact ⟨.bl true, H, I.tok _, rfl, q⟩
section
variable {T : Tx} {X : Cx} {W0 : WX} {b : Expr} {fb : EF} {p pos : Pos} {x : Str} {E : Addr}
theorem fe_kix (c : Ctx T X W0) {tbl : List (List Nat × Int)} (hE : X.mg x = some (.ref E)) (ht : ∀ q ∈ tbl, KDct T.K X.w E ⟨q.1.toArray⟩ (.int q.2)) (hb : FE T X W0 b fb) (hg : Gl X x := by rfl) (hdb : (x == ("__debug__" : Str)) = false := by decide +kernel) (hs : PlainIx b := by exact fun _ _ => rfl) :
    FE T X W0 (.Subscript (.Name x p) b pos) (eKIx tbl fb) := by
  obtain ⟨t, hb, i⟩ := hb
  refine ⟨_, pe_ix ix_kdict (pe_glob (v := .ref E) hg hE rfl hdb) hb hs, fun m ls G σ H Q hG hL ho => ?_⟩
  refine i.go hG hL ho fun w G1 m1 v H1 k1 g1 r1 l1 o1 => ?_
  split at o1
  · cases r1
    split at o1
    · rename_i s i e
      exact ⟨E, _, .int i, rfl, rfl, by rw [c.hK]; exact ht _ (kLook_mem e), o1.now g1 (.int i)⟩
    · exact False.elim o1
  · exact False.elim o1
theorem fe_kin (c : Ctx T X W0) {tbl : List (List Nat × Int)} (hE : X.mg x = some (.ref E)) (hsys : (E == sysModules) = false) (ht : ∀ q ∈ tbl, KDct T.K X.w E ⟨q.1.toArray⟩ (.int q.2)) (hb : FE T X W0 b fb) (hg : Gl X x := by rfl) (hdb : (x == ("__debug__" : Str)) = false := by decide +kernel) (hm : behindInMarks .In (.Name x p) = false := by rfl) :
    FE T X W0 (.Compare b [.In] [.Name x p] pos) (eKIn tbl fb) := by
  obtain ⟨t, hb, i⟩ := hb
  refine ⟨_, pe_cmpR op_kin hb (pe_glob (v := .ref E) hg hE rfl hdb) hm, fun m ls G σ H Q hG hL ho => ?_⟩
  refine i.go hG hL ho fun w G1 m1 v H1 k1 g1 r1 l1 o1 => ?_
  split at o1
  · cases r1
    split at o1
    · rename_i s i e
      exact ⟨E, _, .int i, rfl, rfl, hsys, by rw [c.hK]; exact ht _ (kLook_mem e), o1.now g1 (.bl true)⟩
    · exact False.elim o1
  · exact False.elim o1
end
theorem kdct_of {K : PySem.W.Frag} {w : World} {E : Addr} {es : Array DictEntry} {n : Nat} {v : Int} {t : Tok} (x : Str) (c : List Nat) (hx : x = ⟨c.toArray⟩) (l : K.lookup E = some ⟨.type "dict", none, .dict es n, #[]⟩) (k : PySem.W.KeysLit w.params es.toList) (e : PySem.W.nsIn K E x = some (some (.int v t))) : KDct K w E ⟨c.toArray⟩ (.int v) := by
  subst hx
  exact ⟨_, _, _, l, k, e, ⟨t, rfl⟩⟩
theorem fe_constI {T : Tx} {X : Cx} {W0 : WX} {x : Str} {v : Int} {t : Tok} {pos : Pos} (hm : X.mg x = some (.int v t)) (hg : Gl X x := by rfl) (hdb : (x == ("__debug__" : Str)) = false := by decide +kernel) : FE T X W0 (.Name x pos) (eC (.int v)) :=
  ⟨_, pe_glob (v := .int v) hg hm ⟨t, rfl⟩ hdb, fun m _ _ _ H _ hG _ ho => ho m _ H (.refl m H) hG (.int v)⟩
theorem hl_l {fa : EF} {n d m : Nat} (h : ∀ ls G ws G1, fa ls G = .ok (.tup ws) G1 → ws.length = n) (e : n + d + 1 = m) : ∀ ls G ws G1, fa ls G = .ok (.tup ws) G1 → ws.length + d + 1 = m := fun ls G ws G1 q => by rw [h ls G ws G1 q]; exact e
end U

/-! sorted: a dict with keys that are tuples of ints, a list of ints -/
namespace U
open PySem PySem.Spec PyProof.Rows
open L2
/-! ### the order of rows of ints -/
def lexL : List Int → List Int → Bool
  | [], [] => false
  | [], _ :: _ => true
  | _ :: _, [] => false
  | a :: r, b :: q => if a = b then lexL r q else decide (a < b)
theorem lexL_asym : ∀ x y, lexL x y = true → lexL y x = false
  | [], [], h => by simp [lexL] at h
  | [], _ :: _, _ => rfl
  | _ :: _, [], h => by simp [lexL] at h
  | a :: r, b :: q, h => by
    simp only [lexL] at h ⊢
    by_cases e : a = b
    · subst e
      rw [if_pos rfl] at h ⊢
      exact lexL_asym r q h
    · rw [if_neg e] at h
      rw [if_neg (fun z => e z.symm)]
      have h := of_decide_eq_true h
      exact decide_eq_false (by omega)
theorem lexL_tr : ∀ x y z, lexL y x = false → lexL z y = false → lexL z x = false
  | [], _, [], _, _ => rfl
  | [], [], _ :: _, _, _ => rfl
  | [], _ :: _, _ :: _, _, _ => rfl
  | _ :: _, [], _, h, _ => by simp [lexL] at h
  | _ :: _, _ :: _, [], _, h => by simp [lexL] at h
  | a :: r, b :: q, c :: p, h1, h2 => by
    simp only [lexL] at h1 h2 ⊢
    by_cases e1 : b = a
    · subst e1
      rw [if_pos rfl] at h1
      by_cases e2 : c = b
      · subst e2
        rw [if_pos rfl] at h2 ⊢
        exact lexL_tr r q p h1 h2
      · rw [if_neg e2] at h2 ⊢
        exact h2
    · rw [if_neg e1] at h1
      have h1 := of_decide_eq_false h1
      by_cases e2 : c = b
      · subst e2
        rw [if_neg e1]
        exact decide_eq_false h1
      · rw [if_neg e2] at h2
        have h2 := of_decide_eq_false h2
        rw [if_neg (by omega)]
        exact decide_eq_false (by omega)
theorem lexL_eq : ∀ x y, lexL x y = false → lexL y x = false → x = y
  | [], [], _, _ => rfl
  | [], _ :: _, h, _ => by simp [lexL] at h
  | _ :: _, [], _, h => by simp [lexL] at h
  | a :: r, b :: q, h1, h2 => by
    simp only [lexL] at h1 h2
    by_cases e : a = b
    · subst e
      rw [if_pos rfl] at h1 h2
      rw [lexL_eq r q h1 h2]
    · rw [if_neg e] at h1
      rw [if_neg (fun z => e z.symm)] at h2
      have h1 := of_decide_eq_false h1
      have h2 := of_decide_eq_false h2
      omega
theorem swo_lexL {α : Type} (k : α → List Int) : SrtO.Swo fun v u => lexL (k v) (k u) := ⟨fun x y => lexL_asym _ _, fun x y z => lexL_tr _ _ _⟩
def insT (x : List Int) : List (List Int) → List (List Int)
  | [] => [x]
  | y :: r => if lexL y x then y :: insT x r else x :: y :: r
def sortT : List (List Int) → List (List Int)
  | [] => []
  | x :: r => insT x (sortT r)
theorem insT_perm (x : List Int) : ∀ l, (insT x l).Perm (x :: l)
  | [] => List.Perm.refl _
  | y :: r => by
    simp only [insT]
    split
    · exact ((insT_perm x r).cons y).trans (List.Perm.swap x y r)
    · exact List.Perm.refl _
theorem sortT_perm : ∀ l, (sortT l).Perm l
  | [] => List.Perm.refl _
  | x :: r => (insT_perm x _).trans ((sortT_perm r).cons x)
abbrev SrtL (l : List (List Int)) : Prop := l.Pairwise fun x y => lexL y x = false
theorem insT_srt (x : List Int) : ∀ {l}, SrtL l → SrtL (insT x l)
  | [], _ => List.pairwise_singleton _ _
  | y :: r, h => by
    obtain ⟨h1, h2⟩ := List.pairwise_cons.mp h
    simp only [insT]
    split
    · rename_i e
      refine List.pairwise_cons.mpr ⟨fun z hz => ?_, insT_srt x h2⟩
      rcases List.mem_cons.mp ((insT_perm x r).mem_iff.mp hz) with rfl | hz
      · exact lexL_asym _ _ e
      · exact h1 z hz
    · rename_i e
      have e : lexL y x = false := by simpa using e
      refine List.pairwise_cons.mpr ⟨fun z hz => ?_, h⟩
      rcases List.mem_cons.mp hz with rfl | hz
      · exact e
      · exact lexL_tr _ _ _ e (h1 z hz)
theorem sortT_srt : ∀ l, SrtL (sortT l)
  | [] => List.Pairwise.nil
  | x :: r => insT_srt x (sortT_srt r)
theorem srt_uniq : ∀ {l m : List (List Int)}, l.Perm m → SrtL l → SrtL m → l = m
  | [], m, p, _, _ => (List.nil_perm.mp p).symm
  | x :: l, [], p, _, _ => absurd p.length_eq (by simp)
  | x :: l, y :: m, p, h1, h2 => by
    obtain ⟨a1, a2⟩ := List.pairwise_cons.mp h1
    obtain ⟨b1, b2⟩ := List.pairwise_cons.mp h2
    have e : x = y := by
      have hx : x ∈ y :: m := p.mem_iff.mp List.mem_cons_self
      have hy : y ∈ x :: l := p.mem_iff.mpr List.mem_cons_self
      rcases List.mem_cons.mp hx with e | hx
      · exact e
      · rcases List.mem_cons.mp hy with e | hy
        · exact e.symm
        · exact lexL_eq _ _ (b1 x hx) (a1 y hy)
    subst e
    rw [srt_uniq (List.perm_cons x |>.mp p) a2 b2]
/-! ### the model's sort of rows -/
section
variable {prog : Program} {w : World} {A : Around} {E : Value → Shared → Prop} {s : Shared} {Q : Bool → Shared → Prop}
theorem katL {b f : Bool} {xs ys : List Value} {ns ms : List Int} (i : Nat) (hx : IntsAre xs ns) (hy : IntsAre ys ms) (hf : f = decide (ns.length < ms.length)) (h : Q (lexL ns ms) s) : PySem.W.KatLex prog w A b f Q (xs.zip ys) i s := by
  induction hx generalizing ys ms i with
  | nil =>
    cases hy with
    | nil =>
      subst hf
      exact PySem.W.kat_nil h
    | cons q u hy =>
      subst hf
      refine PySem.W.kat_nil ?_
      rw [show decide (([] : List Int).length < (q :: _ : List Int).length) = true from decide_eq_true (by simp)]
      exact h
  | @cons p t xs ns hx ih =>
    cases hy with
    | nil =>
      subst hf
      refine PySem.W.kat_nil ?_
      rw [show decide ((p :: ns).length < ([] : List Int).length) = false from decide_eq_false (by simp)]
      exact h
    | @cons q u ys ms hy =>
      show PySem.W.KatLex prog w A b f Q ((Value.int p t, Value.int q u) :: xs.zip ys) i s
      refine PySem.W.kat_cons (wpAny_eqBool_int ?_)
      by_cases e : p = q
      · subst e
        rw [beq_self_eq_true]
        refine PySem.W.kat_yes ?_
        have h : Q (lexL ns ms) s := by simpa [lexL] using h
        exact ih (i + 1) hy (by rw [hf]; simp) h
      · rw [show (p == q) = false from beq_eq_false_iff_ne.mpr e]
        refine PySem.W.kat_no (TS.oneLt_ints _ ?_)
        have h : Q (decide (p < q)) s := by simpa [lexL, e] using h
        exact h
theorem cmpL {vs : List Value} {k : Value → List Int} (hp : ∀ v ∈ vs, TS.TupInts s.heap v (k v)) : SrtO.Cmp prog w A s (tuples' true) (fun p => p.1 ∈ vs) (SrtO.lt2 fun v u => lexL (k v) (k u)) := by
  intro p q hm hm'
  have h1 := hp _ hm
  have h2 := hp _ hm'
  show wpAny (model prog w) A (keyLt' (tuples' true) p.1 q.1) (fun r s' => s' = s ∧ r = lexL (k p.1) (k q.1)) (fun _ _ => False) s
  generalize k p.1 = ns at h1 ⊢
  generalize k q.1 = ms at h2 ⊢
  obtain ⟨a, xs, e1, ⟨o, ho, hc, n, hd⟩, i1⟩ := h1
  obtain ⟨a', ys, e2, ⟨o', ho', hc', n', hd'⟩, i2⟩ := h2
  rw [e1, e2]
  refine PySem.W.kat_lt ho hd ho' hd' (katL 0 i1 i2 ?_ ⟨rfl, rfl⟩)
  have l1 := i1.length
  have l2 := i2.length
  rw [Array.length_toList] at l1 l2
  rw [l1, l2]
theorem firstsL {h : Heap} : ∀ {vs : List Value} {k : Value → List Int}, (∀ v ∈ vs, TS.TupInts h v (k v) ∧ k v ≠ []) → ∃ fs : List Value, PySem.W.KatTups h vs fs ∧ fs.length = vs.length ∧ ∀ f ∈ fs, ∃ x t, f = Value.int x t
  | [], _, _ => ⟨[], PySem.W.KatTups.nil, rfl, fun _ hm => by simp at hm⟩
  | v :: vs, k, hp => by
    obtain ⟨fs, h1, h2, h3⟩ := firstsL (vs := vs) (k := k) fun v' hm => hp v' (List.mem_cons_of_mem _ hm)
    obtain ⟨⟨a, xs, e, ⟨o, ho, hc, n, hd⟩, i⟩, hne⟩ := hp v List.mem_cons_self
    obtain ⟨y, ys, ey⟩ : ∃ y ys, xs.toList = y :: ys := by
      cases q : xs.toList with
      | nil =>
        rw [q] at i
        generalize k v = z at i hne
        cases i
        exact absurd rfl hne
      | cons y ys => exact ⟨y, ys, rfl⟩
    obtain ⟨m, t, hy⟩ := i.all y (by rw [ey]; exact List.mem_cons_self ..)
    subst e
    refine ⟨y :: fs, PySem.W.KatTups.cons ho hc hd ?_ h1, by rw [List.length_cons, List.length_cons, h2], fun f hf => ?_⟩
    · have z := congrArg (fun l : List Value => l[0]?) ey
      simpa using z
    · rcases List.mem_cons.mp hf with rfl | hf
      · exact ⟨m, t, hy⟩
      · exact h3 f hf
theorem sortableL {a : Addr} {vs : List Value} {k : Value → List Int} (h0 : 0 < vs.length) (hp : ∀ v ∈ vs, TS.TupInts s.heap v (k v) ∧ k v ≠ []) (ha : ∀ o, s.heap.get? a = some o → o.cls ≠ .type "tuple") : SrtO.SortableO prog w A s a vs fun v u => lexL (k v) (k u) := by
  intro h' keep
  have hp' : ∀ v ∈ vs, TS.TupInts h' v (k v) ∧ k v ≠ [] := fun v hm => ⟨(hp v hm).1.keeps fun b o e c => keep b o (fun z => by subst z; exact ha o e c) e, (hp v hm).2⟩
  obtain ⟨fs, h1, h2, h3⟩ := firstsL hp'
  refine ⟨tuples' true, fun Q E hq => ?_, cmpL fun v hm => (hp' v hm).1⟩
  refine PySem.W.kat_kind (T := .type "int") h1 (by omega) (fun f hm => ?_) (by rfl) ?_
  · obtain ⟨x, t, rfl⟩ := h3 f hm
    exact PySem.W.Looks.now
  · have e : (Value.type "int" != Value.type "tuple") = true := by first | decide +kernel | rfl | decide
    rw [e]
    exact hq
end
/-! ### sorted(d), d's keys rows of ints -/
section
variable {prog : Program} {w : World} {A : Around} {E : Value → Shared → Prop} {s : Shared}
theorem sorted_raw {d : Addr} {o : Obj} {es : Array DictEntry} {ep : Nat} {k : Value → List Int} {Q : Value → Shared → Prop} (hh : A.in1.handled = none) (lo : (d == sysModules) = false) (ho : s.heap.get? d = some o) (hx : o.ExactDict) (hd : o.data = .dict es ep) (hz : es.size ≤ sizeLine)
    (hp : ∀ en ∈ es.toList, TS.TupInts s.heap en.key (k en.key) ∧ k en.key ≠ [])
    (h : ∀ (h' : Heap) (D : Addr) (tk : Nat) (out : List Value), SrtO.Srtd (fun v u => lexL (k v) (k u)) out → out.Perm (es.toList.map (·.key)) → (∀ b o, s.heap.get? b = some o → h'.get? b = some o) → s.heap.get? D = none → (∃ n, h'.get? D = some (seqObj "list" out.toArray n)) → Q (.ref D) { s with heap := h', toks := tk }) :
    wpAny (model prog w) A (call (.builtin "sorted") [.ref d]) Q E s := by
  refine Calls.call_function_entry kind_sorted plain_sorted entry_sorted (args_sorted1 _) ?_
  unfold Builtin.«sorted»
  refine wpAny_bind (m := checkCount "sorted" 1 1 _) (wpAny_pure ?_)
  refine wpAny_bind (PySem.W.kdu_collect (A := A.in1) (kdl_raw lo hx hd) hh ho hz fun h' tk acc hk hacc => ?_)
  have ea : acc.toList = es.toList.map (·.key) := by
    refine List.ext_getElem? fun j => ?_
    rw [List.getElem?_map]
    cases hj : acc.toList[j]? with
    | none =>
      have h1 := List.getElem?_eq_none_iff.mp hj
      rw [Array.length_toList, hacc.1] at h1
      rw [List.getElem?_eq_none (by rw [Array.length_toList]; exact h1)]
      rfl
    | some v =>
      obtain ⟨en, hen, hv⟩ := hacc.2 j v (by rw [← Array.getElem?_toList]; exact hj)
      rw [Array.getElem?_toList, hen, hv]
      rfl
  have hl : acc.toList.length = es.size := by rw [Array.length_toList]; exact hacc.1
  refine wpAny_bind (wpAny_newList ?_ (by rw [hl]; exact hz))
  have hoL : (h'.push (seqObj "list" acc.toList.toArray 0)).get? h'.objs.size = some (seqObj "list" acc.toList.toArray 0) := Heap.get?_push_size _ rfl
  have kk : ∀ b o, s.heap.get? b = some o → (h'.push (seqObj "list" acc.toList.toArray 0)).get? b = some o := fun b o e => Heap.get?_push_of_some _ (hk b o e)
  have hle : s.heap.get? h'.objs.size = none := by
    cases e : s.heap.get? h'.objs.size with
    | none => rfl
    | some o => exact absurd (Heap.lt_size (hk _ _ e)) (Nat.lt_irrefl _)
  refine wpAny_bind (wpAny_holding (wpAny_call_entry slot_list_sort ⟨_, hoL, rfl⟩ entry_list_sort (SrtO.list_sort_ord (swo_lexL k) hoL (by rw [hl]; exact hz) (fun h2 => ?_) fun out hs hb => ⟨_, rfl, ?_⟩) (args_list_sort _)))
  · refine sortableL (s := { s with heap := h'.push (seqObj "list" acc.toList.toArray 0), toks := tk }) (by omega) (fun v hv => ?_) fun o e => ?_
    · rw [ea] at hv
      obtain ⟨en, hen, rfl⟩ := List.mem_map.mp hv
      exact ⟨(hp en hen).1.keeps fun b o e _ => kk b o e, (hp en hen).2⟩
    · have e' : some o = some (seqObj "list" acc.toList.toArray 0) := e.symm.trans hoL
      cases e'
      intro c
      exact absurd (Value.type.inj c) (by decide)
  · refine wpAny_pure ⟨_, rfl, h _ h'.objs.size _ out hs (by rw [← ea]; exact hb.perm) (fun b o e => ?_) hle ?_⟩
    · have hb' : b < h'.objs.size := Heap.lt_size (hk b o e)
      rw [sortedHeap_old (Nat.ne_of_lt hb') (by rw [Heap.size_push]; exact Nat.lt_succ_of_lt hb')]
      exact kk b o e
    · exact sortedHeap_at hoL
end
/-- sorted(d): the rows in their order -/
def rSortedDT : List V → Hp → VK → Prop := fun xs H Q => ∃ (a : Addr) (kvs : List (List Key × V)) (nss : List (List Int)), xs = [.ref a] ∧ Rd H a (.dT kvs) ∧ kvs.map (·.1) = nss.map (·.map .inl) ∧ (∀ ns ∈ nss, ns ≠ []) ∧
  ∀ (ys : List V) (p : Addr), H p = none → Paired (fun (y : V) (ns : List Int) => ∃ t, y = V.ref t ∧ H t = some (.tup (ns.map .int))) ys (sortT nss) → Q (.ref p) (upd H p (.lst ys))
theorem pairedBack {α β : Type} {F : α → β → Prop} : ∀ {l : List α} {m : List β} {j : Nat} {y : β}, Paired F l m → m[j]? = some y → ∃ x, l[j]? = some x ∧ F x y
  | _, _, _, _, .nil, e => by simp at e
  | _, _, 0, _, .cons r _, e => by simp at e; subst e; exact ⟨_, rfl, r⟩
  | _, _, j + 1, y, .cons _ t, e => by
    obtain ⟨x, h1, h2⟩ := pairedBack (j := j) (y := y) t (by simpa using e)
    exact ⟨x, by simpa using h1, h2⟩
theorem key_ints (ns : List Int) : (ns.map (Sum.inl : Int → Key)).map kV = ns.map .int := by rw [List.map_map]; rfl
theorem vals_ints : ∀ {ns : List Int} {its : List Value}, Vals (ns.map V.int) its → IntsAre its ns
  | [], _, .nil => .nil
  | n :: ns, _, .cons r t => by
    obtain ⟨tk, rfl⟩ := r
    exact .cons n tk (vals_ints t)
theorem cr_sortedDT {X : Cx} (hc : X.calm = true) : CallR X (.builtin "sorted") rSortedDT := by
  intro pins s σ H xs us Q I r h
  obtain ⟨a, kvs, nss, rfl, hd, hk, hne, q⟩ := h
  obtain ⟨u, rfl, rx⟩ := r.one
  cases rx
  obtain ⟨z, lo, ks, pr, o, es, ep, ho, hx, hdt, he, hn⟩ := (show ObjOk X.prog X.w H s.heap a (.dT kvs) from hd.ok I.hok)
  have l1 : es.size = ks.length := size_of_entries he
  have l2 : kvs.length = ks.length := Paired.length pr
  -- the rows at the entries
  have row : ∀ e ∈ ks, ∃ ns ∈ nss, e.1 = ns.map .inl ∧ H e.2.1 = some (.tup (ns.map .int)) := by
    intro e hm
    obtain ⟨j, hj⟩ := List.mem_iff_getElem?.mp hm
    obtain ⟨p, hp, hr⟩ := pairedBack pr hj
    have h1 : (kvs.map (·.1))[j]? = some p.1 := by rw [List.getElem?_map, hp]; rfl
    rw [hk, List.getElem?_map] at h1
    obtain ⟨ns, hns, e1⟩ := Option.map_eq_some_iff.mp h1
    refine ⟨ns, List.mem_of_getElem? hns, by rw [← hr.1, ← e1], ?_⟩
    rw [hr.2.1, ← e1, key_ints]
  have tup : ∀ {t : Addr} {ns : List Int}, H t = some (.tup (ns.map .int)) → TS.TupInts s.heap (.ref t) ns := by
    intro t ns ht
    obtain ⟨_, its, rv, o, h1, h2, n, h3⟩ := (show ObjOk X.prog X.w H s.heap t (.tup (ns.map .int)) from I.hok t _ ht)
    exact ⟨t, its.toArray, rfl, ⟨o, h1, h2, n, h3⟩, by simpa using vals_ints rv⟩
  have keys : es.toList.map (·.key) = ks.map fun e => Value.ref e.2.1 := by rw [he, List.map_map]; rfl
  refine sorted_raw (k := TS.intsOf s.heap) (I.ok.hd hc) lo ho hx hdt (by rw [l1, ← l2]; exact z) (fun en hen => ?_) fun h' D tk out hs hp kk hD hn => ?_
  · rw [he] at hen
    obtain ⟨e, hm, rfl⟩ := List.mem_map.mp hen
    obtain ⟨ns, hns, _, ht⟩ := row e hm
    have := tup ht
    show TS.TupInts s.heap (.ref e.2.1) (TS.intsOf s.heap (.ref e.2.1)) ∧ TS.intsOf s.heap (.ref e.2.1) ≠ []
    rw [this.ints]
    exact ⟨this, hne ns hns⟩
  · rw [keys] at hp
    have hout : ∀ u ∈ out, ∃ t, u = Value.ref t ∧ ∃ ns : List Int, H t = some (.tup (ns.map .int)) := fun u hu => by
      obtain ⟨e, hm, rfl⟩ := List.mem_map.mp (hp.mem_iff.mp hu)
      obtain ⟨ns, _, _, ht⟩ := row e hm
      exact ⟨_, rfl, ns, ht⟩
    have hrow : (ks.map fun e => TS.intsOf s.heap (.ref e.2.1)) = nss := by
      refine List.ext_getElem? fun j => ?_
      rw [List.getElem?_map]
      cases hj : ks[j]? with
      | none =>
        have h1 := List.getElem?_eq_none_iff.mp hj
        have h2 : nss.length = kvs.length := by have := congrArg List.length hk; simpa using this.symm
        rw [List.getElem?_eq_none (by omega)]
        rfl
      | some e =>
        obtain ⟨p, hp', hr⟩ := pairedBack pr hj
        have h1 : (kvs.map (·.1))[j]? = some p.1 := by rw [List.getElem?_map, hp']; rfl
        rw [hk, List.getElem?_map] at h1
        obtain ⟨ns, hns, e1⟩ := Option.map_eq_some_iff.mp h1
        rw [hns]
        have ht : H e.2.1 = some (.tup (ns.map .int)) := by rw [hr.2.1, ← e1, key_ints]
        exact congrArg some (tup ht).ints
    have hsort : out.map (TS.intsOf s.heap) = sortT nss := by
      refine srt_uniq ?_ ?_ (sortT_srt _)
      · refine (hp.map _).trans ?_
        rw [List.map_map]
        refine List.Perm.trans ?_ (sortT_perm nss).symm
        rw [← hrow]
        exact List.Perm.refl _
      · exact List.pairwise_map.mpr hs
    have hpair : Paired (fun (y : V) (ns : List Int) => ∃ t, y = V.ref t ∧ H t = some (.tup (ns.map .int))) (out.map backV) (sortT nss) := by
      rw [← hsort]
      clear hsort hs hp hn
      induction out with
      | nil => exact .nil
      | cons u r ih =>
        obtain ⟨t, rfl, ns, ht⟩ := hout u List.mem_cons_self
        refine .cons ⟨t, rfl, ?_⟩ (ih fun v hv => hout v (List.mem_cons_of_mem _ hv))
        rw [(tup ht).ints]
        exact ht
    have h3 : ∀ u ∈ out, ∃ a, u = Value.ref a := fun u hu => by obtain ⟨t, e, _⟩ := hout u hu; exact ⟨t, e⟩
    obtain ⟨n, hn⟩ := hn
    have hl : out.length = ks.length := by rw [hp.length_eq, List.length_map]
    refine ⟨.ref D, upd H D (.lst (out.map backV)), I.laidN (t' := tk) kk hD (I.hok.gone hD) ⟨?_, out, n, vals_back h3, hn⟩, rfl, q _ D (I.hok.gone hD) hpair⟩
    rw [List.length_map, hl, ← l2]
    exact z
end U

/-! tuples of ints: min, max, sum; dict(d), sorted(d) where the keys are such tuples -/
namespace U
open PySem PySem.Spec PyProof.Rows
open L2
section
variable {prog : Program} {w : World} {A : Around} {E : Value → Shared → Prop} {s : Shared} {t : Addr}
theorem tup_walk {xs : Array (Int × Tok)} {Q : Value → Shared → Prop} (ht : s.heap.IsTuple t (intItems xs))
    (h : ∀ s₂ : Shared, s₂ = { s with heap := s.heap.push { cls := .type "tuple_iterator", data := .fields #[.ref t, .int 0 0] } } →
      (s₂.heap.IsTupleIter s.heap.objs.size t 0 ∧ s₂.heap.IsTuple t (intItems xs)) → (∀ b ∈ [s.heap.objs.size, t], b < s₂.heap.objs.size) → t ≠ s.heap.objs.size → Q (.ref s.heap.objs.size) s₂) : wpAny (model prog w) A (pyIter (.ref t)) Q E s := by
  have hlt : t < s.heap.objs.size := by obtain ⟨_, e, _⟩ := ht; exact Heap.lt_size e
  refine wpAny_pyIter_tuple ht (h _ rfl ⟨⟨_, Heap.get?_push_size _ rfl, rfl, rfl⟩, ht.at fun o e => Heap.get?_push_of_some _ e⟩ (fun b hb => ?_) (Nat.ne_of_lt hlt))
  show b < (s.heap.push _).objs.size
  rw [Heap.size_push]
  rcases List.mem_cons.mp hb with rfl | hb
  · exact Nat.lt_succ_self _
  · rcases List.mem_cons.mp hb with rfl | hb
    · exact Nat.lt_succ_of_lt hlt
    · cases hb
theorem kept_old {h' : Heap} {o0 : Obj} (hk : ∀ b o, b ∉ [s.heap.objs.size] → (s.heap.push o0).get? b = some o → h'.get? b = some o) : ∀ b o, s.heap.get? b = some o → h'.get? b = some o := fun b o e => by
  refine hk b o (fun hm => ?_) (Heap.get?_push_of_some _ e)
  rcases List.mem_cons.mp hm with e1 | hm
  · exact absurd (e1 ▸ Heap.lt_size e) (Nat.lt_irrefl _)
  · cases hm
theorem max_tupI {xs : Array (Int × Tok)} {Q : Value → Shared → Prop} (hh : A.handled = none) (hl : s.heap.IsTuple t (intItems xs)) (hne : 0 < xs.size)
    (h : ∀ v h' tk, (intItems xs)[argBest (fun i j => decide (numAt xs i > numAt xs j)) (xs.size - 1)]? = some v → (∀ b o, s.heap.get? b = some o → h'.get? b = some o) → Q v { s with heap := h', toks := tk }) :
    wpAny (model prog w) A (call (.builtin "max") [.ref t]) Q E s := by
  refine call_max_walk (tup_walk hl fun s₂ e st hfp hlI => ?_)
  subst e
  refine ⟨_, _, _, _, _, _, _, rfl, Walks.tuple (A := A.in1) hh _ t hlI (intItems xs), st, hfp, by simpa [intItems] using hne, CmpOf.ints_gt (numAt xs) (fun _ _ => intItems_at), fun v h' tk hP hk => ?_⟩
  exact h v h' tk (by simpa [intItems] using hP) (kept_old hk)
theorem min_tupI {xs : Array (Int × Tok)} {Q : Value → Shared → Prop} (hh : A.handled = none) (hl : s.heap.IsTuple t (intItems xs)) (hne : 0 < xs.size)
    (h : ∀ v h' tk, (intItems xs)[argBest (fun i j => decide (numAt xs i < numAt xs j)) (xs.size - 1)]? = some v → (∀ b o, s.heap.get? b = some o → h'.get? b = some o) → Q v { s with heap := h', toks := tk }) :
    wpAny (model prog w) A (call (.builtin "min") [.ref t]) Q E s := by
  refine call_min_walk (tup_walk hl fun s₂ e st hfp hlI => ?_)
  subst e
  refine ⟨_, _, _, _, _, _, _, rfl, Walks.tuple (A := A.in1) hh _ t hlI (intItems xs), st, hfp, by simpa [intItems] using hne, CmpOf.ints_lt (numAt xs) (fun _ _ => intItems_at), fun v h' tk hP hk => ?_⟩
  exact h v h' tk (by simpa [intItems] using hP) (kept_old hk)
variable {its : List Value} {ns : List Int} {Q : Value → Shared → Prop}
theorem sum_rawT (hh : A.handled = none) (hl : IsTup s.heap t its.toArray) (hi : IntsAre its ns)
    (h : ∀ h' tk t', (∀ b o, s.heap.get? b = some o → h'.get? b = some o) → Q (.int ns.sum t') { s with heap := h', toks := tk }) : wpAny (model prog w) A (call (.builtin "sum") [.ref t]) Q E s := by
  obtain ⟨xs, e⟩ := hi.allInts.items
  have hn : numsOf (intItems xs).toList = ns := by rw [← e]; exact hi.numsOf
  rw [nums_intItems] at hn
  rw [e] at hl
  refine PySem.W.ktm_sumG hh hl fun h' tk t' hk => ?_
  have := h h' tk t' hk
  rw [preSum_eq, List.take_of_length_le (by simp), hn]; exact this
theorem max_rawT (hh : A.handled = none) (hl : IsTup s.heap t its.toArray) (hi : IntsAre its ns) (hne : 0 < ns.length)
    (h : ∀ h' tk M t', (∀ b o, s.heap.get? b = some o → h'.get? b = some o) → M ∈ ns → (∀ a, a ∈ ns → a ≤ M) → Q (.int M t') { s with heap := h', toks := tk }) : wpAny (model prog w) A (call (.builtin "max") [.ref t]) Q E s := by
  obtain ⟨xs, e⟩ := hi.allInts.items
  have hn : numsOf (intItems xs).toList = ns := by rw [← e]; exact hi.numsOf
  rw [nums_intItems] at hn
  subst hn
  rw [e] at hl
  have hsz : 0 < xs.size := by simpa using hne
  refine max_tupI hh hl hsz fun v h' tk hv hk => ?_
  obtain ⟨t, rfl⟩ := intItems_at hv
  obtain ⟨h1, h2⟩ := argBest_gt (numAt xs) (xs.size - 1)
  refine h h' tk _ t hk ?_ fun a ha => ?_
  · rw [numAt_eq]; exact PySem.getD_mem (by rw [List.length_map, Array.length_toList]; omega)
  · obtain ⟨j, hj, rfl⟩ := mem_getD ha
    rw [List.length_map, Array.length_toList] at hj
    rw [← numAt_eq]; exact h2 j (by omega)
theorem min_rawT (hh : A.handled = none) (hl : IsTup s.heap t its.toArray) (hi : IntsAre its ns) (hne : 0 < ns.length)
    (h : ∀ h' tk M t', (∀ b o, s.heap.get? b = some o → h'.get? b = some o) → M ∈ ns → (∀ a, a ∈ ns → M ≤ a) → Q (.int M t') { s with heap := h', toks := tk }) : wpAny (model prog w) A (call (.builtin "min") [.ref t]) Q E s := by
  obtain ⟨xs, e⟩ := hi.allInts.items
  have hn : numsOf (intItems xs).toList = ns := by rw [← e]; exact hi.numsOf
  rw [nums_intItems] at hn
  subst hn
  rw [e] at hl
  have hsz : 0 < xs.size := by simpa using hne
  refine min_tupI hh hl hsz fun v h' tk hv hk => ?_
  obtain ⟨t, rfl⟩ := intItems_at hv
  obtain ⟨h1, h2⟩ := argBest_lt (numAt xs) (xs.size - 1)
  refine h h' tk _ t hk ?_ fun a ha => ?_
  · rw [numAt_eq]; exact PySem.getD_mem (by rw [List.length_map, Array.length_toList]; omega)
  · obtain ⟨j, hj, rfl⟩ := mem_getD ha
    rw [List.length_map, Array.length_toList] at hj
    rw [← numAt_eq]; exact h2 j (by omega)
end
/-! ### the calls -/
def rSumT (K : PySem.W.Frag) : List V → Hp → VK → Prop := fun vs H Q => ∃ (a : Addr) (ns : List Int), vs = [V.ref a] ∧ SqT K H a (ns.map V.int) ∧ Q (.int ns.sum) H
def rMaxT (K : PySem.W.Frag) : List V → Hp → VK → Prop := fun vs H Q => ∃ (a : Addr) (ns : List Int), vs = [V.ref a] ∧ SqT K H a (ns.map V.int) ∧ 0 < ns.length ∧ ∀ m, m ∈ ns → (∀ y, y ∈ ns → y ≤ m) → Q (.int m) H
def rMinT (K : PySem.W.Frag) : List V → Hp → VK → Prop := fun vs H Q => ∃ (a : Addr) (ns : List Int), vs = [V.ref a] ∧ SqT K H a (ns.map V.int) ∧ 0 < ns.length ∧ ∀ m, m ∈ ns → (∀ y, y ∈ ns → m ≤ y) → Q (.int m) H
section
variable {X : Cx}
theorem cr_sumT (hc : X.calm = true) : CallR X (.builtin "sum") (rSumT X.K) := by
  intro pins s σ H vs us Q I r h
  obtain ⟨a, ns, rfl, hs, q⟩ := h
  obtain ⟨its, rv, hl, _⟩ := I.tuple hs
  rw [Vals.ref1 r]
  exact sum_rawT (I.ok.hd hc) hl rv.ints fun h' tk t' hk => ⟨.int _, H, I.kept hk, ⟨_, rfl⟩, q⟩
theorem cr_maxT (hc : X.calm = true) : CallR X (.builtin "max") (rMaxT X.K) := by
  intro pins s σ H vs us Q I r h
  obtain ⟨a, ns, rfl, hs, hne, q⟩ := h
  obtain ⟨its, rv, hl, _⟩ := I.tuple hs
  rw [Vals.ref1 r]
  exact max_rawT (I.ok.hd hc) hl rv.ints hne fun h' tk m t' hk h1 h2 => ⟨.int _, H, I.kept hk, ⟨_, rfl⟩, q m h1 h2⟩
theorem cr_minT (hc : X.calm = true) : CallR X (.builtin "min") (rMinT X.K) := by
  intro pins s σ H vs us Q I r h
  obtain ⟨a, ns, rfl, hs, hne, q⟩ := h
  obtain ⟨its, rv, hl, _⟩ := I.tuple hs
  rw [Vals.ref1 r]
  exact min_rawT (I.ok.hd hc) hl rv.ints hne fun h' tk m t' hk h1 h2 => ⟨.int _, H, I.kept hk, ⟨_, rfl⟩, q m h1 h2⟩
end
section
variable {prog : Program} {w : World} {A : Around} {E : Value → Shared → Prop} {s : Shared}
theorem call_dictH {K : Type} [DecidableEq K] {knd : HeapKind prog w K} {o : Addr} {more : List (K × Addr × Value)} {Q : Value → Shared → Prop} (hu : knd.room A.in1.in1) (hoS : (o == sysModules) = false) (ho : s.heap.DictOfH knd o more) (hsz : more.length ≤ sizeLine)
    (hst : ∀ x ∈ more, knd.is (s.heap.push { cls := .type "dict", data := .dict #[] }) x.1 x.2.1)
    (hty : ∀ x ∈ more, s.TypeIs (.ref x.2.1) "tuple") (hap : (more.map fun x => knd.hash x.1).Nodup)
    (h : ∀ h', h'.DictOfH knd s.heap.objs.size more → Heap.SameBut s.heap.objs.size (s.heap.push { cls := .type "dict", data := .dict #[] }) h' → Q (.ref s.heap.objs.size) { s with heap := h' }) :
    wpAny (model prog w) A (call (.type "dict") [.ref o]) Q E s := by
  refine callType_codes (Q₁ := fun obj s₁ => obj = .ref s.heap.objs.size ∧ s₁ = { s with heap := s.heap.push { cls := .type "dict", data := .dict #[] } }) F.kt_called_dict (F.kt_typeCall_dict_1 _) F.entry_dict_init (kt_code_dict_new _ ⟨rfl, rfl⟩) ?_
  rintro obj s₁ ⟨rfl, rfl⟩
  have hnew : (s.heap.push { cls := .type "dict", data := .dict #[] }).DictOfH knd s.heap.objs.size [] := Heap.DictOfH.new s.heap
  obtain ⟨ob, es, ep, hg, hx, hdt, he, his, hn⟩ := id ho
  have ho' : (s.heap.push { cls := .type "dict", data := .dict #[] }).DictOfH knd o more := ⟨ob, es, ep, Heap.get?_push_of_some _ hg, hx, hdt, he, hst, hn⟩
  have hdo : s.heap.objs.size ≠ o := fun e => absurd (Heap.lt_size hg) (by rw [e]; exact Nat.lt_irrefl _)
  refine ⟨hnew.typeIs, F.args_dict_init_2 _ _, ?_⟩
  unfold Builtin.«dict.__init__»
  refine wpAny_bind ?_
  unfold Builtin.Dict.selfAndRest
  refine wpAny_bind (wpAny_notOrdered_dict hnew.typeIs ?_)
  show wpAny _ _ (pure (s.heap.objs.size, [Value.ref o])) _ _ _
  refine wpAny_pure ?_
  show wpAny _ _ (Builtin.Dict.updateFrom "dict.__init__" s.heap.objs.size (.ref o) [] .none) _ _ _
  unfold Builtin.Dict.updateFrom
  refine wpAny_bind (wpAny_typeOf ho'.typeIs ?_)
  rw [if_neg (by decide)]
  refine wpAny_bind ?_
  unfold Builtin.Dict.merge
  refine wpAny_bind ?_
  unfold Builtin.Dict.readDirectly
  refine wpAny_bind (wpAny_isInstance ho'.typeIs isSubtype_dict_dict ?_)
  simp only [Bool.not_true, Bool.false_eq_true, if_false]
  refine wpAny_bind (wpAny_specialOf ho'.typeIs F.slot_dict_iter.lookup (wpAny_pure ?_))
  simp only [beq_self_eq_true, if_true]
  refine wpAny_bind (wpAny_pure ?_)
  refine wpAny_mergeDict_heap (hsz := by simpa using hsz) hu hdo hoS hnew ho' (.inr ⟨fun x hx => ?_, hap⟩) fun h' hd' _ hs' => ?_
  · obtain ⟨ob, e1, e2⟩ := hty x hx
    exact ⟨ob, Heap.get?_push_of_some _ e1, e2⟩
  show wpAny _ _ (Builtin.Dict.addKeywords s.heap.objs.size [] >>= _) _ _ _
  rw [storedAllH_nil_of_nodup more hn] at hd'
  exact wpAny_bind (wpAny_pure (wpAny_pure ⟨rfl, h h' hd' hs'⟩))
end
/-- what a row's hash is made of -/
def hashNs (ns : List Int) : Int := reduceHash (Builtin.Tuple.tupleHashOf (ns.map hashInt))
theorem hash_row (P : Program) (w : World) (ns : List Int) : (tupleKind (mixKind P w)).hash (ns.map .inl) = hashNs ns := by
  show reduceHash (Builtin.Tuple.tupleHashOf ((ns.map (Sum.inl : Int → Key)).map (mixKind P w).hash)) = _
  rw [List.map_map]
  rfl
def rDictT : List V → Hp → VK → Prop := fun xs H Q => ∃ (a : Addr) (kvs : List (List Key × V)) (nss : List (List Int)), xs = [.ref a] ∧ Rd H a (.dT kvs) ∧ kvs.map (·.1) = nss.map (·.map .inl) ∧ (nss.map hashNs).Nodup ∧ ∀ p, H p = none → Q (.ref p) (upd H p (.dT kvs))
theorem call_dictT {X : Cx} (hu : X.A.units + 64 < cLine) : CallR X (.type "dict") rDictT := by
  intro pins s σ H xs us Q I r q
  obtain ⟨a, kvs, nss, rfl, hd, hk, hh, q⟩ := q
  obtain ⟨u, eu, rx⟩ := vals1 r
  subst eu
  cases rx
  obtain ⟨z, lo, ks, pr, dd⟩ := dt_rd I.hok hd
  obtain ⟨o, es, ep, hg, hx, hdt, he, his, hn⟩ := id dd
  have l2 : kvs.length = ks.length := Paired.length pr
  have ksn : ks.map (·.1) = nss.map (·.map .inl) := by
    rw [← hk]
    clear hk hh his hn he z l2 dd hg hx hdt q hd
    induction pr with
    | nil => rfl
    | cons h t ih => rw [List.map_cons, List.map_cons, ih, h.1]
  have tyt : ∀ x ∈ ks, ∃ ob : Obj, s.heap.get? x.2.1 = some ob ∧ ob.cls = .type "tuple" := fun x hm => by
    obtain ⟨ob, items, n, e1, e2, _⟩ := his x hm
    exact ⟨ob, e1, e2⟩
  refine call_dictH (knd := tupleKind (mixKind X.prog X.w)) ?_ lo dd (by rw [← l2]; exact z) (fun x hm => ?_) tyt ?_ fun h' hd' hs => ?_
  · show X.A.in1.in1.units < cLine
    have e : X.A.in1.in1.units ≤ X.A.units + 2 := by first | exact Nat.le_refl _ | (show _ ≤ _; simp [Around.in1]) | decide
    omega
  · obtain ⟨ob, items, n, e1, e2, e3, e4⟩ := his x hm
    exact ⟨ob, items, n, Heap.get?_push_of_some _ e1, e2, e3, e4⟩
  · rw [show (fun x : List Key × Addr × Value => (tupleKind (mixKind X.prog X.w)).hash x.1) = (tupleKind (mixKind X.prog X.w)).hash ∘ (·.1) from rfl, ← List.map_map, ksn, List.map_map]
    have e : ((tupleKind (mixKind X.prog X.w)).hash ∘ fun x : List Int => x.map Sum.inl) = hashNs := funext fun ns => hash_row _ _ ns
    rw [e]
    exact hh
  · have hm : (s.heap.objs.size == sysModules) = false := beq_eq_false_iff_ne.mpr (Nat.ne_of_gt I.big)
    have hf : H s.heap.objs.size = none := I.hok.fresh (Nat.le_refl _)
    obtain ⟨o', es', ep', g1, g2, g3, g4, _, g6⟩ := hd'
    exact ⟨.ref s.heap.objs.size, upd H s.heap.objs.size (.dT kvs), I.laid (t' := s.toks) (fun b u e => (hs.2 b (Nat.ne_of_lt (Heap.lt_size e))).trans (Heap.get?_push_of_some _ e)) (Nat.le_refl _)
      (show ObjOk X.prog X.w _ _ _ (.dT kvs) from ⟨z, hm, ks, KT.keeps pr fun b ys e => by rw [upd_ne (ne_of_none e hf)]; exact e, o', es', ep', g1, g2, g3, g4, g6⟩), rfl, q _ hf⟩
/-! ### in the layer -/
def rowW : W → Option (List Int)
  | .tup xs => intsOf xs
  | _ => none
@[simp] theorem rowW_e (xs : List W) : rowW (.tup xs) = intsOf xs := rfl
def rowsW : List W → Option (List (List Int))
  | [] => some []
  | .tup [k, _] :: r => match rowW k, rowsW r with
    | some n, some ns => some (n :: ns)
    | _, _ => none
  | _ => none
@[simp] theorem rowsW_n : rowsW [] = some [] := rfl
@[simp] theorem rowsW_c (k v : W) (r : List W) : rowsW (.tup [k, v] :: r) = match rowW k, rowsW r with
    | some n, some ns => some (n :: ns)
    | _, _ => none := rfl
theorem keyInts : ∀ {ks : List Key} {ns : List Int}, intsOf (ks.map kW) = some ns → ks = ns.map .inl
  | [], _, e => by cases e; rfl
  | .inl i :: ks, ns, e => by
    have e : (intsOf (ks.map kW)).map (i :: ·) = some ns := e
    obtain ⟨m, h1, h2⟩ := Option.map_eq_some_iff.mp e
    subst h2
    rw [List.map_cons, keyInts h1]
  | .inr s :: ks, ns, e => by cases (show (none : Option (List Int)) = some ns from e)
theorem rows_ok {T : Tx} {m : Mm} {H : Hp} : ∀ {es : List W} {kvs : List (List Key × V)} {nss : List (List Int)}, RWt T m H es kvs → rowsW es = some nss → kvs.map (·.1) = nss.map (·.map .inl)
  | _, _, _, .nil, e => by cases e; rfl
  | _, _, nss, .cons (ks := ks) (w := w) (ws := ws) r t, e => by
    rw [rowsW_c, rowW_e] at e
    split at e
    · rename_i n ns e1 e2
      cases e
      rw [List.map_cons, List.map_cons, rows_ok t e2, ← keyInts e1]
    · cases e
/-- no row of a dict with plain keys -/
theorem rows_flat {T : Tx} {m : Mm} {H : Hp} {es : List W} {kvs : List (Key × V)} {nss : List (List Int)} (r : RWe T m H es kvs) (e : rowsW es = some nss) : es = [] := by
  cases r with
  | nil => rfl
  | consI r t => rw [rowsW_c] at e; cases e
  | consS r t => rw [rowsW_c] at e; cases e
/-- dict(d) -/
def dictW2 : List W → Gs → Res
  | [w], G => (match dOf w G with
    | some es => if dFlat es then .ok (.dic es) G else (match rowsW es with
      | some nss => if (nss.map hashNs).Nodup then .ok (.dic es) G else .stuck
      | none => .stuck)
    | none => .stuck)
  | _, _ => .stuck
@[simp] theorem dictW2_e (w : W) (G : Gs) : dictW2 [w] G = (match dOf w G with
    | some es => if dFlat es then .ok (.dic es) G else (match rowsW es with
      | some nss => if (nss.map hashNs).Nodup then .ok (.dic es) G else .stuck
      | none => .stuck)
    | none => .stuck) := rfl
theorem ib_dict2 {T : Tx} {W0 : WX} : ImpB T W0 (fun xs H Q => (∃ (a : Addr) (kvs : List (Key × V)), xs = [.ref a] ∧ Rd H a (.dK kvs) ∧ ∀ p, H p = none → Q (.ref p) (upd H p (.dK kvs))) ∨ rDictT xs H Q) dictW2 := by
  intro m G σ H Q ws vs hG r0 ho
  unfold dictW2 at ho
  split at ho
  · rename_i w
    obtain ⟨v, rfl, r⟩ := r0.inv1
    split at ho
    · rename_i es e
      obtain ⟨a, rfl, q⟩ := dOf_ok hG r e
      split at ho
      · rename_i fl
        rcases q with ⟨kvs, hd, re⟩ | ⟨kvs, hd, z, re⟩
        · exact .inl ⟨a, kvs, rfl, hd, fun p hp => ho m _ _ (.new hG hp) (hG.new hp) (.dic (re.keep (.new hG hp)) (hG.free hp) (.inl upd_same))⟩
        · rw [re.nflat z] at fl; cases fl
      · split at ho
        · rename_i nss en
          split at ho
          · rename_i hn
            rcases q with ⟨kvs, hd, re⟩ | ⟨kvs, hd, z, re⟩
            · have := rows_flat re en
              subst this
              rename_i fl
              exact absurd rfl fl
            · exact .inr ⟨a, kvs, nss, rfl, hd, rows_ok re en, hn, fun p hp => ho m _ _ (.new hG hp) (hG.new hp) (.dit (re.keep (.new hG hp)) z (hG.free hp) (.inl upd_same))⟩
          · exact False.elim ho
        · exact False.elim ho
    · exact False.elim ho
  · exact False.elim ho
/-- sorted -/
def sortI (ns : List Int) : List Int := (sortT (ns.map fun n => [n])).flatten
theorem sortI_uniq {ns ms : List Int} (p : ms.Perm ns) (h : ms.Pairwise (· ≤ ·)) : ms = sortI ns := by
  have e : ms.map (fun n => [n]) = sortT (ns.map fun n => [n]) := by
    refine srt_uniq ((p.map _).trans (sortT_perm _).symm) ?_ (sortT_srt _)
    refine List.pairwise_map.mpr (h.imp fun {a b} hab => ?_)
    simp only [lexL]
    split
    · rfl
    · exact decide_eq_false (by omega)
  unfold sortI
  rw [← e]
  clear e h p
  induction ms with
  | nil => rfl
  | cons a r ih => rw [List.map_cons, List.flatten_cons, ← ih]; rfl
def sortedW : List W → Gs → Res
  | [w], G => (match dOf w G with
    | some [] => .ok (.lst []) G
    | some (e :: es) => (match rowsW (e :: es) with
      | some nss => if nss.all (fun n => !n.isEmpty) then .ok (.lst ((sortT nss).map fun n => .tup (n.map .int))) G else .stuck
      | none => .stuck)
    | none => (match (lstW w G).bind intsOf with
      | some ns => .ok (.lst ((sortI ns).map .int)) G
      | none => .stuck))
  | _, _ => .stuck
@[simp] theorem sortedW_e (w : W) (G : Gs) : sortedW [w] G = (match dOf w G with
    | some [] => .ok (.lst []) G
    | some (e :: es) => (match rowsW (e :: es) with
      | some nss => if nss.all (fun n => !n.isEmpty) then .ok (.lst ((sortT nss).map fun n => .tup (n.map .int))) G else .stuck
      | none => .stuck)
    | none => (match (lstW w G).bind intsOf with
      | some ns => .ok (.lst ((sortI ns).map .int)) G
      | none => .stuck)) := rfl
theorem ints_rw {T : Tx} {m : Mm} {H : Hp} : ∀ ns : List Int, RWs T m H (ns.map .int) (ns.map .int)
  | [] => .nil
  | n :: r => .cons (.int n) (ints_rw r)
theorem rows_rw {T : Tx} {m : Mm} {G : Gs} {H : Hp} (hG : RG T m G H) : ∀ {ys : List V} {nss : List (List Int)}, Paired (fun (y : V) (ns : List Int) => ∃ t, y = V.ref t ∧ H t = some (.tup (ns.map .int))) ys nss → RWs T m H (nss.map fun n => .tup (n.map .int)) ys
  | _, _, .nil => .nil
  | _, _, .cons h t => by
    obtain ⟨a, rfl, ha⟩ := h
    exact .cons (.tup (ints_rw _) (.inl ⟨hG.tupFr ha, ha⟩)) (rows_rw hG t)
theorem ib_sorted {T : Tx} {W0 : WX} : ImpB T W0 (fun xs H Q => rSortedI T.K xs H Q ∨ rSortedDT xs H Q ∨ ∃ (a : Addr) (kvs : List (Key × V)) (ks : List Int), xs = [.ref a] ∧ Rd H a (.dK kvs) ∧ kvs.map (·.1) = ks.map Sum.inl ∧ ks.length < 64 ∧ ∀ (ys : List Int) (p : Addr), ys.Perm ks → ys.Pairwise (· ≤ ·) → H p = none → Q (.ref p) (upd H p (.lst (ys.map V.int)))) sortedW := by
  intro m G σ H Q ws vs hG r0 ho
  unfold sortedW at ho
  split at ho
  · rename_i w
    obtain ⟨v, rfl, r⟩ := r0.inv1
    split at ho
    · rename_i e
      obtain ⟨a, rfl, q⟩ := dOf_ok hG r e
      rcases q with ⟨kvs, hd, re⟩ | ⟨kvs, hd, z, re⟩
      · cases re
        refine .inr (.inr ⟨a, [], [], rfl, hd, rfl, by decide, fun ys p hp _ hn => ?_⟩)
        rw [List.perm_nil.mp hp]
        exact ho m _ _ (.new hG hn) (hG.new hn) (.lst .nil (hG.free hn) upd_same)
      · exact absurd rfl z
    · rename_i x es e
      obtain ⟨a, rfl, q⟩ := dOf_ok hG r e
      split at ho
      · rename_i nss en
        split at ho
        · rename_i hne
          rcases q with ⟨kvs, hd, re⟩ | ⟨kvs, hd, z, re⟩
          · cases rows_flat re en
          · refine .inr (.inl ⟨a, kvs, nss, rfl, hd, rows_ok re en, fun ns hm z => ?_, fun ys p hp pr => ?_⟩)
            · have := List.all_eq_true.mp hne ns hm
              subst z
              cases this
            · exact ho m _ _ (.new hG hp) (hG.new hp) (.lst ((rows_rw hG pr).keep (.new hG hp)) (hG.free hp) upd_same)
        · exact False.elim ho
      · exact False.elim ho
    · split at ho
      · rename_i ns e
        obtain ⟨xs, e1, e2⟩ := Option.bind_eq_some_iff.mp e
        obtain ⟨p, ys, rfl, f, r⟩ := lst_ok hG r e1
        have := ints_ok r e2
        subst this
        refine .inl ⟨p, ns, rfl, SqL.of f, fun ms q hp hs hq => ?_⟩
        rw [sortI_uniq hp hs]
        exact ho m _ _ (.new hG hq) (hG.new hq) (.lst (ints_rw _) (hG.free hq) upd_same)
      · exact False.elim ho
  · exact False.elim ho
/-- sum, max, min: also of tuples -/
def tupI : List W → Option (List Int)
  | [.tup xs] => intsOf xs
  | _ => none
@[simp] theorem tupI_t (xs : List W) : tupI [.tup xs] = intsOf xs := rfl
@[simp] theorem tupI_l (xs : List W) : tupI [.lst xs] = none := rfl
@[simp] theorem tupI_r (i : Nat) : tupI [.ref i] = none := rfl
def sumD (ws : List W) (G : Gs) : Res := match tupI ws with
  | some ns => .ok (.int ns.sum) G
  | none => sumW ws G
def maxD (ws : List W) (G : Gs) : Res := match tupI ws with
  | some (a :: r) => .ok (.int (maxL (a :: r))) G
  | some [] => .stuck
  | none => maxW ws G
def minD (ws : List W) (G : Gs) : Res := match tupI ws with
  | some (a :: r) => .ok (.int (minL (a :: r))) G
  | some [] => .stuck
  | none => minW ws G
@[simp] theorem sumD_e (ws : List W) (G : Gs) : sumD ws G = match tupI ws with
  | some ns => .ok (.int ns.sum) G
  | none => sumW ws G := rfl
@[simp] theorem maxD_e (ws : List W) (G : Gs) : maxD ws G = match tupI ws with
  | some (a :: r) => .ok (.int (maxL (a :: r))) G
  | some [] => .stuck
  | none => maxW ws G := rfl
@[simp] theorem minD_e (ws : List W) (G : Gs) : minD ws G = match tupI ws with
  | some (a :: r) => .ok (.int (minL (a :: r))) G
  | some [] => .stuck
  | none => minW ws G := rfl
theorem tupI_ok {T : Tx} {m : Mm} {H : Hp} {ws : List W} {vs : List V} {ns : List Int} (r0 : RWs T m H ws vs) (e : tupI ws = some ns) : ∃ a, vs = [.ref a] ∧ SqT T.K H a (ns.map V.int) := by
  unfold tupI at e
  split at e
  · obtain ⟨v, rfl, r⟩ := r0.inv1
    cases r with
    | tup r f =>
      have := ints_ok r e
      subst this
      exact ⟨_, rfl, f.sq⟩
  · cases e
theorem ib_sumD {T : Tx} {W0 : WX} : ImpB T W0 (fun xs H Q => rSum T.K xs H Q ∨ rSumT T.K xs H Q) sumD := by
  intro m G σ H Q ws vs hG r0 ho
  rw [sumD_e] at ho
  split at ho
  · rename_i ns e
    obtain ⟨a, rfl, f⟩ := tupI_ok r0 e
    exact .inr ⟨a, ns, rfl, f, ho.now hG (.int _)⟩
  · exact .inl (ib_sum (W0 := W0) m G σ H Q ws vs hG r0 ho)
theorem ib_maxD {T : Tx} {W0 : WX} : ImpB T W0 (fun xs H Q => rMax T.K xs H Q ∨ rMaxT T.K xs H Q) maxD := by
  intro m G σ H Q ws vs hG r0 ho
  rw [maxD_e] at ho
  split at ho
  · rename_i a bs e
    obtain ⟨p, rfl, f⟩ := tupI_ok r0 e
    refine .inr ⟨p, a :: bs, rfl, f, Nat.succ_pos _, fun m h1 h2 => ?_⟩
    have : m = maxL (a :: bs) := Int.le_antisymm (maxL_le h1) (h2 _ (maxL_in (by simp)))
    rw [this]
    exact ho.now hG (.int _)
  · exact False.elim ho
  · exact .inl (ib_max (W0 := W0) m G σ H Q ws vs hG r0 ho)
theorem ib_minD {T : Tx} {W0 : WX} : ImpB T W0 (fun xs H Q => rMin T.K xs H Q ∨ rMinT T.K xs H Q) minD := by
  intro m G σ H Q ws vs hG r0 ho
  rw [minD_e] at ho
  split at ho
  · rename_i a bs e
    obtain ⟨p, rfl, f⟩ := tupI_ok r0 e
    refine .inr ⟨p, a :: bs, rfl, f, Nat.succ_pos _, fun m h1 h2 => ?_⟩
    have : m = minL (a :: bs) := Int.le_antisymm (h2 _ (minL_in (by simp))) (minL_le h1)
    rw [this]
    exact ho.now hG (.int _)
  · exact False.elim ho
  · exact .inl (ib_min (W0 := W0) m G σ H Q ws vs hG r0 ho)
end U

/-! a dict written with one entry, its key a row of ints -/
namespace U
open PySem PySem.Spec PyProof.Rows
open L2
/-- an expression that is an int, and changes nothing -/
def FCi (X : Cx) (e : Expr) (i : Int) : Prop := ∃ t, PE X e t ∧ ∀ (σ : L2.St) (H : Hp) (Q : VK), Q (.int i) H → t σ H Q
def FCs (X : Cx) (es : List Expr) (is : List Int) : Prop := ∃ t, PA X es t ∧ ∀ (σ : L2.St) (H : Hp) (Q : List V → Hp → Prop), Q (is.map .int) H → t σ H Q
/-- one that is a new tuple of ints -/
def FK1 (X : Cx) (e : Expr) (is : List Int) : Prop := ∃ t, PE X e t ∧ ∀ (σ : L2.St) (H : Hp) (Q : VK), (∀ b, H b = none → Q (.ref b) (upd H b (.tup (is.map .int)))) → t σ H Q
section
variable {X : Cx} {e : Expr} {es : List Expr} {pos : Pos}
theorem fci_int {i : Int} {j : Nat} : FCi X (.Constant (.int i) j pos) i := ⟨_, pe_int, fun σ H Q h => h⟩
theorem fci_neg {i : Int} (h : FCi X e i) : FCi X (.UnaryOp .USub e pos) (-i) := by
  obtain ⟨t, h, q⟩ := h
  exact ⟨_, pe_un un_neg h, fun σ H Q h => q σ H _ ⟨i, rfl, h⟩⟩
theorem fcs_nil : FCs X [] [] := ⟨_, pa_nil, fun σ H Q h => h⟩
theorem fcs_cons {i : Int} {is : List Int} (h : FCi X e i) (t : FCs X es is) (he : starEach (e :: es) X.env = (false, eval e X.env) :: starEach es X.env := by rfl) : FCs X (e :: es) (i :: is) := by
  obtain ⟨t1, h1, q1⟩ := h
  obtain ⟨t2, h2, q2⟩ := t
  exact ⟨_, pa_cons h1 h2 he, fun σ H Q h => q1 σ H _ (q2 σ H _ h)⟩
theorem fk_row {k : Nat} {is : List Int} (h : FCs X es is) (hz : is.length ≤ 1000 := by decide) : FK1 X (.Tuple es k pos) is := by
  obtain ⟨t, h, q⟩ := h
  exact ⟨_, pe_tup h, fun σ H Q hq => q σ H _ ⟨by rw [List.length_map, sizeLine_eq]; omega, hq⟩⟩
theorem disp_pairsH {prog : Program} {w : World} {A : Around} {E : Value → Shared → Prop} {s : Shared} {K : Type} [DecidableEq K] {knd : HeapKind prog w K} {env : Env} {keys : List (Option Expr)} {values : List Expr} {pairs : List (Sem Value × Sem Value)} {Q : Value → Shared → Prop} (hu : knd.room A)
    (hshape : (evalEachOpt keys env).zip ((evalEach values env).map fun v => do let x ← v; standAt pos; pure x) = pairs.map fun p => (some p.1, p.2)) (h0 : pairs ≠ []) (hlen : pairs.length ≤ 15)
    (h : wpAny (model prog w) A (evalPairs pairs) (fun vs s₁ => ∃ ps, CarriesH knd s₁.heap vs ps ∧ s₁.heap.DictOfH knd s.heap.objs.size [] ∧
      ∀ h' tk, h'.DictOfH knd s.heap.objs.size (storedAllH [] ps) → Heap.SameBut s.heap.objs.size s₁.heap h' → Q (.ref s.heap.objs.size) { s₁ with heap := h', toks := tk }) E
      { s with heap := s.heap.push { cls := .type "dict", data := .dict #[] } }) :
    wpAny (model prog w) A (eval (.Dict keys values pos) env) Q E s := by
  rw [arm_eval_Dict, hshape, dictDisplay_pairs pairs h0 (by omega)]
  exact wpAny_bind (wpAny_standAt (wpAny_bind (wpAny_subDictH (knd := knd) (Q := fun d s' => wpAny (model prog w) A (pure (Value.ref d)) Q E s') hu hlen
    (wpAny_mono h (fun vs s₁ h₁ => by obtain ⟨ps, hc, hm, hq⟩ := h₁; exact ⟨ps, hc, hm, fun h' tk a b => wpAny_pure (hq h' tk a b)⟩) fun _ _ e => e))))
/-- {k: v} -/
def tDisp1 (tk tv : TE) : TE := fun σ H Q => ∀ p, H p = none → tk σ (upd H p (.dT [])) fun x H1 => tv σ H1 fun y H2 => H2 p = some (.dT []) ∧ ∃ (b : Addr) (ks : List Key), x = .ref b ∧ H2 b = some (.tup (ks.map kV)) ∧ Q (.ref p) (upd H2 p (.dT [(ks, y)]))
theorem pe_disp1 {k v : Expr} {tk tv : TE} (hu : X.A.units < cLine) (hk : PE X k tk) (hv : PE X v tv) : PE X (.Dict [some k] [v] pos) (tDisp1 tk tv) := by
  refine ⟨fun pins s σ H Q I q => ?_⟩
  have hn := I.hok.fresh (Nat.le_refl s.heap.objs.size)
  have I1 := I.laid (a := s.heap.objs.size) (o := .dT []) (h' := s.heap.push { cls := .type "dict", data := .dict #[] }) (t' := s.toks) (fun _ _ q => Heap.get?_push_of_some _ q) (Nat.le_refl _) (dt_empty s.heap I.big)
  refine disp_pairsH (knd := tupleKind (mixKind X.prog X.w)) (pairs := pairTrees [some k] [v] X.env pos) hu (zip_pairTrees [some k] [v] X.env pos rfl rfl) (by simp [pairTrees]) (by simp [pairTrees]) ?_
  refine pairTrees_cons_walk (thn (hk.run pins _ σ _ _ I1 (q _ hn)) fun u s1 ⟨x, H1, I2, rx, q1⟩ => thn (hv.run pins s1 σ H1 _ I2 q1) fun w2 s2 ⟨y, H2, I3, ry, e, b, ks, ex, eb, q2⟩ => pairTrees_nil_walk ?_)
  subst ex
  obtain rfl : u = Value.ref b := rx
  obtain ⟨z, hd, xs, r0, dd⟩ := dt_of I3.hok e
  cases r0
  refine ⟨[(ks, b, w2)], ⟨rfl, rfl, key_of I3.hok eb, trivial⟩, dd, fun h' tk dd' hs => ⟨.ref s.heap.objs.size, _, ?_, rfl, q2⟩⟩
  obtain ⟨ob, es, ep, g1, g2, g3, g4, g5, g6⟩ := dd'
  have nb : b ≠ s.heap.objs.size := fun z => by rw [z, e] at eb; cases eb
  refine d_write I3 (t' := tk) (by rw [e]; exact True.intro) hs ⟨ob, g1⟩ ⟨(by rw [sizeLine_eq]; show 1 ≤ _; omega), hd, [(ks, b, w2)], .cons ⟨rfl, ?_, ry⟩ .nil, ob, es, ep, g1, g2, g3, g4, g6⟩
  rw [upd_ne nb]; exact eb
/-- {row: int} -/
theorem fe_disp1 {T : Tx} {W0 : WX} {k v : Expr} {is : List Int} {i : Int} (c : Ctx T X W0) (hk : FK1 X k is) (hv : FCi X v i) : FE T X W0 (.Dict [some k] [v] pos) (fun _ G => .ok (.dic [.tup [.tup (is.map .int), .int i]]) G) := by
  obtain ⟨tk, hk, qk⟩ := hk
  obtain ⟨tv, hv, qv⟩ := hv
  refine ⟨_, pe_disp1 (by have := c.hu; omega) hk hv, fun m ls G σ H Q hG hL ho => ?_⟩
  intro p hp
  refine qk σ _ _ fun b hb => qv σ _ _ ?_
  have hb1 : H b = none := by
    by_cases e : b = p
    · rw [e]; exact hp
    · rwa [upd_ne e] at hb
  have hbp : b ≠ p := fun e => by rw [e, upd_same] at hb; cases hb
  refine ⟨by rw [upd_ne (Ne.symm hbp), upd_same], b, is.map .inl, rfl, by rw [upd_same, key_ints], ?_⟩
  -- the tuple, then the dict
  have eq : upd (upd (upd H p (.dT [])) b (.tup (is.map .int))) p (.dT [(is.map .inl, .int i)]) = upd (upd H b (.tup (is.map .int))) p (.dT [(is.map .inl, .int i)]) := by
    funext z
    by_cases e : z = p
    · subst e; rw [upd_same, upd_same]
    · rw [upd_ne e, upd_ne e]
      by_cases e2 : z = b
      · subst e2; rw [upd_same, upd_same]
      · rw [upd_ne e2, upd_ne e2, upd_ne e]
  rw [eq]
  have k1 : Keep m H m (upd H b (.tup (is.map .int))) := Keep.new hG hb1
  have g1 := hG.new (o := .tup (is.map .int)) hb1
  have hp1 : upd H b (.tup (is.map .int)) p = none := by rw [upd_ne (Ne.symm hbp)]; exact hp
  have k2 : Keep m (upd H b (.tup (is.map .int))) m (upd (upd H b (.tup (is.map .int))) p (.dT [(is.map .inl, .int i)])) := Keep.new g1 hp1
  have g2 := g1.new (o := .dT [(is.map (Sum.inl : Int → Key), .int i)]) hp1
  have rt : RWt T m (upd (upd H b (.tup (is.map .int))) p (.dT [(is.map .inl, .int i)])) [.tup [.tup ((is.map (Sum.inl : Int → Key)).map kW), .int i]] [(is.map .inl, .int i)] := .cons (.int i) .nil
  rw [List.map_map] at rt
  exact ho m _ _ (k1.trans k2) g2 (.dit rt (by simp) (g1.free hp1) (.inl upd_same))
end
end U

set_option maxHeartbeats 2000000
/-! super().__init__(text) in an exception class whose next __init__ is a built-in class's -/
namespace U
open PySem PySem.Spec PyProof.Rows
open L2
section
open PySem.W
variable {prog : Program} {w : World} {A : Around} {E : Value → Shared → Prop} {h : Heap} {g : Array GenState} {d : Drawn} {t : Nat} {os : OsState} {B newId i : String} {bmB : List Value}
variable {nm q : Str} {C N : Addr} {bs bm : List Value} {hd : Bool} {sn : List Str} {sub : List Value} {ab : Bool} {col : Option Bool} {dd : Option Addr} {k0 k1 k2 k3 k5 : Option Value}
/-- the bound built-in __init__ called: the exception's arguments are laid anew -/
theorem mw_call (F : ExcBaseFacts B newId i bmB) {u x t0 : Addr} {us : List Value} {Q : Value → Shared → Prop} (hC : h.get? C = some (excClassObj nm q C N bs bm hd sn sub ab col dd k0 k1 k2 k3 k5 newId))
    (hx : h.get? x = some (HandSPX.excO C t0)) (hu : h.get? u = some (kxs_mw i x)) (hz : us.length ≤ sizeLine)
    (hq : ∀ h' t1, (∀ b o, b ≠ x → h.get? b = some o → h'.get? b = some o) → h'.get? x = some (HandSPX.excO C t1) → Q .none ⟨h', g, d, t, os⟩) :
    wpAny (model prog w) A (call (.ref u) us) Q E ⟨h, g, d, t, os⟩ := by
  have ev : (Value.type "method-wrapper" == Value.type "method" || Value.type "method-wrapper" == Value.type "builtin_function_or_method" || Value.type "method-wrapper" == Value.type "method-wrapper") = true := by decide
  refine wpAny_call (codeAny_of_tree (show wpAny (model prog w) A.in1 (callAny (.ref u) ⟨us, []⟩) _ _ _ from ?_))
  simp only [callAny]
  refine wpAny_bind (wpAny_load hu ?_)
  simp only [kxs_mw, ev, if_true]
  refine KFB.if_so (by decide) (wpAny_bind (check_bound_init F.toExcCallFacts hC hx rfl (wpAny_bind (wpAny_pure (wpAny_pure ⟨plainId_quiet F.init.plain _, codeAny_builtin F.initEntry ?_⟩)))))
  rw [Around.under_plainId F.init.plain _]
  exact exc_init_tree (cls := .ref C) (t0 := t0) (dv := none) (c2 := .none) (c3 := .none) (b4 := .bool false) hx hz fun h' k e _ => hq h' _ k e
end
/-! ### the rule -/
/-- the class C of self; behind D stands ValueError's own __init__ -/
structure SupX (K : PySem.W.Frag) (C D : Addr) : Prop where
  ox : OexC K C
  sub : W.mroIn K C (.ref D) = some true
  at_ : W.ks_superIn K C D "__init__" = some (some (.builtin "ValueError.__init__"))
  isB : W.mroIn K C (.type "ValueError") = some true
  op : W.nsIn K cStatics "thirdparty.any" = some none
def tSupX (C : Addr) (t : TA) : TE := fun σ H Q => ∃ a, σ[0]? = some (some (.ref a)) ∧ H a = some (exo a C none) ∧ t σ H fun vs H1 => vs.length ≤ 1000 ∧ H1 a = some (exo a C none) ∧ Q .non H1
section
variable {X : Cx} {bd : List Stmt} {C D cc f : Addr} {slf : Str} {e : Expr} {es : List Expr} {t : TA} {p0 p1 apos pos : Pos}
theorem pe_supX {pl : Sem Bool} (S : SupAt X D cc f slf) (M : SupX X.K C D) (ha : PA X (e :: es) t)
    (hst : starEach (e :: es) X.env = (false, eval e X.env) :: starEach es X.env := by rfl) (hpl : (backTo pos (starEach es X.env)).any (·.1) = false := by rfl)
    (he : eval (.Call (.Attribute (.Call (.Name "super" p0) [] [] p1) "__init__" apos) (e :: es) [] pos) X.env = (do
      let ov ← attributeBase (.Call (.Name "super" p0) [] [] p1) "__init__" X.env (eval (.Call (.Name "super" p0) [] [] p1) X.env)
      standAt apos.atName
      let (f, first) ← holding [ov] (getMethod ov "__init__" pl)
      callWith pos f first (backTo pos (starEach (e :: es) X.env)) []) := by rfl) :
    PEA X bd (.Call (.Attribute (.Call (.Name "super" p0) [] [] p1) "__init__" apos) (e :: es) [] pos) (tSupX C t) := by
  refine ⟨fun pins s σ H Q I h => ?_⟩
  obtain ⟨a, hσ, hH, h⟩ := h
  have KX := I.kIn
  obtain ⟨oc, od, fdd, osl, ar, lf, hp, ear⟩ := S.fd
  obtain ⟨cda, ccl, cdd, vs, ccs, file, tf, ecode, lcode, hvs, hfile⟩ := S.code
  obtain ⟨cl, cld, csl, lcell⟩ := S.ccl
  obtain ⟨cdD, hD⟩ := S.cls
  obtain ⟨mb, hb1, hb2⟩ := I.mod.blt
  refine ks_wpAt_MethodCall (pl := pl) ?_ he
  refine ks_wpAt_super_base S.ks S.kc (by decide) S.fu (KX _ _ lf) rfl hp ecode (KX _ _ lcode) rfl hvs hfile S.top ?_
  refine W.ks_loadName_global I.ok.kind S.ks (Calls.loadGlobal_builtin (by rw [I.ok.glob]; exact I.mod.glob.keeps I.bk) S.mg (by rw [I.ok.blt]; exact hb1.keeps I.bk) ((hb2 _ (by decide +kernel)).trans (by decide +kernel : bootBuiltins "super" = some (.type "super"))) ⟨rfl, ?_⟩)
  refine wpAny_loadName_free I.ok.kind S.kc S.cell ⟨_, KX _ _ lcell, rfl⟩ ?_
  obtain ⟨mm, hns, hl⟩ := I.loc
  obtain ⟨u, ru, lk⟩ := hl 0 slf _ S.self hσ (.inl S.loc)
  obtain rfl : u = Value.ref a := ru
  have hm : mm slf = some (.ref a) := by
    rcases lk with ⟨_, q⟩ | ⟨q, _⟩
    · exact q
    · have q : X.env.scope.names.lookup slf = some .cell ∨ X.env.scope.names.lookup slf = some .free := q
      rw [S.loc] at q
      rcases q with q | q <;> cases q
  subst ear
  refine wpAny_loadName_local I.ok.kind S.loc hns hm ?_
  obtain ⟨oD, hD1, hD2⟩ : ∃ oD, s.heap.get? D = some oD ∧ oD.data = .cls cdD := by
    unfold W.clsIn at hD
    split at hD
    · rename_i c d cd' sl ho
      cases hD
      exact ⟨_, KX _ _ ho, rfl⟩
    · cases hD
  obtain ⟨t1, hox⟩ := exo_at I.hok hH
  obtain ⟨nm, q, N, bs, bm, sn, sub, ab, col, dd0, k0, k1, k2, k3, k5, hC, hbm⟩ := M.ox.cls
  have hcC : W.clsIn X.K C = some { name := nm, bases := bs, mro := .ref C :: bm, ns := N, qualname := q, hasDict := true, slotNames := sn, subclasses := sub, abstract := ab, collection := col, hasDel := false } := by unfold W.clsIn; rw [hC] <;> rfl
  have hal := M.at_
  unfold W.ks_superIn at hal
  rw [hcC] at hal
  obtain ⟨hh, gg, dd, tt, os⟩ := s
  refine ks_wpAny_isType_cls hD1 hD2 ⟨rfl, ?_⟩
  refine ks_wpAny_call_super hD1 hD2 hox rfl (fun c e => by cases e) (W.looks_mroIn KX M.sub) (fun h' e1 k1' => ?_)
  have I1 : Inv X ((hh.objs.size, W.ks_superObj D a C) :: pins) σ H ⟨h', gg, dd, tt, os⟩ := ClX.pin_new (t' := tt) I (fun b o z => k1' b o z) (Nat.le_refl _) e1 (fun v z => nomatch z)
  have KX1 := I1.kIn
  obtain ⟨t2, hox1⟩ := exo_at I1.hok hH
  have hne : a ≠ C := fun z => by
    have e := KX1 _ _ hC
    rw [← z] at e
    rw [hox1] at e
    cases e
  refine PySem.W.kxs_getMethod PySem.W.kxs_ValueError (l₀ := .ref C :: bm) e1 (W.looks_opaque KX1 M.op) ?_ rfl KX1 hal ?_ hne (by decide) ?_
  · exact fun A Q E s k q => wpAny_bind ((W.looks_clsIn KX1 hcC) A _ E s k (wpAny_pure q))
  · have I' : W.InstAt h' a ({ cls := .ref C, dict := none, data := .fields #[.ref t2, .none, .none, .none, .bool false, .none] } : Obj) C none := ⟨hox1, rfl, rfl, trivial⟩
    exact I'.type.andThen (W.looks_mroIn KX1 M.isB)
  · have I2 : Inv X ((h'.objs.size, PySem.W.kxs_mw "ValueError.__init__" a) :: (hh.objs.size, W.ks_superObj D a C) :: pins) σ H ⟨h'.push (PySem.W.kxs_mw "ValueError.__init__" a), gg, dd, tt + 1, os⟩ :=
      ClX.pin_new (t' := tt + 1) I1 (fun _ _ z => Heap.get?_push_of_some _ z) (Nat.le_refl _) (Heap.get?_push_size h' rfl) (fun v z => nomatch z)
    have hall : (backTo pos (starEach (e :: es) X.env)).any (·.1) = false := by rw [hst]; exact (show (false || (backTo pos (starEach es X.env)).any (·.1)) = false by rw [hpl]; rfl)
    have key : wpAny (model X.prog X.w) X.A (spliced (backTo pos (starEach (e :: es) X.env))) (fun us s3 => PySem.W.KxsAt "ValueError.__init__" h'.objs.size a s3.heap ∧ wpAny (model X.prog X.w) X.A (call (.ref h'.objs.size) us) (EP X pins σ Q) X.xe s3) X.xe
        ⟨h'.push (PySem.W.kxs_mw "ValueError.__init__" a), gg, dd, tt + 1, os⟩ := thn (ha.run pos _ _ σ H _ I2 h) fun us s3 ⟨ws, H2, I3, rv, hlen, ea, q2⟩ => ⟨ClX.pin_at I3, ?_⟩
    · rw [hst] at key hall ⊢
      exact PySem.W.kxs_callWith (i := "ValueError.__init__") (x := a) hall (PySem.Calls.evalArgs_plain key)
    obtain ⟨hp3, g3, d3, tk3, os3⟩ := s3
    obtain ⟨t3, hox3⟩ := exo_at I3.hok ea
    have hus : us.length ≤ sizeLine := by
      rw [← Paired.length rv, sizeLine_eq]
      omega
    have I4 := ClX.unpin (ClX.unpin I3)
    refine mw_call PySem.F.excBase_ValueError (I3.kIn _ _ hC) hox3 (ClX.pin_at I3) hus fun h4 t4 k4 hx4 => ?_
    have J := I4.write (t' := tk3) (x := a) (e := a) (o := exo a C none) (by rw [ea]; exact True.intro) (.inl rfl) k4 ⟨_, hx4⟩ (exo_ok hx4)
    have eu : upd H2 a (exo a C none) = H2 := by
      funext b
      by_cases hb : b = a
      · rw [hb, upd_same, ea]
      · rw [upd_ne hb]
    rw [eu] at J
    exact ⟨.non, H2, J, rfl, q2⟩
end
end U

/-! exceptions of the program's own classes: made and raised -/
namespace U
open PySem PySem.Spec PyProof.Rows
open L2
theorem pa_exp {X : Cx} {bd st : List Stmt} {e : Expr} {pos : Pos} {t : TE} {u : TS} (h : PEA X bd e t) (hr : PSs X st u) (hi : interactive X.env = false := by rfl) (hs : swapsWith e none pos.line X.env = pure false := by rfl) :
    PSsA X bd (.Expr e pos :: st) (fun D σ H => t σ H fun _ H1 => u D σ H1) := by
  refine ⟨fun pins s σ H D I q => ?_⟩
  refine ks_wpAt_execs_cons (ks_wpAt_Expr_any ?_ hi hs)
  exact ks_wpAt_mono (h.run pins s σ H _ I q) (fun v s1 ⟨y, H1, I1, r1, q1⟩ => PySem.wpAt_of_wpAny (hr.run pins s1 σ H1 D I1 q1)) fun _ _ z => z
/-- C(..).__init__: what it leaves (the fields in the order lay, the newest first) -/
def spX (C : Addr) (n : Nat) (cd : Str) (lay : List Str) : Sp := fun vs H Q _ => ∃ (a : Addr) (us : List V), vs = .ref a :: us ∧ us.length = n ∧ H a = some (exo a C none) ∧
  ∀ d, H d = none → d ≠ a → Q .non (upd (upd H a (exo a C (some d))) d (exd d (List.zip lay (us.reverse ++ [.str cd]))))
theorem ups_swap {H : Hp} {a d : Addr} {o u u2 : HO} (h : d ≠ a) : upd (upd (upd H d u) a o) d u2 = upd (upd H a o) d u2 := by
  funext z
  by_cases e : z = d
  · subst e; rw [upd_same, upd_same]
  · rw [upd_ne e, upd_ne e]
    by_cases e2 : z = a
    · subst e2; rw [upd_same, upd_same]
    · rw [upd_ne e2, upd_ne e2, upd_ne e]
theorem ups_swap0 {H : Hp} {a d : Addr} {o u : HO} (h : d ≠ a) : upd (upd H d u) a o = upd (upd H a o) d u := by
  funext z
  by_cases e : z = d
  · subst e; rw [upd_same, upd_ne h, upd_same]
  · by_cases e2 : z = a
    · subst e2; rw [upd_same, upd_ne e, upd_same]
    · rw [upd_ne e2, upd_ne e, upd_ne e, upd_ne e2]
section
variable {P : Program} {w : World} {mg : Str → Option Value} {base : Heap} {K : PySem.W.Frag} {x qual : Str} {st : Stmt} {f cc C : Addr} {fd : FuncData} {m cd f1 f2 p1n p2n : Str} {ar : Arg}
/-- how super().__init__(text) is read at these places -/
def SupRd (m : Str) (j1 : Nat) (q0 q1 q2 q3 q4 : Pos) : Prop := ∃ pl : Sem Bool, ∀ env : Env, eval (.Call (.Attribute (.Call (.Name "super" q0) [] [] q1) "__init__" q2) [.Constant (.str m) j1 q3] [] q4) env = (do
      let ov ← attributeBase (.Call (.Name "super" q0) [] [] q1) "__init__" env (eval (.Call (.Name "super" q0) [] [] q1) env)
      standAt q2.atName
      let (f, first) ← holding [ov] (getMethod ov "__init__" pl)
      callWith q4 f first (backTo q4 (starEach [.Constant (.str m) j1 q3] env)) [])
variable {q0 q1 q2 q3 q4 q5 q6 q7 q8 q9 q10 q11 q12 q13 q14 q15 : Pos} {j1 j2 : Nat}
/-- one parameter, one field -/
theorem fn_exc1 (F : FunS K P x qual st f cc C fd) (S : SupScope ["self", p1n] ["self", p1n] (defScope st)) (M : SupX K C C)
    (hcls : ∃ cdD, W.clsIn K C = some cdD) (htop : (P.main.scope.names.lookup ("super" : Str)).isSome = false) (hmg : mg "super" = none)
    (hks : (defScope st).names.lookup ("super" : Str) = some .globalImplicit) (hkc : (defScope st).names.lookup ("__class__" : Str) = some .free) (hp : ((defArgs st).posonlyargs ++ (defArgs st).args).head? = some ar) (har : ar.arg = "self") (hself : (defScope st).names.lookup ("self" : Str) = some .local) (hp1 : (defScope st).names.lookup p1n = some .local)
    (n1 : PySem.W.findIn K (.ref C) "code" = some none) (n2 : PySem.W.findIn K (.ref C) f1 = some none) (hd1 : (p1n == ("__debug__" : Str)) = false) (hd2 : (p1n == ("__classdict__" : Str)) = false)
    (hrd : SupRd m j1 q0 q1 q2 q3 q4)
    (hb : defBody st = [.Expr (.Call (.Attribute (.Call (.Name "super" q0) [] [] q1) "__init__" q2) [.Constant (.str m) j1 q3] [] q4) q5, .Assign [.Attribute (.Name "self" q6) "code" q7] (.Constant (.str cd) j2 q8) q9, .Assign [.Attribute (.Name "self" q10) f1 q11] (.Name p1n q12) q13]) :
    FnOk P w K mg base (L2.CX P w) 1 f fd ["self", p1n] (spX C 1 cd [f1, "code"]) := by
  obtain ⟨oc, od, dV, kV, doc, pm, an, cdv, ct, osl, rfl, lk, hcd, hcode⟩ := F.ex
  obtain ⟨cl, cld, csl, lc⟩ := F.cell
  obtain ⟨pl, hrd⟩ := hrd
  rw [hb] at lk ⊢
  refine fn_ofS lk lc hcd S (fun vs H Q E h => ?_) (fun A outer s H vs Q E hr h => ?_)
  · obtain ⟨a, us, rfl, hl, _⟩ := h
    simp [hl]
  · obtain ⟨a, us, rfl, hl, ha, hq⟩ := h
    have hint : interactive (envS qual (defScope st) s.heap.objs.size f cdv cc) = false := by
      unfold interactive
      rw [show (envS qual (defScope st) s.heap.objs.size f cdv cc).scope.kind = .function from S.kind]
      rfl
    match us, hl with
    | [u], _ =>
      refine ⟨_, pa_exp (hi := hint) (pe_supX (C := C) (cc := cc) (f := f) (slf := "self") (t := _) ⟨hks, hkc, rfl, by show ([(("__class__" : Str), cc)]).lookup ("__class__" : Str) = some cc; rw [List.lookup_cons]; rfl, ⟨oc, od, _, osl, ar, lk, hp, har⟩, hcode, ⟨cl, cld, csl, lc⟩, hcls, htop, hmg, rfl, hself⟩ M (pa_cons pe_str pa_nil (by rfl)) (by rfl) (by rfl) (hrd _))
        (pss_cons (ps_ost (pe_var (i := 0) rfl (.inl hself)) pe_str) (pss_one (ps_ost (pe_var (i := 0) rfl (.inl hself)) (pe_var (i := 1) rfl (.inl hp1) hd1 hd2)))), ?_⟩
      refine ⟨a, rfl, ha, ?_⟩
      refine ⟨by simp, ha, ?_⟩
      refine ⟨.ref a, rfl, a, C, rfl, M.ox, n1, .inl ⟨ha, fun dx hdx hne => ?_⟩⟩
      refine ⟨u, rfl, .ref a, rfl, a, C, rfl, M.ox, n2, .inr ⟨dx, _, upd_same, by rw [upd_ne hne, upd_same], by simp, ?_⟩⟩
      rw [ups_swap hne]
      exact hq dx hdx hne
end
/-! ### raise C(..) -/
theorem spX_len {C : Addr} {n : Nat} {cd : Str} {lay : List Str} {vs : List V} {H : Hp} {Q : VK} {E : XK} (h : spX C n cd lay vs H Q E) : vs.length = n + 1 := by
  obtain ⟨a, us, rfl, hl, _⟩ := h
  simp [hl]
/-- the class c of the layer, named x: an exception's, its __init__ as told -/
structure RaiseOk (T : Tx) (P : Program) (w : World) (mg : Str → Option Value) (base : Heap) (x : Str) (c n : Nat) (cd : List Nat) : Prop where
  ok : ∃ (C f : Addr) (fd : FuncData) (ps : List Str), T.ct c = some C ∧ mg x = some (.ref C) ∧ OexC T.K C ∧ PySem.W.findIn T.K (.ref C) "__init__" = some (some (.ref f)) ∧ PySem.W.typeIn T.K (.ref f) = some (.type "function") ∧
    FnOk P w T.K mg base (L2.CX P w) 1 f fd ps (spX C n ⟨cd.toArray⟩ (T.lay c)) ∧ Binds T.K fd ps [] ∧ (T.lay c).length = n + 1 ∧ n ≤ 1000
def sRaise (c n : Nat) (cd : List Nat) (fa : EF) : SF := fun ls G => match fa ls G with
  | .ok (.tup ws) G1 => if ws.length = n then .exc (.obj c (ws.reverse ++ [.str cd])) ls G1 else .stuck
  | .ok _ _ => .stuck
  | .exc w G1 => .exc w ls G1
  | .stuck => .stuck
@[simp] theorem sRaise_e (c n : Nat) (cd : List Nat) (fa : EF) (ls : Ls) (G : Gs) : sRaise c n cd fa ls G = match fa ls G with
  | .ok (.tup ws) G1 => if ws.length = n then .exc (.obj c (ws.reverse ++ [.str cd])) ls G1 else .stuck
  | .ok _ _ => .stuck
  | .exc w G1 => .exc w ls G1
  | .stuck => .stuck := rfl
section
variable {T : Tx} {X : Cx} {W0 : WX} {e : Expr} {es : List Expr} {fa : EF} {x : Str} {c n : Nat} {cd : List Nat} {p pos pos' : Pos}
theorem fs_raise (cx : Ctx T X W0) (M : RaiseOk T X.prog X.w X.mg X.base x c n cd) (hr : Room 2 X.A) (ha : FA T X W0 (e :: es) fa) (hg : Gl X x := by rfl) (hdb : (x == ("__debug__" : Str)) = false := by decide +kernel)
    (he : starEach (e :: es) X.env = (false, eval e X.env) :: starEach es X.env := by rfl) (hpl : (backTo pos (starEach es X.env)).any (·.1) = false := by rfl) :
    FS T X W0 (.Raise (some (.Call (.Name x p) (e :: es) [] pos)) none pos') (sRaise c n cd fa) := by
  obtain ⟨t, ha, it⟩ := ha
  obtain ⟨C, f, fd, ps, hC, hm, T1, iC, tI, F1, hb, hlay, hn9⟩ := M.ok
  have hK := cx.hK
  have hx : Passes (L2.CX X.prog X.w) X (fun _ _ _ => False) := passes_call cx.tk (fun _ _ _ _ h => h.elim)
  refine ⟨_, ps_raise cx.calm cx.tk (pmk_oex (CX := L2.CX X.prog X.w) (C := C) (by rw [hK]; exact T1) (by rw [hK]; exact iC) (by rw [hK]; exact tI) (by rw [hK]; exact F1) hr (by rw [hK]; exact hb) .nil hx hg hm ha hdb he hpl), fun m ls G σ H D hG hL ho => ?_⟩
  refine it m ls G σ H _ hG hL ?_
  rw [sRaise_e] at ho
  cases e1 : fa ls G with
  | stuck => rw [e1] at ho; exact ho
  | exc w G1 =>
    rw [e1] at ho
    exact fun m1 c' d H1 k1 g1 r1 => ho m1 σ c' d H1 k1 g1 (hL.keep k1) r1
  | ok w G1 =>
    rw [e1] at ho
    cases w with
    | tup ws =>
      refine ⟨ws, rfl, fun m1 vs H1 k1 g1 r1 => ?_⟩
      have ho : OutS T W0 m H D (if ws.length = n then .exc (.obj c (ws.reverse ++ [.str cd])) ls G1 else .stuck) := ho
      by_cases hn : ws.length = n
      · rw [if_pos hn] at ho
        have hv : vs.length = n := by rw [← r1.length]; exact hn
        have hn1000 : vs.length ≤ 1000 := by omega
        refine ⟨hn1000, fun a ha0 => ?_⟩
        refine ⟨a, vs, by rw [List.append_nil], hv, upd_same, fun d hd hda => ⟨rfl, d, List.zip (T.lay c) (vs.reverse ++ [.str ⟨cd.toArray⟩]), by rw [upd_ne (Ne.symm hda), upd_same], upd_same, ?_, ?_⟩⟩
        · rw [upd_ne hda] at hd; exact hd
        · have hd1 : H1 d = none := by rw [upd_ne hda] at hd; exact hd
          have eq : upd (del (upd (upd (upd H1 a (exo a C none)) a (exo a C (some d))) d (exd d (List.zip (T.lay c) (vs.reverse ++ [.str ⟨cd.toArray⟩])))) a) d (.xd (List.zip (T.lay c) (vs.reverse ++ [.str ⟨cd.toArray⟩]))) = upd H1 d (.xd (List.zip (T.lay c) (vs.reverse ++ [.str ⟨cd.toArray⟩]))) := by
            funext z
            by_cases ez : z = d
            · subst ez; rw [upd_same, upd_same]
            · rw [upd_ne ez, upd_ne ez]
              by_cases ea : z = a
              · subst ea; rw [del_same, ha0]
              · rw [del_ne ea, upd_ne ez, upd_ne ea, upd_ne ea]
          rw [eq]
          have k2 : Keep m1 H1 m1 (upd H1 d (.xd (List.zip (T.lay c) (vs.reverse ++ [.str ⟨cd.toArray⟩])))) := Keep.new g1 hd1
          refine ho m1 σ (.ref C) (some d) _ (k1.trans k2) (g1.new hd1) (hL.keep (k1.trans k2)) ⟨c, _, C, d, vs.reverse ++ [.str ⟨cd.toArray⟩], rfl, hC, rfl, rfl, g1.free hd1, upd_same, by rw [hlay]; simp [hv], ?_⟩
          exact ((r1.reverse).append (.cons (.str cd) .nil)).keep k2
      · rw [if_neg hn] at ho
        exact False.elim ho
    | _ => exact False.elim ho
end
end U

set_option maxHeartbeats 2000000
/-! try: body, except (A, B, C) as n: suite, where whatever is raised is one of the three; a caught exception handed to a def -/
namespace U
open PySem PySem.Spec PyProof.Rows
open L2
theorem fly_push {B h : Heap} {l : List Env} {a : Addr} {Z : Obj → Prop} {u : Obj} (x : HandSPX.FlyingZ B l a Z h) : HandSPX.FlyingZ B l a Z (h.push u) := by
  obtain ⟨y1, y2, y3, oe, vs, t, ot, ts, z1, z2, z3, z4, z5, z6, z7, z8⟩ := x
  have k : ∀ b o, h.get? b = some o → (h.push u).get? b = some o := fun _ _ q => Heap.get?_push_of_some _ q
  exact ⟨fun b o q => k b o (y1 b o q), y2, Heap.FunFrames.of_keeps (fun b o q _ => ⟨o, k b o q, rfl⟩) y3, oe, vs, t, ot, ts, k _ _ z1, z2, z3, z4, z5, z6, k _ _ z7, z8⟩
theorem fly_nofr {B h : Heap} {l : List Env} {a : Addr} {Z : Obj → Prop} (x : HandSPX.FlyingZ B l a Z h) : a ∉ frs l := fun hm => by
  obtain ⟨_, _, y3, oe, vs, _, _, _, z1, _, z3, _⟩ := x
  obtain ⟨_, o, q, nf⟩ := y3.mem hm
  rw [z1] at q
  cases q
  exact nf _ z3
/-- what the clause wishes of an exception of the body -/
def w3 (K : PySem.W.Frag) (cs : List Value) (i : Nat) (ts : Addr → Value → Option Addr → TS) (D : Ends) : WX := fun cls d σ H =>
  PySem.W.exmAny K cls cs = some true ∧ ∀ a, H a = none → ts a cls d { nx := fun σ2 H2 => D.nx (σ2.set i none) H2, rt := D.rt, bk := fun σ2 H2 => D.bk (σ2.set i none) H2, ct := fun σ2 H2 => D.ct (σ2.set i none) H2 } (σ.set i (some (.ref a))) H
/-- a class of the module, by its name -/
def NamC (X : Cx) (x : Str) (c : Value) : Prop := Gl X x ∧ (x == ("__debug__" : Str)) = false ∧ X.mg x = some c
section
variable {X : Cx} {x1 x2 x3 n : Str} {c1 c2 c3 : Value} {i j : Nat} {bd su : List Stmt} {b0 : Stmt} {q0 q1 q2 q3 q4 q5 : Pos} {tb : WX → TS} {ts : Addr → Value → Option Addr → TS}
theorem ps_try3 (hst : X.stack = X.env :: X.outer) (hfe : X.env.frame = some X.env.locals) (nd : X.N.Nodup) (hn : X.N[i]? = some n) (hk : X.env.kindOf n = some .local) (h1 : NamC X x1 c1) (h2 : NamC X x2 c2) (hC3 : NamC X x3 c3)
    (hb : ∀ (W : WX) (pn : List (Addr × Obj)) (xe : Value → Shared → Prop), Takes (X.tr pn xe) W → PassesOwn (model X.prog X.w) X.A X.env xe → PSs (X.tr pn xe) bd (tb W))
    (hu : ∀ (a : Addr) (oe : Obj) (cls : Value) (d : Option Addr) (pn : List (Addr × Obj)), Zc cls d oe → (∃ vs, oe.data = .fields vs) → PSs (X.suite a ((a, oe) :: pn)) (b0 :: su) (ts a cls d)) :
    PS X (.Try bd [.ExceptHandler (some (.Tuple [.Name x1 q1, .Name x2 q2, .Name x3 q3] j q4)) (some n) (b0 :: su) q5] [] [] q0) (fun D σ H => tb (w3 X.K [c1, c2, c3] i ts D) D σ H) := by
  refine ⟨fun pins s σ H D I h => ?_⟩
  have ok := I.ok
  have hfr : X.A.frames = some (X.env :: X.outer) := ok.frames.trans (congrArg some hst)
  refine wpAny_Try_except (wpAny_mono ((hb (w3 X.K [c1, c2, c3] i ts D) (X.pn ++ pins) _ (fun u s1 xx => ?caught) PassesOwn.looking).run [] s σ H D (I.toTry _) h) (fun f s1 q => ?ran) fun _ _ q => q)
  case caught =>
    obtain ⟨a, B, s0, pins2, σ2, H2, cls, d, rfl, J0, nb, up, sky, na, os, ag, em, go⟩ := xx
    have J : Inv X pins σ2 H2 s0 := J0.ofTry ok
    refine Sky.land Zc.steady hfr hfe (hst ▸ sky) fun h3 fl up3 => ?_
    obtain ⟨oe, vs, he, hz, hd⟩ := fl.there
    have nfr := fly_nofr fl
    have nL : a ≠ X.env.locals := fun z => nfr (List.mem_filterMap.mpr ⟨X.env, List.mem_cons_self, z ▸ hfe⟩)
    have nF : a ∉ X.fs := fun hm => (List.mem_filterMap.mp hm).elim fun e q => nfr (List.mem_filterMap.mpr ⟨e, List.mem_cons_of_mem _ q.1, q.2⟩)
    have S3 := (J.landed (s' := { s1 with heap := h3 }) nb fl.1 (up.trans up3) os ag).suite he hd na nL nF
    refine wpAny_handleBy_cons (codeAny_handlers_test ?_) (fun z => nomatch z)
    refine wpAny_Tuple (wpAny_items_cons (ld_glob (X := X.suite a ((a, oe) :: (X.pn ++ pins))) S3 h1.1 h1.2.2 (wpAny_items_cons (ld_glob (X := X.suite a ((a, oe) :: (X.pn ++ pins))) S3 h2.1 h2.2.2
      (wpAny_items_cons (ld_glob (X := X.suite a ((a, oe) :: (X.pn ++ pins))) S3 hC3.1 hC3.2.2 (wpAny_items_nil ⟨(by decide : 3 ≤ sizeLine), ?_⟩) hC3.2.1)) h2.2.1)) h1.2.1))
    have k5 : ∀ b o, h3.get? b = some o → (h3.push { cls := .type "tuple", data := .seq [c1, c2, c3].toArray }).get? b = some o := fun _ _ q => Heap.get?_push_of_some _ q
    have fl5 := fly_push (u := { cls := .type "tuple", data := .seq [c1, c2, c3].toArray }) fl
    have up5 := up3.trans (Heap.UpToSlots.of_keeps k5)
    have LT : PySem.W.Looks (model X.prog X.w) (h3.push { cls := .type "tuple", data := .seq [c1, c2, c3].toArray }) (typeOf (.ref a)) cls := fun A' Q E' s' k q => wpAny_typeOf_ref (k _ _ (k5 _ _ he)) (by rw [hz.1]; exact q)
    refine (PySem.W.exm_tup3 (M := model X.prog X.w) (S3.kIn.keeps k5) LT (Heap.get?_push_size _ rfl) em).here ?_
    refine codeAny_handlers_suite_as (HandSPX.lands_againZ fl5 fun h6 fl6 up6 => ?_)
    obtain ⟨oe6, vs6, he6, hz6, hd6⟩ := fl6.there
    have S6 := (J.landed (s' := { s1 with heap := h6 }) nb fl6.1 (up.trans (up5.trans up6)) os ag).suite he6 hd6 na nL nF
    refine store_ok (X := X.suite a ((a, oe6) :: (X.pn ++ pins))) (v := .ref a) S6 nd hn (.inl hk) rfl (fun s7 S7 => ?_) (.inr hk)
    refine wpAny_mono ((hu a oe6 cls d (X.pn ++ pins) hz6 ⟨_, hd6⟩).run [] s7 _ H2 _ S7 (go a na)) (fun f s8 q => ?_) (fun _ _ z => False.elim z)
    have off : ∀ {σ8 : L2.St} {H8 : Hp} {Q : Shared → Prop}, Inv (X.suite a ((a, oe6) :: (X.pn ++ pins))) [] σ8 H8 s8 → (∀ s9, Inv X pins (σ8.set i none) H8 s9 → Q s9) →
        wpAny (model X.prog X.w) X.A (do bindName X.env n .none; unbindBehindTheSuite X.env n q5) (fun _ s9 => Q s9) X.xe s8 := fun S8 hq => gone_ok (S8.unsuite ok) nd hn hk hq
    cases f with
    | ret u => exact q.elim fun v q => q.elim fun σ8 q => q.elim fun H8 q => off q.1 fun s9 J9 => ⟨v, _, _, J9, q.2.1, q.2.2⟩
    | next => exact q.elim fun σ8 q => q.elim fun H8 q => off q.1 fun s9 J9 => ⟨_, _, J9, q.2⟩
    | brk => exact q.elim fun σ8 q => q.elim fun H8 q => off q.1 fun s9 J9 => ⟨_, _, J9, q.2⟩
    | cont => exact q.elim fun σ8 q => q.elim fun H8 q => off q.1 fun s9 J9 => ⟨_, _, J9, q.2⟩
  case ran =>
    cases f with
    | ret u => exact q.elim fun v q => q.elim fun σ8 q => q.elim fun H8 q => ⟨v, σ8, H8, q.1.ofTry ok, q.2⟩
    | next => exact q.elim fun σ8 q => q.elim fun H8 q => wpAny_execs_nil ⟨σ8, H8, q.1.ofTry ok, q.2⟩
    | brk => exact q.elim fun σ8 q => q.elim fun H8 q => ⟨σ8, H8, q.1.ofTry ok, q.2⟩
    | cont => exact q.elim fun σ8 q => q.elim fun H8 q => ⟨σ8, H8, q.1.ofTry ok, q.2⟩
end
end U

set_option maxHeartbeats 2000000
/-! a caught exception handed to a def (_law_field), a lambda handed to a def that tries it (_law_why) -/
namespace U
open PySem PySem.Spec PyProof.Rows
open L2
/-! ### the class number 1000 stands for the caught exception's address -/
mutual
def okW : W → Bool
  | .non => true
  | .bl _ => true
  | .int _ => true
  | .str _ => true
  | .ref _ => true
  | .ty _ => true
  | .tup xs => okWs xs
  | .lst xs => okWs xs
  | .fz xs => okWs xs
  | .dic xs => okWs xs
  | .obj c xs => decide (c ≠ 1000) && okWs xs
  | .cls c => decide (c ≠ 1000)
def okWs : List W → Bool
  | [] => true
  | x :: r => okW x && okWs r
end
theorem ok_keys : ∀ ks : List Key, okWs (ks.map kW) = true
  | [] => rfl
  | .inl _ :: r => by show (true && okWs (r.map kW)) = true; rw [ok_keys r]; rfl
  | .inr _ :: r => by show (true && okWs (r.map kW)) = true; rw [ok_keys r]; rfl
theorem and2 {a b : Bool} (h : (a && b) = true) : a = true ∧ b = true := by simpa using h
theorem ok_ent {k w : W} {ws : List W} (q : okWs (.tup [k, w] :: ws) = true) : okW w = true ∧ okWs ws = true := by
  have q : ((okW k && (okW w && true)) && okWs ws) = true := q
  simp at q
  exact ⟨q.1.2, q.2⟩
mutual
theorem RW.okc {T : Tx} {m : Mm} {H : Hp} (z : T.ct 1000 = none) : ∀ {w : W} {v : V}, RW T m H w v → okW w = true
  | _, _, .non => rfl
  | _, _, .bl _ => rfl
  | _, _, .int _ => rfl
  | _, _, .str _ => rfl
  | _, _, .ref _ => rfl
  | _, _, .ty _ => rfl
  | _, _, .tup r _ => RWs.okc z r
  | _, _, .lst r _ _ => RWs.okc z r
  | _, _, .fz r _ => RWs.okc z r
  | _, _, .dic r _ _ => RWe.okc z r
  | _, _, .dit r _ _ _ => RWt.okc z r
  | _, _, .obj (c := c) r _ h _ _ => by
    have n : c ≠ 1000 := fun e => by rw [e, z] at h; cases h
    show (decide (c ≠ 1000) && _) = true
    rw [decide_eq_true n, RWs.okc z r]; rfl
  | _, _, .cls (c := c) h => decide_eq_true fun e => by rw [e, z] at h; cases h
theorem RWs.okc {T : Tx} {m : Mm} {H : Hp} (z : T.ct 1000 = none) : ∀ {ws : List W} {vs : List V}, RWs T m H ws vs → okWs ws = true
  | _, _, .nil => rfl
  | _, _, .cons r t => by show (okW _ && okWs _) = true; rw [RW.okc z r, RWs.okc z t]; rfl
theorem RWe.okc {T : Tx} {m : Mm} {H : Hp} (z : T.ct 1000 = none) : ∀ {ws : List W} {vs : List (Key × V)}, RWe T m H ws vs → okWs ws = true
  | _, _, .nil => rfl
  | _, _, .consI r t => by show ((true && (okW _ && true)) && okWs _) = true; rw [RW.okc z r, RWe.okc z t]; rfl
  | _, _, .consS r t => by show ((true && (okW _ && true)) && okWs _) = true; rw [RW.okc z r, RWe.okc z t]; rfl
theorem RWt.okc {T : Tx} {m : Mm} {H : Hp} (z : T.ct 1000 = none) : ∀ {ws : List W} {vs : List (List Key × V)}, RWt T m H ws vs → okWs ws = true
  | _, _, .nil => rfl
  | _, _, .cons (ks := ks) r t => by show ((okWs (ks.map kW) && (okW _ && true)) && okWs _) = true; rw [ok_keys, RW.okc z r, RWt.okc z t]; rfl
end
mutual
theorem RW.conv {T T2 : Tx} {m : Mm} {H : Hp} (hK : T2.K = T.K) (hl : T2.lay = T.lay) (hc : ∀ c, c ≠ 1000 → T2.ct c = T.ct c) : ∀ {w : W} {v : V}, RW T m H w v → okW w = true → RW T2 m H w v
  | _, _, .non, _ => .non
  | _, _, .bl b, _ => .bl b
  | _, _, .int i, _ => .int i
  | _, _, .str s, _ => .str s
  | _, _, .ref h, _ => .ref h
  | _, _, .ty t, _ => .ty t
  | _, _, .tup r f, q => .tup (RWs.conv hK hl hc r q) (hK ▸ f)
  | _, _, .lst r n f, q => .lst (RWs.conv hK hl hc r q) n f
  | _, _, .fz r f, q => .fz (RWs.conv hK hl hc r q) (hK ▸ f)
  | _, _, .dic r n f, q => .dic (RWe.conv hK hl hc r q) n f
  | _, _, .dit r z n f, q => .dit (RWt.conv hK hl hc r q) z n f
  | _, _, .obj r n h e l, q => .obj (RWs.conv hK hl hc r (and2 q).2) n ((hc _ (of_decide_eq_true (and2 q).1)).trans h) (by rw [hl]; exact e) (by rw [hl]; exact l)
  | _, _, .cls h, q => .cls ((hc _ (of_decide_eq_true q)).trans h)
theorem RWs.conv {T T2 : Tx} {m : Mm} {H : Hp} (hK : T2.K = T.K) (hl : T2.lay = T.lay) (hc : ∀ c, c ≠ 1000 → T2.ct c = T.ct c) : ∀ {ws : List W} {vs : List V}, RWs T m H ws vs → okWs ws = true → RWs T2 m H ws vs
  | _, _, .nil, _ => .nil
  | _, _, .cons r t, q => .cons (RW.conv hK hl hc r (and2 q).1) (RWs.conv hK hl hc t (and2 q).2)
theorem RWe.conv {T T2 : Tx} {m : Mm} {H : Hp} (hK : T2.K = T.K) (hl : T2.lay = T.lay) (hc : ∀ c, c ≠ 1000 → T2.ct c = T.ct c) : ∀ {ws : List W} {vs : List (Key × V)}, RWe T m H ws vs → okWs ws = true → RWe T2 m H ws vs
  | _, _, .nil, _ => .nil
  | _, _, .consI r t, q => .consI (RW.conv hK hl hc r (ok_ent q).1) (RWe.conv hK hl hc t (ok_ent q).2)
  | _, _, .consS r t, q => .consS (RW.conv hK hl hc r (ok_ent q).1) (RWe.conv hK hl hc t (ok_ent q).2)
theorem RWt.conv {T T2 : Tx} {m : Mm} {H : Hp} (hK : T2.K = T.K) (hl : T2.lay = T.lay) (hc : ∀ c, c ≠ 1000 → T2.ct c = T.ct c) : ∀ {ws : List W} {vs : List (List Key × V)}, RWt T m H ws vs → okWs ws = true → RWt T2 m H ws vs
  | _, _, .nil, _ => .nil
  | _, _, .cons r t, q => .cons (RW.conv hK hl hc r (ok_ent q).1) (RWt.conv hK hl hc t (ok_ent q).2)
end
def okO : O → Bool
  | .lst xs => okWs xs
  | .dic xs => okWs xs
  | .ins c xs => decide (c ≠ 1000) && okWs xs
  | .dead => true
theorem RO.okc {T : Tx} {m : Mm} {H : Hp} (z : T.ct 1000 = none) {o : O} {a : Addr} (r : RO T m H o a) : okO o = true := by
  cases o with
  | lst xs => exact r.elim fun vs r => r.2.okc z
  | dic xs => exact r.elim (fun r => r.elim fun vs r => r.2.okc z) fun r => r.elim fun vs r => r.2.2.okc z
  | ins c xs =>
    obtain ⟨C, dx, vs, h, _, _, r⟩ := r
    have n : c ≠ 1000 := fun e => by rw [e, z] at h; cases h
    show (decide (c ≠ 1000) && _) = true
    rw [decide_eq_true n, r.okc z]; rfl
  | dead => rfl
theorem RO.conv {T T2 : Tx} {m : Mm} {H : Hp} (hK : T2.K = T.K) (hl : T2.lay = T.lay) (hc : ∀ c, c ≠ 1000 → T2.ct c = T.ct c) {o : O} {a : Addr} (r : RO T m H o a) (q : okO o = true) : RO T2 m H o a := by
  cases o with
  | lst xs => exact r.elim fun vs r => ⟨vs, r.1, r.2.conv hK hl hc q⟩
  | dic xs => exact r.elim (fun r => r.elim fun vs r => .inl ⟨vs, r.1, r.2.conv hK hl hc q⟩) fun r => r.elim fun vs r => .inr ⟨vs, r.1, r.2.1, r.2.2.conv hK hl hc q⟩
  | ins c xs =>
    obtain ⟨C, dx, vs, h, e, l, r⟩ := r
    exact ⟨C, dx, vs, (hc _ (of_decide_eq_true (and2 q).1)).trans h, by rw [hl]; exact e, by rw [hl]; exact l, r.conv hK hl hc (and2 q).2⟩
  | dead => exact r
/-- the same, knowing the caught exception: its address, its own dict, class and fields -/
def Tx.with (T : Tx) (a dd : Addr) (c : Nat) (ws : List W) : Tx := ⟨T.K, fun n => if n = 1000 then some a else T.ct n, T.lay, T.tb, some (dd, c, ws)⟩
theorem Tx.with_ct {T : Tx} {a dd : Addr} {c : Nat} {ws : List W} : ∀ n, n ≠ 1000 → (T.with a dd c ws).ct n = T.ct n := fun n h => if_neg h
theorem RG.into {T : Tx} {m : Mm} {G : Gs} {H : Hp} {a dd : Addr} {c : Nat} {ws : List W} (R : RG T m G H) (z : T.ct 1000 = none) (x : XD T m H (dd, c, ws)) : RG (T.with a dd c ws) m G H :=
  ⟨R.len, R.nd, fun i o b e1 e2 => (R.ob i o b e1 e2).conv (T := T) (T2 := T.with a dd c ws) rfl rfl Tx.with_ct ((R.ob i o b e1 e2).okc z), R.av, R.dj, R.tb, fun y q => by
    cases q
    obtain ⟨vs, h1, h2, h3, h4⟩ := x
    exact ⟨vs, h1, h2, h3, h4.conv (T := T) (T2 := T.with a dd c ws) rfl rfl Tx.with_ct (h4.okc z)⟩⟩
theorem RG.back {T : Tx} {m m' : Mm} {G : Gs} {H H' : Hp} {a dd : Addr} {c : Nat} {ws : List W} (R0 : RG T m G H) (z : T.ct 1000 = none) (n : T.er = none) (R : RG (T.with a dd c ws) m' G H') : RG T m' G H' :=
  ⟨R.len, R.nd, fun i o b e1 e2 => (R.ob i o b e1 e2).conv (T := T.with a dd c ws) (T2 := T) rfl rfl (fun c h => (Tx.with_ct c h).symm) (by
    have hi : i < m.r.length := by rw [R0.len]; exact (List.getElem?_eq_some_iff.mp e1).1
    exact (R0.ob i o m.r[i] e1 (by simp [hi])).okc z), R.av, R.dj, R.tb, fun y q => by rw [n] at q; cases q⟩
/-! ### the fields of the caught exception -/
structure XfOk (T : Tx) (f : Str) (c i : Nat) : Prop where
  at_ : (T.lay c)[i]? = some f
  fst : ∀ j, j < i → (T.lay c)[j]? ≠ some f
  ok : ∀ C, T.ct c = some C → XfC T.K C ∧ PySem.W.findIn T.K (.ref C) f = some none
/-- what the callee's context knows of it -/
structure YOk (T : Tx) (Y : Cx) (a dd : Addr) (c : Nat) (C : Addr) (oe : Obj) : Prop where
  hK : Y.K = T.K
  nd : Y.N.Nodup
  hu : Y.A.units + 64 < cLine
  mem : (a, oe) ∈ Y.pn
  hz : Zc (.ref C) (some dd) oe
  hd : ∃ vs, oe.data = .fields vs
  ct : T.ct c = some C
def tXq (a dd : Addr) (f : Str) (te : TE) : TE := fun σ H Q => te σ H fun x H1 => x = .ref a ∧ ∃ fs v, H1 dd = some (.xd fs) ∧ fs.lookup f = some v ∧ Q v H1
theorem pe_xq {Y : Cx} {a dd C : Addr} {oe : Obj} {e : Expr} {te : TE} {pos : Pos} {f : Str} (t : XfC Y.K C) (hn : PySem.W.findIn Y.K (.ref C) f = some none) (hm : (a, oe) ∈ Y.pn) (hz : Zc (.ref C) (some dd) oe) (hd : ∃ vs, oe.data = .fields vs)
    (he : PE Y e te) (hb : attributeBase e f Y.env (eval e Y.env) = eval e Y.env := by rfl) : PE Y (.Attribute e f pos) (tXq a dd f te) := by
  refine ⟨fun pins s σ H Q I h => attr_of hb (thn (he.run pins s σ H _ I h) fun u s1 q => ?_)⟩
  obtain ⟨x, H1, I1, rx, rfl, fs, v, e1, e2, q⟩ := q
  obtain rfl : u = Value.ref a := rx
  have p := (I1.pin (a, oe) (List.mem_append_left _ hm)).1
  obtain ⟨vs, hd⟩ := hd
  obtain ⟨mA, ns, rs⟩ : ObjOk Y.prog Y.w H1 s1.heap dd (.xd fs) := I1.hok dd _ e1
  obtain ⟨od, g1, g2⟩ := lookIn_ns ns
  obtain ⟨u, eu, ru⟩ := RelO.some_of (v := v) (o := mA f) (by rw [← e2]; exact rs f)
  refine HandSPX.exc_get I1.kIn ⟨p, hz.1, by unfold PySem.W.notCls; rw [hd] <;> rfl, by rw [hz.2]; exact g1⟩ t.ga t.gg t.exC (PySem.W.findObj_own t.hdC hn rfl (by rw [g2, eu])) (handed_of ru) ⟨v, H1, I1.tok _, ru, q⟩
def eXF (x : W) (tbl : List (Nat × Nat)) (fo : EF) : EF := fun ls G => match fo ls G with
  | .ok (.cls k) G1 => if k = 1000 then (match x with
    | .obj c ws => (match tbl.lookup c with
      | some i => (match ws[i]? with
        | some w => .ok w G1
        | none => .stuck)
      | none => .stuck)
    | _ => .stuck) else .stuck
  | _ => .stuck
section
variable {T : Tx} {Y : Cx} {W0 : WX} {a dd C : Addr} {c : Nat} {ws : List W} {oe : Obj} {e : Expr} {fo : EF} {f : Str} {pos : Pos}
@[simp] theorem eXF_e {x : W} {tbl : List (Nat × Nat)} {ls : Ls} {G : Gs} : eXF x tbl fo ls G = match fo ls G with
  | .ok (.cls k) G1 => if k = 1000 then (match x with
    | .obj c ws => (match tbl.lookup c with
      | some i => (match ws[i]? with
        | some w => .ok w G1
        | none => .stuck)
      | none => .stuck)
    | _ => .stuck) else .stuck
  | _ => .stuck := rfl
theorem fe_xf {tbl : List (Nat × Nat)} (y : YOk T Y a dd c C oe) (ht : ∀ p ∈ tbl, XfOk T f p.1 p.2) (ho : FE (T.with a dd c ws) Y W0 e fo) (hb : attributeBase e f Y.env (eval e Y.env) = eval e Y.env := by rfl) :
    FE (T.with a dd c ws) Y W0 (.Attribute e f pos) (eXF (.obj c ws) tbl fo) := by
  obtain ⟨t, ho, io⟩ := ho
  cases el : tbl.lookup c with
  | none =>
    refine ⟨fun _ _ _ => False, ⟨fun _ _ _ _ _ _ h => h.elim⟩, fun m ls G σ H Q hG hL o => ?_⟩
    rw [eXF_e] at o
    split at o
    · split at o
      · simp only [el] at o
        exact o
      · exact o
    · exact o
  | some i =>
    have F := ht _ (lookup_mem el)
    obtain ⟨X1, X2⟩ := F.ok C y.ct
    refine ⟨_, pe_xq (Y := Y) (a := a) (dd := dd) (by rw [y.hK]; exact X1) (by rw [y.hK]; exact X2) y.mem y.hz y.hd ho hb, fun m ls G σ H Q hG hL o => ?_⟩
    rw [eXF_e] at o
    refine io m ls G σ H _ hG hL ?_
    split at o
    · rename_i k G1 e1
      split at o
      · rename_i hk
        rw [e1]
        subst hk
        intro m1 v H1 k1 g1 r1
        cases r1 with
        | cls h =>
          have h : (if (1000 : Nat) = 1000 then some a else T.ct 1000) = some _ := h
          rw [if_pos rfl] at h
          cases h
          simp only [el] at o
          split at o
          · rename_i w ew
            obtain ⟨vs, n, e2, l, rs⟩ := g1.xe _ rfl
            obtain ⟨u, eu, ru⟩ := rs.get ew
            exact ⟨rfl, _, u, e2, lookup_zip F.at_ F.fst eu, o m1 u H1 k1 g1 ru⟩
          · exact o.elim
      · exact o.elim
    · exact o.elim
theorem fs_setQ (i : Nat) {x : Str} {p' : Pos} {f : EF} (nd : Y.N.Nodup) (he : FE T Y W0 e f) (hs : swapsWith e (some (.Name x p')) pos.line Y.env = pure false := by rfl) (hi : Y.N[i]? = some x := by rfl) (hx : Loc Y.env.scope x := by first | exact Or.inl rfl | exact Or.inr rfl)
    (hf : Y.fn x = true ∨ Y.env.scope.names.lookup x = some .local := by first | exact .inl rfl | exact .inr rfl) : FS T Y W0 (.Assign [.Name x p'] e pos) (sAsg f (gN i)) := by
  obtain ⟨t, he, ie⟩ := he
  exact ⟨_, ps_set nd hi hx he hs hf, fun m ls G σ H D hG hL ho => ie.goS hG hL ho fun w G1 m1 v H1 k1 g1 r1 l1 o1 => o1 m1 _ H1 (.refl _ _) g1 (l1.set i r1)⟩
end
/-! ### the def that reads them -/
/-- its context -/
abbrev cxY (P : Program) (w : World) (K : PySem.W.Frag) (mg : Str → Option Value) (base : Heap) (N : List Str) (x : Str) (st : Stmt) (f : Addr) (cdv : Value) (A : Around) (outer : List Env) (s : Shared) (H : Hp) (p : Addr × Obj) : Cx :=
  L2H.cxH (L2.CX P w) P w K mg base N x (defScope st) f cdv A outer s H (fun _ _ _ => False) p
structure XCall (T : Tx) (P : Program) (w : World) (mg : Str → Option Value) (base : Heap) (f : Addr) (fd : FuncData) (x : Str) (F : W → List W → Gs → Res) : Prop where
  run : ∀ (A : Around) (outer : List Env) (s : Shared) (H : Hp) (a dd C : Addr) (oe : Obj) (m : Mm) (G : Gs) (c : Nat) (ws : List W) (Q : VK) (r : W), L2H.RoomH 1 A → L2H.PinOk outer H s (a, oe) → Env0 P w T.K mg base A outer s H → BindsTo s fd ⟨[.ref a], []⟩ [(x, .ref a)] →
    Zc (.ref C) (some dd) oe → (∃ vs, oe.data = .fields vs) → T.ct c = some C → T.ct 1000 = none → T.er = none → RG T m G H → XD T m H (dd, c, ws) → F (.obj c ws) [.cls 1000] G = .ok r G → okW r = true →
    (∀ m' v H', Keep m H m' H' → RG T m' G H' → RW T m' H' r v → Q v H') → codeAny (model P w) A (.call (.ref f) ⟨[.ref a], []⟩) (CR (L2.CX P w) outer P w H s Q fun _ _ _ => False) s
theorem xcall_of {T : Tx} {P : Program} {w : World} {mg : Str → Option Value} {base : Heap} {f : Addr} {fd : FuncData} {x p1 : Str} {st : Stmt} {N : List Str} {B : W → SF} (F : Fun T.K x x st f fd) (S : FnScope N [p1] (defScope st))
    (hb : ∀ (cdv : Value) (A : Around) (outer : List Env) (s : Shared) (H : Hp) (a dd C : Addr) (oe : Obj) (c : Nat) (ws : List W), YOk T (cxY P w T.K mg base N x st f cdv A outer s H (a, oe)) a dd c C oe →
      FSs (T.with a dd c ws) (cxY P w T.K mg base N x st f cdv A outer s H (a, oe)) WN (defBody st) (B (.obj c ws))) : XCall T P w mg base f fd p1 fun y => mkFn 1 N.length (B y) := by
  refine ⟨fun A outer s H a dd C oe m G c ws Q r hr hpin e0 hbi hz hd hct z n R xd hF ok hQ => ?_⟩
  obtain ⟨oc, od, kV, doc, pm, an, cdv, ct, osl, rfl, lk, hcd⟩ := F.ex
  have kin : T.K.In s.heap := e0.mod.kin.keeps fun b o q => (e0.bs b o q).1
  have nol : s.heap.NoLimit := e0.mod.nolimit.keeps fun b o q => (e0.bs b o q).1
  have hp1 : (defScope st).names.lookup p1 = some .local ∨ ((defScope st).names.lookup p1 = some .cell ∧ ((cellsFrom (s.heap.objs.size + 1) (defScope st).names []).lookup p1).isSome = true) :=
    (S.par p1 (by simp)).elim .inl fun q => .inr ⟨q, PySem.W.cellsFrom_some _ _ _ (.inl q)⟩
  refine codeAny_call_function hr.depth (kin _ _ lk) rfl S.co S.gen rfl (PySem.W.codeRec_of kin hcd) (hbi _ _ _ _ ?_)
  refine wpAny_newFunctionEnv_cells S.kind (fun y hy => by rw [List.mem_singleton.mp hy]; exact hp1) fun env he s1 ic => ?_
  subst he
  refine ⟨nol.keeps ic.toInCall.keep, codeAny_func ?_⟩
  have J : Inv (cxY P w T.K mg base N x st f cdv A outer s H (a, oe)) [] (L2.start N [.ref a]) H s1 := L2H.inv_startH (ps := [p1]) (us := [.ref a]) (vs := [.ref a]) S hpin e0 rfl (.cons rfl .nil) ic
  have hun : (A.deeper (envOfC x (defScope st) s.heap.objs.size f cdv)).units + 64 < cLine := by
    have h := hr.un
    show A.units + 3 + 64 < _
    omega
  obtain ⟨t, ht, it⟩ := hb cdv A outer s H a dd C oe c ws ⟨rfl, S.nd, hun, List.mem_singleton.mpr rfl, hz, hd, hct⟩
  have R1 := R.into (a := a) z xd
  have r0 : RWs (T.with a dd c ws) m H [.cls 1000] [.ref a] := .cons (.cls (show (if (1000 : Nat) = 1000 then some a else T.ct 1000) = some a from if_pos rfl)) .nil
  have done : ∀ {w2 : W} {G2 : Gs}, Res.ok w2 G2 = Res.ok r G → ∀ m' v H', Keep m H m' H' → RG (T.with a dd c ws) m' G2 H' → RW (T.with a dd c ws) m' H' w2 v → Q v H' := fun e m' v H' k g q => by
    cases e
    exact hQ m' v H' k (R.back z n g) (q.conv (T := T.with a dd c ws) (T2 := T) rfl rfl (fun c h => (Tx.with_ct c h).symm) ok)
  have go : t { nx := fun _ H' => Q .non H', rt := Q } (L2.start N [.ref a]) H := by
    refine it m ([some (.cls 1000)] ++ List.replicate (N.length - 1) none) G _ H _ R1 (rl_start (N := N) r0) ?_
    have hF : mkFn 1 N.length (B (.obj c ws)) [.cls 1000] G = .ok r G := hF
    simp only [mkFn, List.length_singleton, if_true, List.map_cons, List.map_nil] at hF
    cases e : B (.obj c ws) ([some (.cls 1000)] ++ List.replicate (N.length - 1) none) G with
    | nx ls G2 => rw [e] at hF; exact fun m' σ' H' k g _ => done hF m' _ H' k g .non
    | rt w2 G2 => rw [e] at hF; exact fun m' v H' k g q => done hF m' v H' k g q
    | exc w2 ls G2 => rw [e] at hF; cases hF
    | bk _ _ => rw [e] at hF; cases hF
    | ct _ _ => rw [e] at hF; cases hF
    | stuck => rw [e] at hF; cases hF
  refine wpAny_mono (ht.run [] s1 _ H _ J go) (fun fl s' q => ?_) fun e s' q => q
  cases fl with
  | ret u => exact q.elim fun v q => q.elim fun σ' q => q.elim fun H' q => ⟨v, H', q.1.os, q.1.bare, q.1.base, q.1.hok, q.2.1, q.2.2⟩
  | next => exact q.elim fun σ' q => q.elim fun H' q => ⟨.non, H', q.1.os, q.1.bare, q.1.base, q.1.hok, rfl, q.2⟩
  | brk => exact q.elim fun σ' q => q.elim fun H' q => q.2.elim
  | cont => exact q.elim fun σ' q => q.elim fun H' q => q.2.elim
end U

set_option maxHeartbeats 2000000
/-! _law_why(lambda: E): ("", what E gives) or the code and the fields of what it raises -/
namespace U
open PySem PySem.Spec PyProof.Rows
open L2
section
variable {T : Tx} {X : Cx} {a f : Addr} {oe : Obj} {cls : Value} {d : Option Addr} {pn : List (Addr × Obj)} {e : Expr} {te : TE} {fd : FuncData} {x p1 : Str} {F : W → List W → Gs → Res} {q pos : Pos}
/-- what is wished of the call: the fields, then Q -/
def XW (T : Tx) (F : W → List W → Gs → Res) (cls : Value) (d : Option Addr) (H : Hp) (Q : W → VK) : Prop :=
  ∃ (C dd : Addr) (m : Mm) (G : Gs) (c : Nat) (ws : List W) (r : W), cls = .ref C ∧ d = some dd ∧ T.ct c = some C ∧ T.ct 1000 = none ∧ T.er = none ∧ RG T m G H ∧ XD T m H (dd, c, ws) ∧ F (.obj c ws) [.cls 1000] G = .ok r G ∧ okW r = true ∧
    ∀ m' v H', Keep m H m' H' → RG T m' G H' → RW T m' H' r v → Q r v H'
theorem XW.imp {H : Hp} {Q Q' : W → VK} (h : XW T F cls d H Q) (k : ∀ r v H', Q r v H' → Q' r v H') : XW T F cls d H Q' := by
  obtain ⟨C, dd, m, G, c, ws, r, h1, h2, h3, h4, h5, h6, h7, h8, h9, h10⟩ := h
  exact ⟨C, dd, m, G, c, ws, r, h1, h2, h3, h4, h5, h6, h7, h8, h9, fun m' v H' a b c => k _ _ _ (h10 m' v H' a b c)⟩
theorem pe_xcall (XC : XCall T X.prog X.w X.mg X.base f fd p1 F) (hK : X.K = T.K) (hr : L2H.RoomH 1 X.A) (hg : Gl X x) (hm : X.mg x = some (.ref f)) (hk : PySem.W.keepIn X.K (.ref f) = true) (hb : Binds X.K fd [p1] [])
    (hz : Zc cls d oe) (hd : ∃ vs, oe.data = .fields vs) (he : PE (X.suite a ((a, oe) :: pn)) e te) (hdb : (x == ("__debug__" : Str)) = false := by decide +kernel)
    (hs : starEach [e] X.env = (false, eval e X.env) :: starEach [] X.env := by rfl) (hpl : (backTo pos (starEach [] X.env)).any (·.1) = false := by rfl) :
    PE (X.suite a ((a, oe) :: pn)) (.Call (.Name x q) [e] [] pos) (fun σ H Q => te σ H fun v H1 => [v] = [V.ref a] ∧ XW T F cls d H1 fun _ => Q) := by
  refine ⟨fun pins s σ H Q I h => ?_⟩
  refine wpAny_Call_Name_kw (ld_glob I hg hm ?_ hdb)
  have ha := pa_cons (X := X.suite a ((a, oe) :: pn)) he pa_nil hs
  refine PySem.W.callWith_K (h₀ := X.base) I.ok.mod.kin hk (thn (ha.run pos pins s σ H (fun vs H1 => vs = [.ref a] ∧ XW T F cls d H1 fun _ => Q) I ?_) fun us s1 q => ?_) hs hpl
  · exact h
  · obtain ⟨vs, H1, I1, rv, rfl, C, dd, m, G, c, ws, r, rfl, rfl, hct, z, n, R, xd, hF, ok, hQ⟩ := q
    obtain rfl : us = [.ref a] := by
      cases rv with
      | cons r1 r2 => cases r2; rw [show _ = Value.ref a from r1]
    refine ⟨I1.kIn, ?_⟩
    have P := I1.pin (a, oe) (List.mem_append_left _ List.mem_cons_self)
    have hpin : L2H.PinOk X.stack H1 s1 (a, oe) := ⟨P.1, P.2.1, fun h => (List.mem_cons.mp (I1.stkSub a h)).elim P.2.2.1 P.2.2.2.1, P.2.2.2.2⟩
    have hbt := hb s1 [.ref a] I1.kIn rfl
    refine wpAny_call (codeAny_mono (XC.run _ X.stack s1 H1 a dd C oe m G c ws Q r ⟨hr.dp, hr.un⟩ hpin (hK ▸ I1.env0) hbt hz hd hct z n R xd hF ok hQ) fun rr s2 q => ?_)
    cases rr with
    | error e => exact (q.elim fun _ q => q.elim fun _ q => q.elim fun _ q => q.elim fun _ q => q.elim fun _ q => q.2.2.2.2.2.2.2.elim)
    | ok fl =>
      cases fl with
      | ret u => exact I1.after q
      | next => exact q.elim
      | brk => exact q.elim
      | cont => exact q.elim
end
/-! ### try: return ("", a()), except (A, B, C) as n: return (n.code, fx(n)) -/
section
variable {T : Tx} {X : Cx} {F : W → List W → Gs → Res} {xt : List (Nat × Nat)}
/-- what is wished of an exception: Q of the pair -/
def EWhy (T : Tx) (K : PySem.W.Frag) (cs : List Value) (F : W → List W → Gs → Res) (H : Hp) (cls : Value) (d : Option Addr) (Q : VK) : Prop :=
  PySem.W.exmAny K cls cs = some true ∧ ∃ (C dd : Addr) (fs : List (Str × V)) (v : V), cls = .ref C ∧ d = some dd ∧ XfC K C ∧ PySem.W.findIn K (.ref C) "code" = some none ∧ H dd = some (.xd fs) ∧ fs.lookup ("code" : Str) = some v ∧
    XW T F cls d H fun _ u H2 => ∀ p, H2 p = none → Q (.ref p) (upd H2 p (.tup [v, u]))
def TTwhy (T : Tx) (K : PySem.W.Frag) (cs : List Value) (F : W → List W → Gs → Res) : (XK → Hp → VK → Prop) → Hp → VK → Prop := fun tl H Q =>
  tl (fun cls d H1 => EWhy T K cs F H1 cls d Q) H fun v H1 => [V.str "", v].length ≤ sizeLine ∧ ∀ p, H1 p = none → Q (.ref p) (upd H1 p (.tup [.str "", v]))
variable {f g : Addr} {fd : FuncData} {sg : Scope} {cdg c1 c2 c3 : Value} {x y p1 a n x1 x2 x3 q : Str} {qa qb q0 q1 q2 q3 q4 q5 r0 r1 r2 r3 r4 r5 r6 r7 r8 r9 : Pos} {j1 j2 j3 j4 : Nat}
theorem why_gives (hK : X.K = T.K) (XC : XCall T X.prog X.w X.mg X.base f fd p1 F) (hm : X.mg y = some (.ref f)) (hk : PySem.W.keepIn X.K (.ref f) = true) (hb : Binds X.K fd [p1] []) (hr : L2H.RoomH 2 X.A)
    (Sg : FnScope [a, n] [a] sg) (gy : sg.names.lookup y = some .globalImplicit) (g1 : sg.names.lookup x1 = some .globalImplicit) (g2 : sg.names.lookup x2 = some .globalImplicit) (g3 : sg.names.lookup x3 = some .globalImplicit) (ln : sg.names.lookup n = some .local)
    (m1 : X.mg x1 = some c1) (m2 : X.mg x2 = some c2) (m3 : X.mg x3 = some c3) (dy : (y == ("__debug__" : Str)) = false) (d1 : (x1 == ("__debug__" : Str)) = false) (d2 : (x2 == ("__debug__" : Str)) = false) (d3 : (x3 == ("__debug__" : Str)) = false)
    (dn : (n == ("__debug__" : Str)) = false) (dcn : (n == ("__classdict__" : Str)) = false) :
    LamX.GivesTo X [a, n] x sg g cdg [.Try [.Return (some (.Tuple [.Constant (.str "") j1 q1, .Call (.Name a q2) [] [] q3] j2 q4)) q5]
      [.ExceptHandler (some (.Tuple [.Name x1 r1, .Name x2 r2, .Name x3 r3] j3 r4)) (some n) [.Return (some (.Tuple [.Attribute (.Name n r5) "code" r6, .Call (.Name y r7) [.Name n r8] [] r9] j4 q0)) r0] qa] [] [] qb] a q (TTwhy T X.K [c1, c2, c3] F) := by
  intro lf c' s H Q tl act hc h
  let Z : Cx := (cxOf C8.CX0 X.prog X.w X.K X.mg X.base [a, n] x sg g cdg X.A X.stack s H C8.E0).nox
  have hv : Vis sg n := .inl ln
  -- the suite
  have suite : ∀ (e : Addr) (oe : Obj) (cls : Value) (d : Option Addr) (pn : List (Addr × Obj)), Zc cls d oe → (∃ vs, oe.data = .fields vs) →
      PSs (Z.suite e ((e, oe) :: pn)) [.Return (some (.Tuple [.Attribute (.Name n r5) "code" r6, .Call (.Name y r7) [.Name n r8] [] r9] j4 q0)) r0] (fun D σ H => σ.length = 2 → σ[1]? = some (some (.ref e)) ∧ EWhy T X.K [c1, c2, c3] F H cls d D.rt) := fun e oe cls d pn hz hd => by
    refine ⟨fun pins s' σ H' D I hw => ?_⟩
    have hl : σ.length = 2 := I.len
    obtain ⟨h1, _, C, dd, fs, v, rfl, rfl, xc, xn, e1, e2, xw⟩ := hw hl
    have pv : ∀ {p : Pos}, PE (Z.suite e ((e, oe) :: pn)) (.Name n p) (tVar 1) := fun {p} => pe_var (i := 1) rfl hv dn dcn
    have pc := pe_xcall (T := T) (X := Z) (a := e) (oe := oe) (cls := .ref C) (d := some dd) (pn := pn) (te := tVar 1) (q := r7) (pos := r9) XC hK (hr.deeper _) gy hm hk hb hz hd (pv (p := r8)) dy
    have px := pe_xf (X := Z) (a := e) (C := C) (pos := r6) (n := "code") xc xn hz hd (pv (p := r5))
    have ps := pss_one (ps_ret (pos := r0) (pe_tup (x1 := j4) (pos := q0) (pa_cons px (pa_cons pc pa_nil))))
    refine ps.run pins s' σ H' D I ⟨.ref e, h1, rfl, rfl, dd, fs, v, rfl, e1, e2, .ref e, h1, rfl, ?_⟩
    exact xw.imp fun _ u H2 k => ⟨(by decide : 2 ≤ sizeLine), k⟩
  refine ⟨_, pss_one (ps_try3 (X := Z) (i := 1) rfl rfl Sg.nd rfl ln ⟨g1, d1, m1⟩ ⟨g2, d2, m2⟩ ⟨g3, d3, m3⟩
    (tb := fun W D σ H' => ∃ Ech : XK, (∀ cls d σ' H1, Ech cls d H1 → W cls d σ' H1) ∧ σ[0]? = some (some (.ref lf)) ∧ H' c' = some (LamX.CodeO c' q) ∧ tl Ech H' fun v H1 => [V.str "", v].length ≤ sizeLine ∧ ∀ p, H1 p = none → D.rt (.ref p) (upd H1 p (.tup [.str "", v])))
    (fun W pn xe tk _ => ⟨fun pins s' σ H' D I h' => ?_⟩) suite), ?_⟩
  · obtain ⟨Ech, hW, k1, k2, k3⟩ := h'
    exact (pss_one (ps_ret (pos := q5) (pe_tup (x1 := j2) (pos := q4) (pa_cons (pe_str (x := "") (j := j1) (pos := q1)) (pa_cons (act W pn xe Ech q2 q3 tk hW) pa_nil))))).run pins s' σ H' D I ⟨k1, k2, k3⟩
  · refine ⟨fun cls d H1 => EWhy T X.K [c1, c2, c3] F H1 cls d Q, fun cls d σ' H1 q => ⟨q.1, fun e _ hl => ⟨?_, q⟩⟩, rfl, hc, h⟩
    rw [List.length_set] at hl
    exact List.getElem?_set_self (by omega)
end

/-! ### the layer's word -/
def eWhy (xf : W → Option W) (xt : List (Nat × Nat)) (fE : EF) : EF := fun ls G => match fE ls G with
  | .ok w G1 => .ok (.tup [.str [], w]) G1
  | .exc (.obj c ws) G1 => (match xt.lookup c with
    | some i => (match ws[i]?, xf (.obj c ws) with
      | some cw, some r => if okW r = true then .ok (.tup [cw, r]) G1 else .stuck
      | _, _ => .stuck)
    | none => .stuck)
  | _ => .stuck
@[simp] theorem eWhy_e (xf : W → Option W) (xt : List (Nat × Nat)) (fE : EF) (ls : Ls) (G : Gs) : eWhy xf xt fE ls G = match fE ls G with
  | .ok w G1 => .ok (.tup [.str [], w]) G1
  | .exc (.obj c ws) G1 => (match xt.lookup c with
    | some i => (match ws[i]?, xf (.obj c ws) with
      | some cw, some r => if okW r = true then .ok (.tup [cw, r]) G1 else .stuck
      | _, _ => .stuck)
    | none => .stuck)
  | _ => .stuck := rfl
/-- the def x that tries a lambda -/
structure WhyOk (T : Tx) (P : Program) (w : World) (mg : Str → Option Value) (base : Heap) (x : Str) (F : W → List W → Gs → Res) (cs : List Value) : Prop where
  ok : ∃ (g : Addr) (fd : FuncData) (a : Str) (Ng : List Str) (st : Stmt), Fun T.K x x st g fd ∧ mg x = some (.ref g) ∧ PySem.W.keepIn T.K (.ref g) = true ∧ Binds T.K fd [a] [] ∧ FnScope Ng [a] (defScope st) ∧ Ng[0]? = some a ∧ Vis (defScope st) a ∧
    (a == ("__debug__" : Str)) = false ∧ (a == ("__classdict__" : Str)) = false ∧
    ∀ (X : Cx) (cdv : Value) (q : Str), X.prog = P → X.w = w → X.K = T.K → X.mg = mg → X.base = base → L2H.RoomH 2 X.A → LamX.GivesTo X Ng x (defScope st) g cdv (defBody st) a q (TTwhy T T.K cs F)
/-- the classes that may come, each with the place of its code -/
def XtOk (T : Tx) (cs : List Value) (xt : List (Nat × Nat)) : Prop := ∀ p ∈ xt, XfOk T "code" p.1 p.2 ∧ ∀ C, T.ct p.1 = some C → PySem.W.exmAny T.K (.ref C) cs = some true
theorem keep_ext {T : Tx} {m : Mm} {G : Gs} {H H1 : Hp} (R : RG T m G H) (e : LamX.ExtN H H1) (t : LamX.Tabs T.tb H1) : Keep m H m H1 ∧ RG T m G H1 := by
  have st : ∀ {a : Addr} {o : HO}, H a = some o → Nb o → H1 a = some o := fun {a o} h n => e a o h fun ps z => by subst z; exact n
  have k : Keep m H m H1 := ⟨⟨[], (List.append_nil m.r).symm⟩, fun _ h => h, fun _ h => .inl h, fun a o h n => ⟨o, st h n, n⟩, fun a o h z n => ⟨.inl (st h z), n⟩⟩
  refine ⟨k, R.len, R.nd, fun i o a e1 e2 => ?_, fun a q => ?_, R.dj, t, fun x q => (R.xe x q).kr k.kr⟩
  · have r := R.ob i o a e1 e2
    obtain ⟨u, eu, n⟩ := r.nt
    exact r.to k ((st eu n.nb).trans eu.symm)
  · obtain ⟨u, eu, n⟩ := R.av a q
    exact ⟨u, st eu n.nb, n⟩
/-- what stands in a def that holds lambdas -/
structure LamAt (T : Tx) (X : Cx) : Prop where
  ex : ∃ (c P : Addr), LamX.TabB X.base X.mg c P ∧ X.env.code = .ref c ∧ (P, X.env.qual ++ "<lambda>") ∈ T.tb ∧ ∀ p ∈ T.tb, p.1 = P → p.2 = X.env.qual ++ "<lambda>"
section
variable {T : Tx} {X : Cx} {W0 : WX} {F : W → List W → Gs → Res} {cs : List Value} {x : Str} {xf : W → Option W} {xt : List (Nat × Nat)} {fE : EF} {k : Nat} {params : Arguments} {body : Expr} {scope : Scope} {p lpos pos : Pos}
theorem fe_why (cx : Ctx T X W0) (Wy : WhyOk T X.prog X.w X.mg X.base x F cs) (hx : ∀ c ws r, xf (.obj c ws) = some r → ∀ G, F (.obj c ws) [.cls 1000] G = .ok r G) (ht : XtOk T cs xt) (z : T.ct 1000 = none) (ne : T.er = none) (la : LamAt T X) (hr : Room (k + 2) X.A)
    (hE : ∀ (A : Around) (outer : List Env) (s : Shared) (H : Hp) (E : XK) (f c' : Addr), Room k (A.deeper (LamX.lamEnv X scope s.heap.objs.size f c')) → Ctx T (LamX.lamCx X A outer s H E scope f c') (fun c d _ H => E c d H) → FE T (LamX.lamCx X A outer s H E scope f c') (fun c d _ H => E c d H) body fE)
    (hg : Gl X x := by rfl) (L : LamX.LamS X.env.scope scope := by exact LamX.lamS_by (by kernel_rfl)) (hdef : defaultsOf params X.env = ([], []) := by rfl)
    (hbind : ∀ (q : Str) (cl : List (Str × Addr)) (pm cv ctv : Value), bindArgs (PySem.W.kla_fn "<lambda>" q params body scope cl pm cv ctv) ⟨[], []⟩ = pure [] := by intros; rfl) (hdb : (x == ("__debug__" : Str)) = false := by decide +kernel) :
    FE T X W0 (.Call (.Name x p) [.Lambda params body scope lpos] [] pos) (eWhy xf xt fE) := by
  obtain ⟨g, fd, a, Ng, st, Fg, hm, hk, hb, Sg, hNg, hva, da, dca, gives⟩ := Wy.ok
  obtain ⟨oc, od, kV, doc, pm, an, cdv, ct, osl, rfl, lk, hcd⟩ := Fg.ex
  obtain ⟨c, P, TB, hcode, hmT, hu⟩ := la.ex
  have hK := cx.hK
  refine ⟨_, LamX.pe_lamcall (T := T.tb) (TT := TTwhy T T.K cs F) (k := k) (t := fun E σ H Q => ∃ m ls G, RG T m G H ∧ RL T m H ls σ ∧ Out T (fun c d _ H => E c d H) m H σ Q (fE ls G)) hg hm (by rw [hK]; exact hk) (by rw [hK]; exact lk) (by rw [hK]; exact hcd) (by rw [hK]; exact hb) Sg hNg hva
    (gives X cdv _ rfl rfl hK rfl rfl ⟨by have := hr.dp; omega, by have := hr.un; omega⟩) TB hcode hmT hu hr L hdef hbind (fun A outer s H E f c' hr2 => ?_) hdb da dca, fun m ls G σ H Q hG hL ho => ⟨hG.tb, fun H1 e1 t1 => ?_⟩⟩
  · obtain ⟨t, ht, it⟩ := hE A outer s H E f c' hr2 ⟨takes_of rfl rfl rfl rfl, passes_of rfl, rfl, cx.nd, hr2.units, hK⟩
    exact ⟨fun pins s σ H Q I h => ht.run pins s σ H Q I (h.elim fun m h => h.elim fun ls h => h.elim fun G h => it m ls G σ H Q h.1 h.2.1 h.2.2)⟩
  · obtain ⟨k1, g1⟩ := keep_ext hG e1 t1
    have l1 := hL.keep k1
    refine ⟨m, ls, G, g1, l1, ?_⟩
    rw [eWhy_e] at ho
    cases e : fE ls G with
    | stuck => rw [e] at ho; exact ho
    | ok w G1 =>
      rw [e] at ho
      intro m2 v H2 k2 g2 r2
      refine ⟨(by decide : 2 ≤ sizeLine), fun p hp => ?_⟩
      have k3 : Keep m2 H2 m2 (upd H2 p (.tup [.str "", v])) := Keep.new g2 hp
      exact ho m2 _ _ ((k1.trans k2).trans k3) (g2.new hp) (.tup (.cons (.str []) (.cons (r2.keep k3) .nil)) (.inl ⟨g2.free hp, upd_same⟩))
    | exc w G1 =>
      rw [e] at ho
      cases w with
      | obj c1 ws =>
        simp only at ho
        split at ho
        · rename_i i el
          split at ho
          · rename_i cw r e1 e2
            split at ho
            · rename_i hok
              intro m2 cls d H2 k2 g2 r2
              obtain ⟨c2, ws2, C, dd, vs, e3, hct, rfl, rfl, fd2, hxd, hl, rs⟩ := r2
              cases e3
              obtain ⟨F1, F2⟩ := ht _ (lookup_mem el)
              obtain ⟨X1, X2⟩ := F1.ok C hct
              obtain ⟨u, eu, ru⟩ := rs.get e1
              refine ⟨F2 C hct, C, dd, _, u, rfl, rfl, X1, X2, hxd, lookup_zip F1.at_ F1.fst eu, C, dd, m2, G1, c1, ws, r, rfl, rfl, hct, z, ne, g2, ⟨vs, fd2, hxd, hl, rs⟩, hx _ _ _ e2 G1, hok, fun m3 v H3 k3 g3 r3 p hp => ?_⟩
              have k4 : Keep m3 H3 m3 (upd H3 p (.tup [u, v])) := Keep.new g3 hp
              exact ho m3 _ _ (((k1.trans k2).trans k3).trans k4) (g3.new hp) (.tup (.cons (ru.keep (k3.trans k4)) (.cons (r3.keep k4) .nil)) (.inl ⟨g3.free hp, upd_same⟩))
            · exact ho.elim
          · exact ho.elim
        · exact ho.elim
      | _ => exact ho.elim
end
end U

/-! the parts put together: the def that tries, a def that holds lambdas, the end -/
namespace U
open PySem PySem.Spec PyProof.Rows
open L2
def lamName (qual : Str) : Str := (qual ++ ".<locals>.") ++ "<lambda>"
section
variable {T : Tx} {P : Program} {w : World} {mg : Str → Option Value} {base : Heap}
theorem whyOk_of {F : W → List W → Gs → Res} {f g : Addr} {fdF fd : FuncData} {st : Stmt} {c1 c2 c3 : Value} {x y p1 a n x1 x2 x3 : Str} {qa qb q0 q1 q2 q3 q4 q5 r0 r1 r2 r3 r4 r5 r6 r7 r8 r9 : Pos} {j1 j2 j3 j4 : Nat}
    (D : Fun T.K x x st g fd) (hm : mg x = some (.ref g)) (hk : PySem.W.keepIn T.K (.ref g) = true) (hb : Binds T.K fd [a] []) (Sg : FnScope [a, n] [a] (defScope st))
    (XC : XCall T P w mg base f fdF p1 F) (hmF : mg y = some (.ref f)) (hkF : PySem.W.keepIn T.K (.ref f) = true) (hbF : Binds T.K fdF [p1] []) (m1 : mg x1 = some c1) (m2 : mg x2 = some c2) (m3 : mg x3 = some c3)
    (hv : Vis (defScope st) a) (gy : (defScope st).names.lookup y = some .globalImplicit) (g1 : (defScope st).names.lookup x1 = some .globalImplicit) (g2 : (defScope st).names.lookup x2 = some .globalImplicit) (g3 : (defScope st).names.lookup x3 = some .globalImplicit) (ln : (defScope st).names.lookup n = some .local)
    (da : (a == ("__debug__" : Str)) = false) (dca : (a == ("__classdict__" : Str)) = false) (dy : (y == ("__debug__" : Str)) = false) (d1 : (x1 == ("__debug__" : Str)) = false) (d2 : (x2 == ("__debug__" : Str)) = false) (d3 : (x3 == ("__debug__" : Str)) = false)
    (dn : (n == ("__debug__" : Str)) = false) (dcn : (n == ("__classdict__" : Str)) = false)
    (hbd : defBody st = [.Try [.Return (some (.Tuple [.Constant (.str "") j1 q1, .Call (.Name a q2) [] [] q3] j2 q4)) q5]
      [.ExceptHandler (some (.Tuple [.Name x1 r1, .Name x2 r2, .Name x3 r3] j3 r4)) (some n) [.Return (some (.Tuple [.Attribute (.Name n r5) "code" r6, .Call (.Name y r7) [.Name n r8] [] r9] j4 q0)) r0] qa] [] [] qb]) :
    WhyOk T P w mg base x F [c1, c2, c3] := by
  refine ⟨g, fd, a, [a, n], st, D, hm, hk, hb, Sg, rfl, hv, da, dca, fun X cdv q e1 e2 e3 e4 e5 hr => ?_⟩
  obtain ⟨prog, w', K, mg', base', A, N, s0, H0, env, outer, stack, ex, fn, calm, pn, xe⟩ := X
  obtain rfl : prog = P := e1
  obtain rfl : w' = w := e2
  obtain rfl : K = T.K := e3
  obtain rfl : mg' = mg := e4
  obtain rfl : base' = base := e5
  rw [hbd]
  exact why_gives (T := T) rfl XC hmF hkF hbF hr Sg gy g1 g2 g3 ln m1 m2 m3 dy d1 d2 d3 dn dcn
/-- a def whose code object is known -/
structure FunL (K : PySem.W.Frag) (x qual : Str) (st : Stmt) (f : Addr) (fd : FuncData) (c : Addr) : Prop where
  ex : ∃ (oc : Value) (od an : Option Addr) (kV doc pm ct : Value) (osl : Array (Option Value)), fd = PySem.W.fnOf x qual (defArgs st) (defBody st) (defScope st) .none kV doc pm an (.ref c) ct ∧ K.lookup f = some ⟨oc, od, .func fd, osl⟩ ∧ PySem.W.codeIn K (.ref c) qual = true
theorem fn_defL {x qual : Str} {st : Stmt} {f c0 P0 : Addr} {fd : FuncData} {N ps : List Str} {k n : Nat} {g : SF} (F : FunL T.K x qual st f fd c0) (S : FnScope N ps (defScope st)) (hn : ps.length = n) (TB : LamX.TabB base mg c0 P0) (hT : T.tb = [(P0, lamName qual)])
    (hbody : ∀ (A : Around) (outer : List Env) (s : Shared) (H : Hp) (E : XK), Room k (A.deeper (PyProof.Rows.envOfC qual (defScope st) s.heap.objs.size f (.ref c0))) → Ctx T (cxOf (L2.CX P w) P w T.K mg base N qual (defScope st) f (.ref c0) A outer s H E) (fun c d _ H => E c d H) →
      LamAt T (cxOf (L2.CX P w) P w T.K mg base N qual (defScope st) f (.ref c0) A outer s H E) →
      FSs T (cxOf (L2.CX P w) P w T.K mg base N qual (defScope st) f (.ref c0) A outer s H E) (fun c d _ H => E c d H) (defBody st) g) : FnOk P w T.K mg base (L2.CX P w) (k + 1) f fd ps (spF T n (mkFn n N.length g)) := by
  obtain ⟨oc, od, an, kV, doc, pm, ct, osl, rfl, lk, hcd⟩ := F.ex
  refine fn_of lk hcd S (fun vs H Q E h => ?_) (fun A outer s H vs Q E hr h => ?_)
  · obtain ⟨m, G, ws, _, r, hl, _⟩ := h
    rw [← r.length, hl, hn]
  · obtain ⟨m, G, ws, hG, r, hl, ho⟩ := h
    have la : LamAt T (cxOf (L2.CX P w) P w T.K mg base N qual (defScope st) f (.ref c0) A outer s H E) := ⟨c0, P0, TB, rfl, by rw [hT]; exact List.mem_singleton.mpr rfl, fun p hp _ => by rw [hT] at hp; rw [List.mem_singleton.mp hp]; rfl⟩
    obtain ⟨t, ht, it⟩ := hbody A outer s H E hr ⟨takes_of rfl rfl rfl rfl, passes_of rfl, rfl, S.nd, hr.units, rfl⟩ la
    refine ⟨t, ht, it m (ws.map some ++ List.replicate (N.length - n) none) G (L2.start N vs) H _ hG (by rw [← hl]; exact rl_start r) ?_⟩
    simp only [mkFn, if_pos hl] at ho
    cases e : g (ws.map some ++ List.replicate (N.length - n) none) G with
    | nx ls G' => rw [e] at ho; exact fun m' σ' H' k' g' l' => ho m' _ H' k' g' .non
    | rt w G' => rw [e] at ho; exact ho
    | exc w ls G' => rw [e] at ho; exact fun m' σ' c d H' k' g' l' r' => ho m' c d H' k' g' r'
    | bk _ _ => rw [e] at ho; exact False.elim ho
    | ct _ _ => rw [e] at ho; exact False.elim ho
    | stuck => rw [e] at ho; exact False.elim ho
theorem LamAt.blk {X : Cx} (l : LamAt T X) (p : BP) (scope : Scope) : LamAt T (p.cx X scope) := l.ex.elim fun c l => l.elim fun P l => ⟨c, P, l.1, l.2.1, l.2.2.1, l.2.2.2⟩
theorem xf_nil {T : Tx} {f : Str} : ∀ p ∈ ([] : List (Nat × Nat)), XfOk T f p.1 p.2 := fun _ h => nomatch h
theorem xfOk_of {T : Tx} {f : Str} {c i : Nat} {l : List Str} (hl : T.lay c = l) (h : (l[i]? == some f && (l.take i).all (· != f)) = true) (ok : ∀ C, T.ct c = some C → XfC T.K C ∧ PySem.W.findIn T.K (.ref C) f = some none) : XfOk T f c i := by
  rw [Bool.and_eq_true] at h
  subst hl
  refine ⟨beq_iff_eq.mp h.1, fun j hj e => ?_, ok⟩
  have hm : f ∈ (T.lay c).take i := List.mem_of_getElem? (i := j) (by rw [List.getElem?_take_of_lt hj]; exact e)
  have := List.all_eq_true.mp h.2 f hm
  simp at this
end
end U

/-! C.m(e, ..), m a static method of the class C of the module -/
namespace U
open PySem PySem.Spec PyProof.Rows
open L2
structure StatOk (T : Tx) (P : Program) (w : World) (mg : Str → Option Value) (base : Heap) (k : Nat) (x m : Str) (n2 : Nat) (F : Fn) (dws : List W) (np : Nat) (pm : List Nat) : Prop where
  ok : ∃ (C p f : Addr) (rest : List Value) (mc : Value) (fd : FuncData) (ps : List Str) (dvs : List V) (ds : List Value), mg x = some (.ref C) ∧ PySem.W.readsIn T.K C mc = true ∧ PySem.W.specialIn T.K (.ref C) "__getattribute__" = some (some (.builtin "type.__getattribute__")) ∧
    PySem.W.findCls T.K (.ref C) mc m = some (.get (.builtin "staticmethod.__get__") (.ref p) .none (.ref C)) ∧ PySem.W.recIn T.K p "staticmethod" = some (.ref f :: rest) ∧ PySem.W.keepIn T.K (.ref f) = true ∧
    FnOk P w T.K mg base (L2.CX P w) k f fd ps (spF T n2 F) ∧ KB T.K fd ps np [] ds pm ∧ Dfl T dws dvs ds
section
variable {T : Tx} {X : Cx} {W0 : WX} {x m : Str} {k n2 np : Nat} {F : Fn} {dws : List W} {pm : List Nat} {e : Expr} {es : List Expr} {fa : EF} {p pos apos : Pos}
theorem fe_stat {pl : Sem Bool} (c : Ctx T X W0) (M : StatOk T X.prog X.w X.mg X.base k x m n2 F dws np pm) (hr : Room k X.A) (ha : FA T X W0 (e :: es) fa) (hl : ∀ ls G ws G1, fa ls G = .ok (.tup ws) G1 → ws.length = np)
    (hp : ∀ ws : List W, ws.length = np + dws.length → (perm pm ws).length = n2) (hg : Gl X x := by rfl) (hdb : (x == ("__debug__" : Str)) = false := by decide +kernel) (hb : attributeBase (.Name x p) m X.env (eval (.Name x p) X.env) = eval (.Name x p) X.env := by rfl)
    (he : starEach (e :: es) X.env = (false, eval e X.env) :: starEach es X.env := by rfl) (hpl : (backTo pos (starEach es X.env)).any (·.1) = false := by rfl)
    (ht : eval (.Call (.Attribute (.Name x p) m apos) (e :: es) [] pos) X.env = (do
      let ov ← eval (.Name x p) X.env
      standAt apos.atName
      let (f, first) ← holding [ov] (getMethod ov m pl)
      callWith pos f first (backTo pos (starEach (e :: es) X.env)) (backToKw pos (keywordEach [] X.env))) := by rfl) :
    FE T X W0 (.Call (.Attribute (.Name x p) m apos) (e :: es) [] pos) (eFn (permF pm F) dws fa) := by
  obtain ⟨C, q, f, rest, mc, fd, ps, dvs, ds, hm, rd, ga, at_, rc, kp, FO, kb, hd⟩ := M.ok
  obtain ⟨t, ha, ia⟩ := ha
  have hK := c.hK
  refine ⟨fun σ H Q => t σ H fun vs H1 => vs.length = np ∧ spF T n2 F (perm pm (vs ++ dvs)) H1 Q (WE W0 σ), ⟨fun pins s σ H Q I h => ?_⟩, fun mm ls G σ H Q hG hL ho => ?_⟩
  · refine PySem.W.methodCall_KW (pl := pl) (ld_glob I hg hm (PySem.W.method_cls I.kIn (by rw [hK]; exact ga) (PySem.W.cls_bind I.kIn (by rw [hK]; exact rd) (by rw [hK]; exact at_) (wpAny_call (PySem.W.sm_get (s := { s with toks := s.toks + 1 }) I.kIn (by rw [hK]; exact rc) (PySem.W.handed_on rfl ?_))))) hdb) ht
    have I1 := I.tok (s.toks + 1)
    refine PySem.W.callWith_K (first := []) (h₀ := X.base) I.ok.mod.kin (by rw [hK]; exact kp) (thn (ha.run pos pins _ σ H _ I1 h) fun us s2 q => ?_) he hpl
    obtain ⟨vs, H2, I2, r, hn, q2⟩ := q
    refine ⟨I2.kIn, ?_⟩
    exact run_fnK (ws := []) (zs := []) c (by rw [hK]; exact FO) hr (by rw [hK]; exact kb) hd.1 I2 r .nil (by rw [← r.length]; exact hn) rfl (by rw [List.append_nil]; exact q2)
  · refine ia mm ls G σ H _ hG hL ?_
    simp only [eFn] at ho
    cases e1 : fa ls G with
    | stuck => rw [e1] at ho; exact ho
    | exc w G1 => rw [e1] at ho; exact ho
    | ok w G1 =>
      rw [e1] at ho
      cases w with
      | tup ws =>
        have l1 := hl ls G ws G1 e1
        refine ⟨ws, rfl, fun m1 vs H1 k1 g1 r1 => ⟨by rw [← r1.length, l1], m1, G1, perm pm (ws ++ dws), g1, perm_rws (r1.append (hd.2 m1 H1)), hp _ (by rw [List.length_append, l1]), Out.wx (Out.keep k1 ho) fun _ _ _ h => h⟩⟩
      | _ => exact False.elim ho
end
end U

namespace U
open PySem
open L2
/-! ### is a value a key of a dict of the module: texts and None -/
def eKInA (tbl : List (List Nat × Int)) (fi : EF) : EF := fun ls G => (fi ls G).bind fun w G1 => match w with
  | .str s => .ok (.bl (kLook tbl s).isSome) G1
  | .non => .ok (.bl false) G1
  | _ => .stuck
@[simp] theorem eKInA_e (tbl : List (List Nat × Int)) (fi : EF) (ls : Ls) (G : Gs) : eKInA tbl fi ls G = (fi ls G).bind fun w G1 => match w with
  | .str s => .ok (.bl (kLook tbl s).isSome) G1
  | .non => .ok (.bl false) G1
  | _ => .stuck := rfl
def KRow : List Value → List (List Nat × Int) → Prop
  | [], [] => True
  | v :: vs, q :: qs => (∃ x t, v = .str x t ∧ x = ⟨q.1.toArray⟩) ∧ KRow vs qs
  | _, _ => False
theorem krow_has : ∀ {vs : List Value} {tbl : List (List Nat × Int)}, KRow vs tbl → ∀ s : List Nat, vs.any (Value.isStrOf ⟨s.toArray⟩) = (kLook tbl s).isSome
  | [], [], _, _ => rfl
  | v :: vs, q :: qs, h, s => by
    obtain ⟨⟨x, t, e1, e2⟩, r⟩ := h
    subst e1
    subst e2
    have ih := krow_has r s
    show (Value.isStrOf ⟨s.toArray⟩ (.str ⟨q.1.toArray⟩ t) || vs.any _) = _
    rw [ih, show kLook (q :: qs) s = if q.1 = s then some q.2 else kLook qs s from rfl]
    by_cases hq : q.1 = s
    · subst hq
      rw [if_pos rfl]
      simp [Value.isStrOf]
    · rw [if_neg hq]
      have : Value.isStrOf ⟨s.toArray⟩ (.str ⟨q.1.toArray⟩ t) = false := by
        simp only [Value.isStrOf]
        refine decide_eq_false fun e => hq ?_
        have := congrArg Str.cps e
        simpa using this
      rw [this, Bool.false_or]
  | [], _ :: _, h, _ => h.elim
  | _ :: _, [], h, _ => h.elim
structure KAll (K : PySem.W.Frag) (w : World) (E : Addr) (tbl : List (List Nat × Int)) : Prop where
  all : ∃ (es : Array DictEntry) (n : Nat), K.lookup E = some ⟨.type "dict", none, .dict es n, #[]⟩ ∧ PySem.W.KeysLit w.params es.toList ∧ KRow (es.toList.map (·.key)) tbl
theorem find_any {es : Array DictEntry} (s : Str) : (findBy Value.isStrOf es s).isSome = (es.toList.map (·.key)).any (Value.isStrOf s) := by
  obtain ⟨l⟩ := es
  unfold findBy
  rw [List.find?_toArray, Option.isSome_map]
  induction l with
  | nil => rfl
  | cons a b ih =>
    show (List.find? _ (a :: b)).isSome = (Value.isStrOf s a.key || (b.map (·.key)).any _)
    rw [List.find?_cons]
    cases h : Value.isStrOf s a.key with
    | true => rfl
    | false => simpa using ih
theorem leafMap {prog : Program} {w : World} {h : Heap} {K : PySem.W.Frag} {a : Addr} {es : Array DictEntry} {n : Nat} (X : K.In h) (hl : K.lookup a = some ⟨.type "dict", none, .dict es n, #[]⟩) (hk : PySem.W.KeysLit w.params es.toList) : h.MapOf (leafKind prog w) a (fun k => findBy Leaf.isOf es k) :=
  ⟨_, es, n, X _ _ hl, ⟨rfl, rfl, rfl⟩, rfl, fun e he => by
    obtain ⟨x, t, e1, e2⟩ := hk.all e (Array.mem_toList_iff.mpr he)
    exact ⟨.text x, by rw [e1]; exact strKind_is prog w x t, e2⟩, fun _ => rfl⟩
def rKInA (K : PySem.W.Frag) (w : World) : R2 := fun x y H Q => ∃ p tbl, y = .ref p ∧ (p == sysModules) = false ∧ KAll K w p tbl ∧ ((∃ s : List Nat, x = .str ⟨s.toArray⟩ ∧ Q (.bl (kLook tbl s).isSome) H) ∨ (x = .non ∧ Q (.bl false) H))
theorem op_kinA {X : Cx} : OpR X (compareOp .In) (rKInA X.K X.w) := by
  intro pins s σ H x y v u Q I rx ry h
  obtain ⟨p, tbl, rfl, hsys, ⟨es, n, hl, hk, hr⟩, q⟩ := h
  obtain rfl : u = Value.ref p := ry
  have hm := leafMap (prog := X.prog) (w := X.w) I.kIn hl hk
  rcases q with ⟨z, rfl, q⟩ | ⟨rfl, q⟩
  · obtain ⟨t, rfl⟩ := rx
    refine wpAny_in_of (k := Leaf.text ⟨z.toArray⟩) (strKind_is X.prog X.w ⟨z.toArray⟩ t) hsys hm ?_
    rw [show findBy Leaf.isOf es (Leaf.text ⟨z.toArray⟩) = findBy Value.isStrOf es ⟨z.toArray⟩ from rfl, find_any, krow_has hr]
    exact ⟨.bl _, H, I.tok _, rfl, q⟩
  · obtain rfl : v = Value.none := rx
    refine wpAny_in_of (k := Leaf.none) rfl hsys hm ?_
    have : findBy Leaf.isOf es Leaf.none = none := by
      obtain ⟨l⟩ := es
      unfold findBy
      rw [List.find?_toArray]
      have : l.find? (fun e => Leaf.isOf Leaf.none e.key) = none := by
        rw [List.find?_eq_none]
        intro e he
        obtain ⟨x, t, e1, _⟩ := hk.all e he
        rw [e1]
        exact Bool.false_ne_true
      rw [this]
      rfl
    rw [this]
    exact ⟨.bl false, H, I.tok _, rfl, q⟩
section
variable {T : Tx} {X : Cx} {W0 : WX} {b : Expr} {fb : EF} {p pos : Pos} {x : Str} {E : Addr}
theorem fe_kinA (c : Ctx T X W0) {tbl : List (List Nat × Int)} (hE : X.mg x = some (.ref E)) (hsys : (E == sysModules) = false) (ht : KAll T.K X.w E tbl) (hb : FE T X W0 b fb) (hg : Gl X x := by rfl) (hdb : (x == ("__debug__" : Str)) = false := by decide +kernel) (hm : behindInMarks .In (.Name x p) = false := by rfl) :
    FE T X W0 (.Compare b [.In] [.Name x p] pos) (eKInA tbl fb) := by
  obtain ⟨t, hb, i⟩ := hb
  refine ⟨_, pe_cmpR op_kinA hb (pe_glob (v := .ref E) hg hE rfl hdb) hm, fun m ls G σ H Q hG hL ho => ?_⟩
  refine i.go hG hL ho fun w G1 m1 v H1 k1 g1 r1 l1 o1 => ?_
  split at o1
  · cases r1
    rename_i s
    exact ⟨E, tbl, rfl, hsys, by rw [c.hK]; exact ht, .inl ⟨s, rfl, o1.now g1 (.bl _)⟩⟩
  · cases r1
    exact ⟨E, tbl, rfl, hsys, by rw [c.hK]; exact ht, .inr ⟨rfl, o1.now g1 (.bl _)⟩⟩
  · exact False.elim o1
end
/-! ### a row said again and again -/
def repW : OF
  | .tup xs, .int k, G => if xs ≠ [] ∧ 2 ≤ k ∧ k ≤ 1000 ∧ xs.length ≤ 1000 then .ok (.tup (List.replicate k.toNat xs).flatten) G else .stuck
  | _, _, _ => .stuck
@[simp] theorem repW_e1 : repW (.tup xs) (.int k) G = if xs ≠ [] ∧ 2 ≤ k ∧ k ≤ 1000 ∧ xs.length ≤ 1000 then .ok (.tup (List.replicate k.toNat xs).flatten) G else .stuck := rfl
theorem io_repW {T : Tx} {W0 : WX} : ImpO T W0 (rRepT T.K) repW := by
  intro m G σ H Q a b x y hG ra rb ho
  cases ra with
  | tup ra ea => cases rb with
    | int k =>
      simp only [repW] at ho
      split at ho
      · rename_i h
        obtain ⟨h1, h2, h3, h4⟩ := h
        refine ⟨_, k, _, rfl, rfl, ea.sq, fun e => h1 (by subst e; cases ra; rfl), h2, h3, by rw [← ra.length]; exact h4, fun p hp => ho.newT hG (ra.rep _) hp⟩
      · exact False.elim ho
    | _ => exact False.elim ho
  | _ => exact False.elim ho
end U

/-! exceptions that leave a list comprehension -/
namespace U
open PySem
open L2
open HandSPX (HeldZ FlyingZ TracedZ NotedZ)
def PostX (M : Model) (A : Around) (E : Value → Shared → Prop) (use : Option (Value → Sem Unit)) (Q : Value → Shared → Prop) (acc : Value) (ce : Env) : Result → Shared → Prop
  | .ok f, s' => compPost M A E use Q acc ce.locals (.ok f) s'
  | .error x, s' => ∃ m, s'.heap.Ns ce.locals m ∧ ∀ h', Heap.SameBut ce.locals s'.heap h' → wpAny M A (passOn "comprehension.variables-let-go" x ce : Sem Value) (fun _ _ => False) E { s' with heap := h' }
section
variable {M : Model} {A : Around} {E : Value → Shared → Prop} {s : Shared} {env : Env}
theorem mono_q {α : Type} {t : Sem α} {Q Q' : α → Shared → Prop} (h : wpAny M A t Q E s) (k : ∀ a s', Q a s' → Q' a s') : wpAny M A t Q' E s := wpAny_mono h k fun _ _ z => z
/-- as CompFree's rule, the block's own environment told to what is raised -/
theorem comp_freeX {e : Expr} {sc : Scope} {p : Pos} {mk fst' : Sem Value} {c : Comprehension} {cs : List Comprehension} {cls : List (Str × Addr)} {u : Option (Value → Sem Unit)} {Q : Value → Shared → Prop}
    (k1 : clausesOf e = c :: cs) (k2 : ∀ x, foldedSetIterable c.iter env x = pure x) (k3 : closureFor sc env = pure cls) (k4 : sc.kind = .function) (k5 : ∀ y ∈ sc.names, y.2 = .local → sc.names.lookup y.1 = some .local)
    (h : wpAny M A fst' (fun x s1 => wpAny M A (pyIter x) (fun it s2 => wpAny M A mk (fun acc s3 =>
      wpAny M A (newFunctionEnv sc env.globals cls [] env.qual none .none (some env)) (fun ce s4 =>
        codeAny M A (.compStart e 0 it acc { ce with scope := relabel sc env }) (PostX M A E u Q acc { ce with scope := relabel sc env }) s4) E s3) E s2) E s1) E s) :
    wpAny M A (comprehension e sc env p mk false fst' u) Q E s := by
  unfold comprehension
  rw [k3, k1]
  refine wpAny_bind (mono_q h fun x s1 q1 => ?_)
  refine wpAny_bind (wpAny_standAt ?_)
  refine wpAny_bind (wpAny_of_eq (k2 x) ?_)
  refine wpAny_bind (wpAny_holding (mono_q q1 fun it s2 q2 => ?_))
  refine wpAny_standIf ?_
  refine wpAny_bind (mono_q q2 fun acc s3 q3 => ?_)
  refine wpAny_bind (wpAny_pure ?_)
  refine wpAny_bind (mono_q q3 fun ce s4 q4 => ?_)
  dsimp only
  have vars : ∀ y ∈ (sc.names.filter fun x => (x.2 == .local || x.2 == .cell) && x.1 != (".0" : Str)).reverse, y.2 = .local → Env.kindOf { ce with scope := relabel sc env } y.1 = some .local :=
    fun y hy hl => lookup_relabel_local (k5 y (List.mem_filter.mp (List.mem_reverse.mp hy)).1 hl)
  refine wpAny_holding (wpAny_bind (wpAny_attempt ?_))
  refine wpAny_holding (wpAny_run (codeAny_mono q4 fun r s' hr => ?_))
  match r, u, hr with
  | .ok f, none, hr =>
    obtain ⟨m, hn, hr⟩ := hr
    refine wpAny_bind (wpAny_holding ?_)
    exact wpAny_comp_letGo (cenv := { ce with scope := relabel sc env }) k4 _ s' m vars hn fun h' m' _ sb => wpAny_pure (hr h' sb)
  | .ok f, some u, hr =>
    refine wpAny_bind (wpAny_rule (wpAny_bind (wpAny_holding (mono_q hr fun _ s'' hr' => ?_))))
    obtain ⟨m, hn, hr'⟩ := hr'
    refine wpAny_bind ?_
    refine wpAny_comp_letGo (cenv := { ce with scope := relabel sc env }) k4 _ s'' m (fun y hy hl => ?_) hn fun h' m' _ sb => wpAny_pure (hr' h' sb)
    exact vars y ((List.mem_append.mp hy).elim List.mem_of_mem_drop List.mem_of_mem_take) hl
  | .error x, u, hr =>
    obtain ⟨m, hn, hr⟩ := hr
    refine wpAny_bind (wpAny_holding ?_)
    refine wpAny_comp_letGo (cenv := { ce with scope := relabel sc env }) k4 _ s' m vars hn fun h' m' _ sb => ?_
    exact wpAny_mono (hr h' sb) (fun _ _ f => f.elim) fun _ _ y => y
end
/-! ### noted by the block's environment -/
theorem note_same {ce env : Env} (h : ce.frame = env.frame) (x : Value) : noteFrame x ce = noteFrame x env := by
  unfold noteFrame frameOf
  rw [h]
section
variable {M : Model} {A : Around} {E : Value → Shared → Prop} {s : Shared} {env : Env} {outer : List Env} {B : Heap} {a L C : Addr} {Z : Obj → Prop}
/-- noted at another place: this frame notes it anew -/
theorem note_other {Q : Unit → Shared → Prop} (zs : HandSPX.Steady Z) (fr : A.frames = some (env :: outer)) (fl : env.frame = some L) (ne : C ≠ L) (hh : HeldZ B (env :: outer) a Z C s.heap)
    (q : ∀ h', HeldZ B (env :: outer) a Z L h' → s.heap.UpToSlots h' → Q () { s with heap := h' }) : wpAny M A (noteFrame (.ref a) env) Q E s := by
  obtain ⟨st, na, ff, ob, ws, R, oR, rs, ea, zo, da, w1, nR, nRa, eR, dR, r3⟩ := hh
  unfold noteFrame
  simp only [fl]
  refine wpAny_bind (wpAny_field ea da w1 ?_)
  rw [if_pos (by simp)]
  refine wpAny_bind (wpAny_field eR dR r3 ?_)
  rw [if_neg (by simp only [rawInt, beq_iff_eq, Value.int.injEq]; intro z; exact ne (by have := z.1; exact Int.ofNat.inj this))]
  have s3 : 3 < rs.size := (Array.getElem?_eq_some_iff.mp r3).1
  refine wpAny_bind (wpAny_setField eR dR s3 ?_)
  have oth : ∀ b, b ≠ R → (s.heap.update R (Obj.mapFields (·.setIfInBounds 3 Value.none))).get? b = s.heap.get? b := fun b hb => Heap.get?_update_other _ _ fun z => hb z.symm
  have nrec : ∀ b o, s.heap.get? b = some o → (∀ vs, o.data ≠ .fields vs) → b ≠ R := fun b o e k z => by
    subst z
    rw [eR] at e
    cases e
    exact k rs dR
  have ff' := ff.of_keeps (h' := s.heap.update R (Obj.mapFields (·.setIfInBounds 3 Value.none))) fun b o e k => ⟨o, by rw [oth b (nrec b o e k)]; exact e, rfl⟩
  have st' : B.StaysIn (s.heap.update R (Obj.mapFields (·.setIfInBounds 3 Value.none))) := fun b o e => by
    rw [oth b fun z => by rw [z, nR] at e; cases e]
    exact st b o e
  refine HandSPX.wpAny_entryZ (env := env) (outer := outer) (base := B) zs fr ff' fl (by rw [oth a fun z => nRa z.symm]; exact ea) st' na da (Array.getElem?_eq_some_iff.mp w1).1 zo fun h' hN => ?_
  obtain ⟨y1, y2, y3, y4⟩ := hN
  refine q h' ⟨y1, na, y2, y3⟩ fun b o e k => ?_
  exact y4 b o (by rw [oth b (nrec b o e k)]; exact e) k
theorem note_blk {ce : Env} {cls : Value} {d : Option Addr} {Q : Unit → Shared → Prop} (fr : A.frames = some (env :: outer)) (fl : env.frame = some L) (hce : ce.frame = env.frame) (ne : C ≠ L) (x : Sky B (env :: outer) a (Zc cls d) C s.heap)
    (q : ∀ h', HeldZ B (env :: outer) a (Zc cls d) L h' → s.heap.UpToSlots h' → Q () { s with heap := h' }) : wpAny M A (noteFrame (.ref a) ce) Q E s := by
  rw [note_same hce]
  rcases x with ⟨k1, k2, k3, oe, vs, k4, k5, k6, k7⟩ | fly | held
  · exact HandSPX.look_newZ Zc.steady fr k3 fl k4 k1 k2 k6 k7 k5 q
  · exact HandSPX.looks_onZ Zc.steady fr fl fly q
  · exact note_other Zc.steady fr fl ne held q
end
/-- the block's names gone: not of the ground any more -/
theorem held_hide {B h h' : Heap} {l : List Env} {a L C : Addr} {Z : Obj → Prop} (hh : HeldZ B l a Z L h) (sb : Heap.SameBut C h h') (hC : ∃ o, h.get? C = some o ∧ ∀ vs, o.data ≠ .fields vs) (nl : C ∉ frs l) : HeldZ (PySem.W.hideAll B [C]) l a Z L h' := by
  obtain ⟨st, na, ff, ob, ws, R, oR, rs, ea, zo, da, w1, nR, nRa, eR, dR, r3⟩ := hh
  obtain ⟨oC, eC, dC⟩ := hC
  have aC : a ≠ C := fun z => by subst z; rw [eC] at ea; cases ea; exact dC _ da
  have rC : R ≠ C := fun z => by subst z; rw [eC] at eR; cases eR; exact dC _ dR
  have hid : ∀ b, B.get? b = none → (PySem.W.hideAll B [C]).get? b = none := fun b e => by
    cases q : (PySem.W.hideAll B [C]).get? b with
    | none => rfl
    | some o => have := PySem.W.of_hideAll _ q; rw [e] at this; cases this
  refine ⟨fun b o e => ?_, hid a na, ?_, ob, ws, R, oR, rs, by rw [sb.2 a aC]; exact ea, zo, da, w1, hid R nR, nRa, by rw [sb.2 R rC]; exact eR, dR, r3⟩
  · have e' := PySem.W.of_hideAll _ e
    by_cases hb : b = C
    · subst hb
      rw [PySem.W.hideAll_none [b] (List.mem_singleton.mpr rfl)] at e
      cases e
    · rw [sb.2 b hb]
      exact st b o e'
  · have f1 := funFrames_none (B := PySem.W.hideAll B [C]) ff fun b hb => hid b (ff.mem hb).1
    have go : ∀ {l : List Env}, h.FunFrames (PySem.W.hideAll B [C]) l → C ∉ frs l → h'.FunFrames (PySem.W.hideAll B [C]) l := by
      intro l
      induction l with
      | nil => intro _ _; trivial
      | cons e r ih =>
        intro f n
        obtain ⟨g1, ⟨K, o, g2, g3, g4, g5⟩, g6⟩ := f
        have n1 : K ≠ C := fun z => n (List.mem_filterMap.mpr ⟨e, List.mem_cons_self, by rw [g2, z]⟩)
        refine ⟨g1, ⟨K, o, g2, g3, by rw [sb.2 K n1]; exact g4, g5⟩, ih g6 fun hm => n ?_⟩
        obtain ⟨e', m1, m2⟩ := List.mem_filterMap.mp hm
        exact List.mem_filterMap.mpr ⟨e', List.mem_cons_of_mem _ m1, m2⟩
    exact go f1 nl
/-! ### the block -/
abbrev blkX (X : Cx) (s : Shared) (H : Hp) (scope : Scope) (cl : List (Str × Addr)) (C : Addr) (fp : List Addr) (xe : Value → Shared → Prop) : Cx := Cx.tr (X.blk s H scope (compEnvC scope cl C X.env) fp) [] xe
section
variable {X : Cx}
/-- what is raised in the block leaves the def's line, as the def takes it -/
theorem takes_blk {pins : List (Addr × Obj)} {σ : St} {H3 : Hp} {s3 : Shared} {scope : Scope} {cl : List (Str × Addr)} {fp : List Addr} {xe : Value → Shared → Prop} {W0 : WX} {use : Option (Value → Sem Unit)} {Qf : Value → Shared → Prop} {acc : Value}
    (tk : Takes X W0) (hst : X.stack = X.env :: X.outer) (hfl : X.env.frame = some X.env.locals) (I3 : Inv X pins σ H3 s3) (f3 : ∀ b ∈ fp, FpOk X pins H3 b)
    (hx : xe = notedBy (model X.prog X.w) X.A (compEnvC scope cl s3.heap.objs.size X.env) fun e s' => PostX (model X.prog X.w) X.A X.xe use Qf acc (compEnvC scope cl s3.heap.objs.size X.env) (.error e) s') :
    Takes (blkX X s3 H3 scope cl s3.heap.objs.size fp xe) (fun c d _ H => W0 c d σ H) := by
  rintro u s' ⟨a, B, sI, pn, σ8, H, cls, d, rfl, I, nb, up, sky, na, os, ag, w⟩
  show xe (.ref a) s'
  rw [hx]
  have sky : Sky B X.stack a (Zc cls d) s3.heap.objs.size s'.heap := sky
  -- the def's state without the exception
  have I7 : Inv X pins σ H sI := I3.call' (ch := fp) I.os I.base I.hok I.bare fun b hb => ⟨(f3 b hb).2.2.2.1, (f3 b hb).2.1, (f3 b hb).2.2.2.2.1, (f3 b hb).2.2.2.2.2⟩
  have nC : H s3.heap.objs.size = none := I.free
  have fC : FpOk X pins H s3.heap.objs.size := I3.fpOk (Nat.le_refl _) nC
  obtain ⟨m, hn, _⟩ := I.loc
  have hn : sI.heap.Ns s3.heap.objs.size m := hn
  generalize hC : s3.heap.objs.size = C at *
  obtain ⟨f0, f1, f2, fe, f4, f5⟩ := fC
  have nst : C ∉ frs X.stack := fun z => by
    rcases List.mem_cons.mp (I7.stkSub C z) with z | z
    · exact f1 z
    · exact f2 z
  obtain ⟨oC, es, ep, eC, dC, hr⟩ := hn
  have bC : B.get? C = some oC := nb C oC eC nst
  have hfr : X.A.frames = some (X.env :: X.outer) := by rw [I7.ok.frames, hst]
  rw [hst] at sky
  show wpAny (model X.prog X.w) X.A (noteFrame (.ref a) (compEnvC scope cl C X.env)) _ _ s'
  refine note_blk hfr hfl rfl f1 sky fun h1 held up1 => ?_
  have e1 : h1.get? C = some oC := held.1 C oC bC
  refine ⟨m, ⟨oC, es, ep, e1, dC, hr⟩, fun h2 sb => ?_⟩
  have nfC : ∀ vs, oC.data ≠ .fields vs := fun vs z => by rw [dC] at z; cases z
  have held2 := held_hide held sb ⟨oC, e1, nfC⟩ (by rw [← hst]; exact nst)
  -- let go, passed on
  unfold passOn
  obtain ⟨q1, q2, q3, ob, ws, R, oR, rs, ea, zo, da, w1, q4⟩ := id held2
  refine wpAny_bind (wpAny_field ea da w1 ?_)
  rw [if_neg (by simp)]
  refine wpAny_bind ?_
  rw [show (compEnvC scope cl C X.env).frame = some X.env.locals from hfl]
  refine HandSPX.setFlight_onZ held2 fun h3 held3 up3 => ?_
  refine wpAny_throw ?_
  -- the def's wish
  have I8 : Inv X pins σ H { sI with heap := PySem.W.hideAll sI.heap [C], toks := sI.toks } := I7.turned (it := C) (fun b o hb e => PySem.W.hideAll_get _ e fun z => hb (List.mem_singleton.mp z)) f0 f1 fe f4 f5
  refine tk _ _ ⟨a, PySem.W.hideAll B [C], _, pins, σ, H, cls, d, rfl, I8, fun b o e hb => ?_, fun b o e k => ?_, .inr (.inr ?_), na, os, ag, w⟩
  · have hb' : b ∉ [C] := fun z => by rw [PySem.W.hideAll_none [C] z] at e; cases e
    exact PySem.W.hideAll_get _ (nb b o (PySem.W.of_hideAll _ e) hb) hb'
  · have hb' : b ≠ C := fun z => by rw [PySem.W.hideAll_none [C] (List.mem_singleton.mpr z)] at e; cases e
    obtain ⟨sl1, g1⟩ := up b o (PySem.W.of_hideAll _ e) k
    obtain ⟨sl2, g2⟩ := up1 b _ g1 k
    obtain ⟨sl3, g3⟩ := up3 b { o with slots := sl2 } ((sb.2 b hb').trans g2) k
    exact ⟨sl3, g3⟩
  · rw [hst]; exact held3
abbrev lw (W0 : WX) (σ : St) : WX := fun c d _ H => W0 c d σ H
def tLcX (W0 : WX) (wi : TI) (g : TG) (te : WX → TE) (vs : List Nat) : TE := fun σ H Q => wi σ H fun J H1 => ∀ D, H1 D = none → ∃ W : Nat → Nat → Hp → Prop, (∃ m, W 0 m (upd H1 D (.lst []))) ∧ ∀ i m H, W i m H →
  (J.stop i H ∧ Q (.ref D) H) ∨ (J.go i H ∧ ∃ Nx : Hp → Prop, (∀ H', Nx H' → ∃ m', m' < m ∧ W (i + 1) m' H') ∧ ∀ x H', J.yld i H x H' → g x (wipe σ vs) H' fun σ2 H2 => wipe σ2 vs = wipe σ vs ∧
    te (lw W0 σ) σ2 H2 fun y H3 => ∃ acc, H3 D = some (.lst acc) ∧ acc.length < sizeLine ∧ Nx (upd H3 D (.lst (acc ++ [y]))))
theorem lc_coreX {pins : List (Addr × Obj)} {s : Shared} {σ : St} {H : Hp} {Q : VK} {elt tg iter : Expr} {scope : Scope} {own : List (Str × Nat)} {pos p2 : Pos} {wi : TI} {g : TG} {te : WX → TE} {use : Option (Value → Sem Unit)} {Qf : Value → Shared → Prop} {W0 : WX}
    (tk : Takes X W0) (hst : X.stack = X.env :: X.outer) (hfl : X.env.frame = some X.env.locals) (calm : X.calm = true) (nd : X.N.Nodup) (I : Inv X pins σ H s) (hi : PI X tg iter wi) (ok : BlkOk X.N X.env.scope scope own)
    (hg : ∀ s H C cl fp xe WB, Takes (blkX X s H scope cl C fp xe) WB → PassesOwn (model X.prog X.w) X.A (compEnvC scope cl C X.env) xe → PG (blkX X s H scope cl C fp xe) tg g)
    (he : ∀ s H C cl fp xe WB, Takes (blkX X s H scope cl C fp xe) WB → PassesOwn (model X.prog X.w) X.A (compEnvC scope cl C X.env) xe → PE (blkX X s H scope cl C fp xe) elt (te WB))
    (hs : ∀ x, foldedSetIterable iter X.env x = pure x) (h : tLcX W0 wi g te (own.map (·.2)) σ H Q)
    (back : ∀ Dn C s' m H', Inv X pins σ H' s' → Q (.ref Dn) H' → s'.heap.Ns C m → FpOk X pins H' C → compPost (model X.prog X.w) X.A X.xe use Qf (.ref Dn) C (.ok .next) s') :
    wpAny (model X.prog X.w) X.A (comprehension (.ListComp elt [⟨tg, iter, [], 0⟩] scope pos) scope X.env p2 (newList []) false (eval iter X.env) use) Qf X.xe s := by
  have acc0 : ∀ y ∈ scope.names, y.2 = .free → ∃ c, X.env.cells.lookup y.1 = some c := fun y hy e => (ok.free y hy e).elim (fun k => I.ok.has _ (.inl k)) fun k => I.ok.has _ (.inr k)
  refine comp_freeX (u := use) rfl hs (closure_ok acc0) ok.kind (fun y hy e => by rw [ok.uniq y hy, e]) ?_
  refine thn (hi.run pins s σ H _ I h) fun xv t1 hx => thn hx fun iv t2 h2 => ?_
  obtain ⟨it, fp, tn, J, K2, rfl, P2, T, w2, p2', q⟩ := h2
  refine wpAny_newObj_type (newEnv_comp ?_) (by show 0 ≤ sizeLine; decide)
  generalize eD : t2.heap.objs.size = Dn
  have nD : K2 Dn = none := P2.hok.fresh (Nat.le_of_eq eD)
  obtain ⟨W, ⟨m1, wn⟩, each1⟩ := q Dn nD
  generalize e3 : ({ t2 with heap := t2.heap.push { cls := .type "list", data := .seq ([] : List Value).toArray } } : Shared) = t3
  have heap3 : t3.heap = t2.heap.push { cls := .type "list", data := .seq ([] : List Value).toArray } := by rw [← e3]
  have P3 : Inv X pins σ (upd K2 Dn (.lst [])) t3 := by
    subst e3
    refine P2.laid (t' := t2.toks) (fun b o e => Heap.get?_push_of_some _ e) (Nat.le_of_eq eD) ⟨Nat.zero_le _, [], 0, .nil, ?_⟩
    rw [← eD]
    exact Heap.get?_push_size _ rfl
  have lt2 : ∀ b ∈ fp, b < t2.heap.objs.size := fun b hb => let ⟨_, e, _⟩ := T.obj _ _ w2 b hb; Heap.lt_size e
  have p3 : ∀ b ∈ fp, FpOk X pins (upd K2 Dn (.lst [])) b ∧ b < t3.heap.objs.size := fun b hb => by
    refine ⟨⟨?_, (p2' b hb).2⟩, by rw [heap3, Heap.size_push]; exact Nat.lt_succ_of_lt (lt2 b hb)⟩
    rw [upd_ne fun z => Nat.lt_irrefl _ (by have := lt2 b hb; rw [eD, ← z] at this; exact this)]
    exact (p2' b hb).1
  have w3 : tn 0 t3.heap := T.keep _ _ _ w2 fun b _ o e => by rw [heap3]; exact Heap.get?_push_of_some _ e
  have R4 := block_start P3 ok nd p3
  generalize hcl : cellsFrom (t3.heap.objs.size + 1) scope.names (cloFrom X.env.cells scope.names []) = cl at R4
  generalize hH3 : upd K2 Dn (.lst []) = K3 at P3 R4 p3 wn
  generalize hxe : (notedBy (model X.prog X.w) X.A (compEnvC scope cl t3.heap.objs.size X.env) fun e s' => PostX (model X.prog X.w) X.A X.xe use Qf (.ref Dn) (compEnvC scope cl t3.heap.objs.size X.env) (.error e) s') = xe
  have po : PassesOwn (model X.prog X.w) X.A (compEnvC scope cl t3.heap.objs.size X.env) xe := by
    rw [← hxe]
    exact PassesOwn.looking
  have tB := takes_blk (fp := fp) (cl := cl) (scope := scope) tk hst hfl P3 (fun b hb => (p3 b hb).1) hxe.symm
  have pg := hg t3 K3 t3.heap.objs.size cl fp xe _ tB po
  have pe := he t3 K3 t3.heap.objs.size cl fp xe _ tB po
  generalize e4 : ({ t3 with heap := pushCells (t3.heap.push { cls := .type "dict", data := .dict #[] }) scope.names } : Shared) = t4 at R4
  have P4 : Inv (blkX X t3 K3 scope cl t3.heap.objs.size fp xe) [] (wipe σ (own.map (·.2))) K3 t4 := R4.toTry xe
  have w4 : tn 0 t4.heap := T.keep _ _ _ w3 fun b _ o e => by rw [← e4]; exact pushCells_keeps _ _ _ _ (Heap.get?_push_of_some _ e)
  show codeAny _ _ (.compStart (.ListComp elt [⟨tg, iter, [], 0⟩] scope pos) 0 (.ref it) (.ref Dn) (compEnvC scope cl t3.heap.objs.size X.env)) (PostX (model X.prog X.w) X.A X.xe use Qf (.ref Dn) (compEnvC scope cl t3.heap.objs.size X.env)) t4
  have nfp : ∀ b ∈ fp, K3 b = none := fun b hb => (p3 b hb).1.1
  have still : ∀ {σ' : St} {H' : Hp} {s' : Shared}, Inv (blkX X t3 K3 scope cl t3.heap.objs.size fp xe) [] σ' H' s' → (∀ b ∈ fp, H' b = none) → ∀ b ∈ fp, FpOk (blkX X t3 K3 scope cl t3.heap.objs.size fp xe) [] H' b := fun {σ' H' s'} I' hn b hb =>
    ⟨hn b hb, (I'.ok.exf b hb).1, I'.ok.exfs b hb, .inl hb, (I'.ok.exf b hb).2, fun p hp => absurd (show p ∈ ([] : List (Addr × Obj)) ++ [] from hp) (by simp)⟩
  have loop : codeAny (model X.prog X.w) X.A (.compLoop (.ListComp elt [⟨tg, iter, [], 0⟩] scope pos) 0 (.ref it) (.ref Dn) (compEnvC scope cl t3.heap.objs.size X.env)) (PostX (model X.prog X.w) X.A X.xe use Qf (.ref Dn) (compEnvC scope cl t3.heap.objs.size X.env)) t4 := by
    refine compLoop_any (fun n s' => ∃ i H', Inv (blkX X t3 K3 scope cl t3.heap.objs.size fp xe) [] (wipe σ (own.map (·.2))) H' s' ∧ tn i s'.heap ∧ (∀ b ∈ fp, H' b = none) ∧ W i n H') ?_ m1 ⟨0, K3, P4, w4, nfp, wn⟩
    rintro n t5 ⟨i, K5, P5, w5', n5, wi5⟩
    rw [hxe]
    rcases each1 i n K5 wi5 with ⟨halt, qD⟩ | ⟨gone, Rn, nxt, turned⟩
    · refine thn (T.done (blkX X t3 K3 scope cl t3.heap.objs.size fp xe) rfl rfl rfl calm i [] t5 _ K5 xe P5 (still P5 n5) w5' halt) fun r t6 ⟨hr, P6⟩ => ?_
      subst hr
      have Q7 : Inv X pins σ K5 t6 := P3.call' (ch := fp) P6.os P6.base P6.hok P6.bare fun b hb => ⟨(p3 b hb).1.2.2.2.1, (p3 b hb).1.2.1, (p3 b hb).1.2.2.2.2.1, (p3 b hb).1.2.2.2.2.2⟩
      obtain ⟨m, hn, _⟩ := P6.loc
      exact back Dn t3.heap.objs.size t6 m K5 Q7 qD hn (P3.fpOk (Nat.le_refl _) P6.free)
    · refine thn (T.item (blkX X t3 K3 scope cl t3.heap.objs.size fp xe) rfl rfl rfl calm i [] t5 _ K5 xe P5 (still P5 n5) w5' gone) fun r t6 ⟨u, hr, h6⟩ => ?_
      subst hr
      refine thn h6 fun _ t7 ⟨x, K7, Q7, r7, y7, w7, n7⟩ => ?_
      have P7 := Q7.pinned (still Q7 n7) (T.obj _ _ w7)
      refine thn (pg.run _ t7 _ K7 x u _ P7 r7 (turned x K7 y7)) fun _ t8 ⟨σ8, K8, P8, hw8, q8⟩ => ?_
      refine wpAny_tests_nil ?_
      simp only [if_true]
      refine thn (pe.run _ t8 σ8 K8 _ P8 q8) fun z t10 ⟨yv, K10, P10, r10, acc, hD10, hz10, nx⟩ => ?_
      refine app_ok (X := blkX X t3 K3 scope cl t3.heap.objs.size fp xe) P10 hD10 hz10 r10 fun t11 P11 => ?_
      obtain ⟨m', hm, w'⟩ := nxt _ nx
      have pin' : ∀ b ∈ fp, ∀ o, t7.heap.get? b = some o → t11.heap.get? b = some o ∧ upd K10 Dn (.lst (acc ++ [yv])) b = none := fun b hb o e =>
        let k := P11.pin (b, o) (List.mem_append_right _ (List.mem_append_right _ (mem_pinsAt hb e)))
        ⟨k.1, k.2.1⟩
      refine ⟨m', hm, i + 1, _, (P11.unpinned (pins := [])).weak (by rw [← hw8, wipe_length]) fun j v e => ?_, T.keep _ _ _ w7 fun b hb o e => (pin' b hb o e).1, fun b hb => ?_, w'⟩
      · rw [← hw8] at e
        exact (wipe_some e).1
      · obtain ⟨o, e, _⟩ := T.obj _ _ w7 b hb
        exact (pin' b hb o e).2
  exact codeAny_compStart_list loop (T.self X.A 0 _ _ _ w4 loop)
theorem ps_setLcX {i : Nat} {y : Str} {py pos spos : Pos} {elt tg iter : Expr} {scope : Scope} {own : List (Str × Nat)} {wi : TI} {g : TG} {te : WX → TE} {W0 : WX}
    (tk : Takes X W0) (hst : X.stack = X.env :: X.outer) (hfl : X.env.frame = some X.env.locals) (calm : X.calm = true) (nd : X.N.Nodup) (hy : X.N[i]? = some y) (hyl : X.env.scope.names.lookup y = some .local)
    (hsw : swapsWith (.ListComp elt [⟨tg, iter, [], 0⟩] scope pos) (some (.Name y py)) spos.line X.env = pure true) (hi : PI X tg iter wi) (ok : BlkOk X.N X.env.scope scope own)
    (hg : ∀ s H C cl fp xe WB, Takes (blkX X s H scope cl C fp xe) WB → PassesOwn (model X.prog X.w) X.A (compEnvC scope cl C X.env) xe → PG (blkX X s H scope cl C fp xe) tg g)
    (he : ∀ s H C cl fp xe WB, Takes (blkX X s H scope cl C fp xe) WB → PassesOwn (model X.prog X.w) X.A (compEnvC scope cl C X.env) xe → PE (blkX X s H scope cl C fp xe) elt (te WB))
    (hs : ∀ x, foldedSetIterable iter X.env x = pure x) :
    PS X (.Assign [.Name y py] (.ListComp elt [⟨tg, iter, [], 0⟩] scope pos) spos) (tAsg (tLcX W0 wi g te (own.map (·.2))) (gName i)) := by
  constructor
  intro pins s σ H D I h
  have h : tLcX W0 wi g te (own.map (·.2)) σ H (fun x H1 => gName i x σ H1 D.nx) := h
  rw [exec_Assign_Name_used _ _ _ _ hsw]
  refine wpAny_bind (wpAny_standAt (wpAny_bind (wpAny_bind ?_)))
  have core := lc_coreX (pos := pos) (p2 := firstIterPos [⟨tg, iter, [], 0⟩] pos) (use := some (assign (.Name y py) X.env)) (Qf := fun _ s' => SP X pins D .next s') tk hst hfl calm nd I hi ok hg he hs h ?_
  · exact thn core fun _ s' q => wpAny_pure (wpAny_pure q)
  intro L C s' m H' I' q hn ⟨f0, f1, f2, f3, f4, f5⟩
  refine wpAny_assign_Name (store_ok2 (v := V.ref L) I' nd hy (.inl hyl) rfl (fun s2 J ⟨b, sb, hb⟩ => ?_) (.inr hyl))
  have ne : C ≠ b := fun z => by
    rcases hb with k | k
    · exact f1 (z.trans k)
    · exact f4 y b k z.symm
  refine ⟨m, hn.sameBut sb ne, fun h3 sb3 => ⟨_, H', ?_, q⟩⟩
  exact J.turned (t' := s2.toks) (fun b o hb e => (sb3.2 b hb).trans e) f0 f1 f3 f4 f5
end
/-! ### the layer -/
def compX (g : TF) (fe : EF) (ls0 : Ls) : List W → List W → Gs → Res
  | [], acc, G => .ok (.lst acc) G
  | w :: r, acc, G => match g w ls0 G with
    | .nx ls1 G1 => (match fe ls1 G1 with
      | .ok y G3 => if acc.length < SZ then compX g fe ls0 r (acc ++ [y]) G3 else .stuck
      | .exc x G3 => .exc x G3
      | .stuck => .stuck)
    | _ => .stuck
@[simp] def eCompX (vs : List Nat) (fi : EF) (g : TF) (fe : EF) : EF := fun ls G => (fi ls G).bind fun w G1 => match w with
  | .lst ws => compX g fe (wipeL ls vs) ws [] G1
  | _ => .stuck
section
variable {T : Tx} {X : Cx} {W0 : WX}
theorem imp_compX {is vs : List Nat} {wi : TI} {tg : TG} {te : WX → TE} {fi : EF} {g : TF} {fe : EF} (ii : ImpI T W0 wi fi) (ig : ImpG T is tg g) (ie : ∀ WB, Imp T WB (te WB) fe) (hs : ∀ j ∈ is, j ∈ vs) : Imp T W0 (tLcX W0 wi tg te vs) (eCompX vs fi g fe) := by
  intro m ls G σ H Q hG hL ho
  refine ii m ls G σ H _ hG hL ?_
  simp only [eCompX] at ho
  cases e : fi ls G with
  | stuck => rw [e] at ho; exact ho
  | exc w G1 => rw [e] at ho; exact ho
  | ok w G1 =>
    rw [e] at ho
    simp only [Res.bind] at ho
    split at ho
    · rename_i ws
      refine ⟨ws, rfl, fun m1 J H1 k1 g1 it D hD => ?_⟩
      have o1 := Out.keep k1 ho
      have hDr : D ∉ m1.r := g1.freeR hD
      refine ⟨fun i k H => k = ws.length - i ∧ ∃ m2 acc accV G2, Keep m1 H1 m2 H ∧ RG T m2 G2 H ∧ D ∈ m2.av ∧ D ∉ m2.r ∧ H D = some (.lst accV) ∧ RWs T m2 H acc accV ∧ RL T m2 H (wipeL ls vs) (L2.wipe σ vs) ∧
        Out T W0 m1 H1 σ Q (compX g fe (wipeL ls vs) (ws.drop i) acc G2), ⟨ws.length, rfl, m1.hide D, [], [], G1, Keep.hide g1 hD, g1.hide hD, List.mem_cons_self, hDr, upd_same, .nil, (((hL.keep k1).keep (Keep.hide g1 hD)).wipe vs), o1⟩, ?_⟩
      rintro i k H2 ⟨rfl, m2, acc, accV, G2, k2, g2, hDa, hDr2, eD, ra, l2, o2⟩
      obtain ⟨go, stop⟩ := it m2 G2 H2 k2 g2
      cases hw : ws[i]? with
      | none =>
        have hle : ws.length ≤ i := List.getElem?_eq_none_iff.mp hw
        rw [List.drop_eq_nil_of_le hle] at o2
        refine .inl ⟨stop i hle, ?_⟩
        refine o2 (m2.unh D) (.ref D) H2 (Keep.back g1 hD k2) g2.unh (.lst ra.unh ⟨hDr2, fun q => ?_⟩ eD)
        have := (List.mem_filter.mp q).2
        simp at this
      | some w =>
        have hlt : i < ws.length := (List.getElem?_eq_some_iff.mp hw).1
        have hd : ws.drop i = w :: ws.drop (i + 1) := by
          rw [List.drop_eq_getElem_cons hlt, (List.getElem?_eq_some_iff.mp hw).2]
        rw [hd] at o2
        obtain ⟨hgo, hy⟩ := go i w hw
        refine .inr ⟨hgo, fun H => ∃ m2 acc accV G2, Keep m1 H1 m2 H ∧ RG T m2 G2 H ∧ D ∈ m2.av ∧ D ∉ m2.r ∧ H D = some (.lst accV) ∧ RWs T m2 H acc accV ∧ RL T m2 H (wipeL ls vs) (L2.wipe σ vs) ∧
          Out T W0 m1 H1 σ Q (compX g fe (wipeL ls vs) (ws.drop (i + 1)) acc G2), fun H' n => ⟨ws.length - (i + 1), by omega, rfl, n⟩, fun x H' yl => ?_⟩
        obtain ⟨k3, g3, r3⟩ := hy x H' yl
        refine ig m2 (wipeL ls vs) G2 (L2.wipe σ vs) H' w x _ g3 (l2.keep k3) r3 ?_
        simp only [compX] at o2
        cases eg : g w (wipeL ls vs) G2 with
        | nx ls4 G4 =>
          rw [eg] at o2
          simp only at o2
          intro m4 σ4 H4 k4 g4 l4 c4
          refine ⟨c4.wipe hs, ?_⟩
          refine ie (lw W0 σ) m4 ls4 G4 σ4 H4 _ g4 l4 ?_
          have kk : Keep m2 H2 m4 H4 := k3.trans k4
          cases ee : fe ls4 G4 with
          | ok y G6 =>
            rw [ee] at o2
            simp only at o2
            split at o2
            · rename_i hz
              intro m6 v6 H6 k6 g6 r6
              have kk' := kk.trans k6
              have f1 := kk'.avL D hDa
              obtain ⟨f3, f2⟩ := kk'.fzE eD hDr2
              have ra6 := ra.keep kk'
              refine ⟨accV, f3, by rw [← ra6.length, ← sz_eq]; exact hz, m6, acc ++ [y], accV ++ [v6], G6, Keep.pen hD (k2.trans kk'), g6.pen f1 f2, f1, f2, upd_same, ?_, (l2.keep kk').pen f1, o2⟩
              exact (ra6.append (.cons r6 .nil)).pen f1
            · exact False.elim o2
          | exc y G6 =>
            rw [ee] at o2
            intro m6 c d H6 k6 g6 rx
            exact o2 m6 c d H6 (k2.trans (kk.trans k6)) g6 rx
          | stuck => rw [ee] at o2; exact False.elim o2
        | _ => rw [eg] at o2; exact False.elim o2
    · exact False.elim ho
/-- where such a block may stand -/
structure BX where
  s : Shared
  H : Hp
  C : Addr
  cl : List (Str × Addr)
  fp : List Addr
  xe : Value → Shared → Prop
abbrev BX.cx (p : BX) (X : Cx) (scope : Scope) : Cx := blkX X p.s p.H scope p.cl p.C p.fp p.xe
theorem one_gX {scope : Scope} {e : Expr} {is : List Nat} {g : TF} (h : ∀ (p : BX) (WB : WX), Ctx T (p.cx X scope) WB → FG T (p.cx X scope) is e g) : ∃ t, (∀ (p : BX) WB, Ctx T (p.cx X scope) WB → PG (p.cx X scope) e t) ∧ ImpG T is t g :=
  ⟨fun v σ H Q => ∀ (p : BX) WB (c : Ctx T (p.cx X scope) WB), Classical.choose (h p WB c) v σ H Q, fun p WB c => ⟨fun pins s σ H v u Q I r hq => (Classical.choose_spec (h p WB c)).1.run pins s σ H v u Q I r (hq p WB c)⟩,
    fun m ls G σ H w v Q hG hL r ho p WB c => (Classical.choose_spec (h p WB c)).2 m ls G σ H w v Q hG hL r ho⟩
theorem one_eX {scope : Scope} {e : Expr} {f : EF} (h : ∀ (p : BX) (WB : WX), Ctx T (p.cx X scope) WB → FE T (p.cx X scope) WB e f) : ∃ t : WX → TE, (∀ (p : BX) WB, Ctx T (p.cx X scope) WB → PE (p.cx X scope) e (t WB)) ∧ ∀ WB, Imp T WB (t WB) f :=
  ⟨fun WB σ H Q => ∀ (p : BX) (c : Ctx T (p.cx X scope) WB), Classical.choose (h p WB c) σ H Q, fun p WB c => ⟨fun pins s σ H Q I hq => (Classical.choose_spec (h p WB c)).1.run pins s σ H Q I (hq p c)⟩,
    fun WB m ls G σ H Q hG hL ho p c => (Classical.choose_spec (h p WB c)).2 m ls G σ H Q hG hL ho⟩
theorem fs_setLcX (i : Nat) {elt tg iter : Expr} {scope : Scope} {pos : Pos} {is : List Nat} {fi : EF} {g : TF} {fe : EF} {y : Str} {py spos : Pos} (own : List (Str × Nat)) (c : Ctx T X W0) (hi : FI T X W0 tg iter fi) (hg : ∀ (p : BX) (WB : WX), Ctx T (p.cx X scope) WB → FG T (p.cx X scope) is tg g) (he : ∀ (p : BX) (WB : WX), Ctx T (p.cx X scope) WB → FE T (p.cx X scope) WB elt fe)
    (hst : X.stack = X.env :: X.outer := by rfl) (hfl : X.env.frame = some X.env.locals := by rfl)
    (hy : X.N[i]? = some y := by rfl) (hyl : X.env.scope.names.lookup y = some .local := by rfl) (hsw : swapsWith (.ListComp elt [⟨tg, iter, [], 0⟩] scope pos) (some (.Name y py)) spos.line X.env = pure true := by exact sw_true rfl rfl rfl (by decide +kernel))
    (ok : blkC X.N X.env.scope scope own = true := by kernel_rfl) (hs : ∀ j ∈ is, j ∈ own.map (·.2) := by decide) (hf : ∀ x, foldedSetIterable iter X.env x = pure x := by intro _; rfl) :
    FS T X W0 (.Assign [.Name y py] (.ListComp elt [⟨tg, iter, [], 0⟩] scope pos) spos) (sAsg (eCompX (own.map (·.2)) fi g fe) (gN i)) := by
  obtain ⟨wi, hi, ii⟩ := hi
  obtain ⟨tg', hg, ig⟩ := one_gX hg
  obtain ⟨te, he, ie⟩ := one_eX he
  refine ⟨_, ps_setLcX c.tk hst hfl c.calm c.nd hy hyl hsw hi (blkOk_by ok) (fun s H C cl fp xe WB tk po => hg ⟨s, H, C, cl, fp, xe⟩ WB ⟨tk, po, c.calm, c.nd, c.hu, c.hK⟩) (fun s H C cl fp xe WB tk po => he ⟨s, H, C, cl, fp, xe⟩ WB ⟨tk, po, c.calm, c.nd, c.hu, c.hK⟩) hf, fun m ls G σ H D hG hL ho => ?_⟩
  exact (imp_compX ii ig ie hs).goS hG hL ho fun w G1 m1 v H1 k1 g1 r1 l1 o1 => o1 m1 _ H1 (.refl _ _) g1 (l1.set i r1)
end
end U

namespace U
open PySem
open L2
/- names of is_name: 0:value 1:letter -/
def C1_is_name : EF :=
    (eOp inW (eVar 1) (eC (.str [97, 98, 99, 100, 101, 102, 103, 104, 105, 106, 107, 108, 109, 110, 111, 112, 113, 114, 115, 116, 117, 118, 119, 120, 121, 122])))
def B_is_name : SF :=
    (sSeq (sIf (eNot (eCall isiW (aCons (eVar 0) (aCons (eC (.ty .str)) aNil)))) (sRet (eC (.bl false))) sNil)
    (sRet (eAnd (eChain leW leW (eC (.int 1)) (eCall lenW (aCons (eVar 0) aNil)) (eC (.int 4))) (eCall allW (aCons (eComp [1] (iSeq (eVar 0)) (gN 1) (eC (.bl true)) C1_is_name) aNil)))))
def F_is_name : Fn := mkFn 1 2 B_is_name
/- names of is_integer: 0:value -/
def B_is_integer : SF :=
    (sRet (eAnd (eCall isiW (aCons (eVar 0) (aCons (eC (.ty .int)) aNil))) (eNot (eCall isiW (aCons (eVar 0) (aCons (eC (.ty .bool)) aNil))))))
def F_is_integer : Fn := mkFn 1 1 B_is_integer
/- names of is_number: 0:value 1:least 2:most -/
def B_is_number : SF :=
    (sRet (eAnd (eFn F_is_integer [] (aCons (eVar 0) aNil)) (eChain leW leW (eVar 1) (eVar 0) (eVar 2))))
def F_is_number : Fn := mkFn 3 3 B_is_number
/- names of _law_bag: 0:_law_script -/
def B_law_bag : SF :=
    (sRet (eLstM (aCons (eCall listW (aCons (eSl (eVar 0) pNo (pSm (eC (.int 63)))) aNil)) (aCons (eC (.int 0)) (aCons (eC (.int 0)) (aCons (eOp addW (eC (.int 12002)) (eCall lenW (aCons (eVar 0) aNil))) (aCons (eC (.int 0)) aNil)))))))
def F_law_bag : Fn := mkFn 1 1 B_law_bag
/- names of _law_pull: 0:_law_bag_here 1:_law_many 2:_law_cell 3:_law_digit 4:_law_seed -/
def B_law_pull : SF :=
    (sSeq (sIf (eAnd (eOp eqW (eOp ixW (eVar 0) (eC (.int 2))) (eC (.int 0))) (eOp ltW (eOp ixW (eVar 0) (eC (.int 1))) (eCall lenW (aCons (eOp ixW (eVar 0) (eC (.int 0))) aNil)))) (sSeq (sAsg (eOp ixW (eOp ixW (eVar 0) (eC (.int 0))) (eOp ixW (eVar 0) (eC (.int 1)))) (gN 2))
    (sSeq (sAsg (eOp addW (eOp ixW (eVar 0) (eC (.int 1))) (eC (.int 1))) (gSet (eVar 0) (eC (.int 1))))
    (sIf (eOp geW (eVar 2) (eOp powW (eC (.int 10)) (eC (.int 18)))) (sAsg (eVar 2) (gSet (eVar 0) (eC (.int 2)))) (sAsg (eOp modW (eCall intW (aCons (eOp addW (eOp addW (eOp mulW (eOp ixW (eVar 0) (eC (.int 3))) (eC (.int 48623))) (eOp mulW (eOp modW (eCall intW (aCons (eVar 2) aNil)) (eC (.int 2147483399))) (eC (.int 15017)))) (eC (.int 31))) aNil)) (eC (.int 2147483563))) (gSet (eVar 0) (eC (.int 3))))))) sNil)
    (sSeq (sIf (eOp gtW (eOp ixW (eVar 0) (eC (.int 2))) (eC (.int 0))) (sSeq (sAsg (eOp modW (eCall intW (aCons (eOp ixW (eVar 0) (eC (.int 2))) aNil)) (eVar 1)) (gN 3))
    (sSeq (sAsg (eOp divW (eOp ixW (eVar 0) (eC (.int 2))) (eVar 1)) (gSet (eVar 0) (eC (.int 2))))
    (sRet (eVar 3)))) sNil)
    (sSeq (sAsg (eOp addW (eOp ixW (eVar 0) (eC (.int 4))) (eC (.int 1))) (gSet (eVar 0) (eC (.int 4))))
    (sSeq (sAsg (eOp ixW (eVar 0) (eC (.int 3))) (gN 4))
    (sSeq (sAsg (eOp modW (eCall intW (aCons (eOp addW (eOp addW (eOp addW (eOp mulW (eOp mulW (eVar 4) (eVar 4)) (eC (.int 7))) (eOp mulW (eVar 4) (eC (.int 31159)))) (eOp mulW (eOp ixW (eVar 0) (eC (.int 4))) (eC (.int 1299841)))) (eC (.int 70003))) aNil)) (eC (.int 2147483543))) (gSet (eVar 0) (eC (.int 3))))
    (sRet (eOp modW (eCall intW (aCons (eOp addW (eOp divW (eOp ixW (eVar 0) (eC (.int 3))) (eC (.int 73))) (eOp mulW (eOp modW (eCall intW (aCons (eOp ixW (eVar 0) (eC (.int 3))) aNil)) (eC (.int 7919))) (eC (.int 59)))) aNil)) (eVar 1))))))))
def F_law_pull : Fn := mkFn 2 5 B_law_pull
/- names of _law_any: 0:_law_bag_here 1:_law_things -/
def B_law_any : SF :=
    (sRet (eOp ixW (eVar 1) (eFn F_law_pull [] (aCons (eVar 0) (aCons (eCall lenW (aCons (eVar 1) aNil)) aNil)))))
def F_law_any : Fn := mkFn 2 2 B_law_any
/- names of _law_same: 0:_law_found 1:_law_due 2:_law_one 3:_law_two -/
def C1_law_same (F_rec : Fn) : EF :=
    (eFn F_rec [] (aCons (eVar 2) (aCons (eVar 3) aNil)))
def B_law_same (F_rec : Fn) : SF :=
    (sSeq (sIf (eCall isiW (aCons (eVar 1) (aCons (eTup (aCons (eC (.ty .list)) (aCons (eC (.ty .tuple)) aNil))) aNil))) (sSeq (sIf (eOr (eOp neW (eCall isiW (aCons (eVar 0) (aCons (eC (.ty .list)) aNil))) (eCall isiW (aCons (eVar 1) (aCons (eC (.ty .list)) aNil)))) (eOp neW (eCall isiW (aCons (eVar 0) (aCons (eC (.ty .tuple)) aNil))) (eCall isiW (aCons (eVar 1) (aCons (eC (.ty .tuple)) aNil))))) (sRet (eC (.bl false))) sNil)
    (sRet (eAnd (eOp eqW (eCall lenW (aCons (eVar 0) aNil)) (eCall lenW (aCons (eVar 1) aNil))) (eCall allW (aCons (eComp [2, 3] (iZipW (aCons (eVar 0) (aCons (eVar 1) aNil))) (gT 2 (gs1 (gN 2) (gs1 (gN 3) gs0))) (eC (.bl true)) (C1_law_same F_rec)) aNil))))) sNil)
    (sSeq (sIf (eOr (eOp isW (eVar 1) (eC .non)) (eOp isW (eVar 0) (eC .non))) (sRet (eAnd (eOp isW (eVar 1) (eC .non)) (eOp isW (eVar 0) (eC .non)))) sNil)
    (sSeq (sIf (eOr (eOp neW (eCall isiW (aCons (eVar 0) (aCons (eC (.ty .bool)) aNil))) (eCall isiW (aCons (eVar 1) (aCons (eC (.ty .bool)) aNil)))) (eOp neW (eCall isiW (aCons (eVar 0) (aCons (eC (.ty .int)) aNil))) (eCall isiW (aCons (eVar 1) (aCons (eC (.ty .int)) aNil))))) (sRet (eC (.bl false))) sNil)
    (sRet (eAnd (eOp eqW (eCall isiW (aCons (eVar 0) (aCons (eC (.ty .str)) aNil))) (eCall isiW (aCons (eVar 1) (aCons (eC (.ty .str)) aNil)))) (eOp eqW (eVar 0) (eVar 1)))))))
def F_law_same : Nat → Fn
  | 0 => fun _ _ => .stuck
  | nrec + 1 => mkFn 2 4 (B_law_same (F_law_same nrec))
/- names of _law_names: 0:_law_bag_here 1:_law_many 2:_law_letters 3:_law_stem 4:_law_at 5:_law_first 6:_law_k -/
def C1_law_names : EF :=
    (eFn F_law_any [] (aCons (eVar 0) (aCons (eVar 2) aNil)))
def C2_law_names : EF :=
    (eOp addW (eOp addW (eSl (eVar 3) pNo (pSm (eVar 4))) (eOp ixW (eVar 2) (eOp modW (eCall intW (aCons (eOp addW (eVar 5) (eOp mulW (eC (.int 7)) (eVar 6))) aNil)) (eC (.int 26))))) (eSl (eVar 3) (pSm (eVar 4)) pNo))
def B_law_names : SF :=
    (sSeq (sAsg (eC (.str [97, 98, 99, 100, 101, 102, 103, 104, 105, 106, 107, 108, 109, 110, 111, 112, 113, 114, 115, 116, 117, 118, 119, 120, 121, 122])) (gN 2))
    (sSeq (sAsg (eJoin (eC (.str [])) (eComp [6] (iRange1 (aCons (eFn F_law_pull [] (aCons (eVar 0) (aCons (eC (.int 4)) aNil))) aNil)) (gN 6) (eC (.bl true)) C1_law_names)) (gN 3))
    (sSeq (sAsg (eTup (aCons (eFn F_law_pull [] (aCons (eVar 0) (aCons (eOp addW (eCall lenW (aCons (eVar 3) aNil)) (eC (.int 1))) aNil))) (aCons (eFn F_law_pull [] (aCons (eVar 0) (aCons (eC (.int 26)) aNil))) aNil))) (gT 2 (gs1 (gN 4) (gs1 (gN 5) gs0))))
    (sRet (eComp [6] (iRange1 (aCons (eVar 1) aNil)) (gN 6) (eC (.bl true)) C2_law_names)))))
def F_law_names : Fn := mkFn 2 7 B_law_names
/-! ### draws -/
def bag (cells : List Int) (spot rest seed cnt : Int) : O := .lst [.lst (cells.map .int), .int spot, .int rest, .int seed, .int cnt]
structure BagOk (c : Nat) (o : O) : Prop where
  ex : ∃ (cells : List Int) (spot : Nat) (rest seed cnt : Int), o = bag cells spot rest seed cnt ∧ spot ≤ cells.length ∧ 0 ≤ rest ∧ 0 ≤ seed ∧ seed < 2147483563 ∧ 0 ≤ cnt ∧ cnt ≤ c
theorem BagOk.mono {c c' : Nat} {o : O} (h : BagOk c o) (hc : c ≤ c') : BagOk c' o := by
  obtain ⟨cells, spot, rest, seed, cnt, e, h1, h2, h3, h4, h5, h6⟩ := h
  exact ⟨cells, spot, rest, seed, cnt, e, h1, h2, h3, h4, h5, by omega⟩
theorem cMul_of {i j : Int} (hi : i.natAbs < 2 ^ 100) (hj : j.natAbs < 2 ^ 100) : cMul i j = true := by
  unfold cMul
  have := L2.wide_mul hi hj (by decide) (by decide) (by decide)
  exact decide_eq_true this
theorem cMul_small {i j : Int} (h1 : -1000000000000 < i) (h2 : i < 1000000000000) (h3 : -1000000000000 < j) (h4 : j < 1000000000000) : cMul i j = true := by
  refine cMul_of ?_ ?_
  · have : (2:Nat) ^ 100 = 1267650600228229401496703205376 := by decide
    omega
  · have : (2:Nat) ^ 100 = 1267650600228229401496703205376 := by decide
    omega
theorem cDiv_of {j : Int} (h1 : 0 < j) (h2 : j < 1000000000000) : cDiv j = true := by
  unfold cDiv
  have : (2:Nat) ^ 100 = 1267650600228229401496703205376 := by decide
  have := L2.wide_div (i := 0) h1 (b := 100) (by omega) (by decide) (by decide)
  rw [decide_eq_true h1, decide_eq_true this.2]
  rfl
theorem pull_rest (cells : List Int) (spot rest seed cnt many : Int) (R : Gs) (h : rest > 0) (hm : 0 < many) (hd : cDiv many = true) : F_law_pull [.ref 0, .int many] (bag cells spot rest seed cnt :: R) = .ok (.int (rest % many)) (bag cells spot (rest / many) seed cnt :: R) := by
  have h0 : ¬ rest = 0 := by omega
  simp [F_law_pull, B_law_pull, atI, ixN, bag, h0, h, hm, hd]

def nextSeed (seed cnt : Int) : Int := (seed * seed * 7 + seed * 31159 + cnt * 1299841 + 70003) % 2147483543
def drawn (seed : Int) : Int := seed / 73 + seed % 7919 * 59
theorem nextSeed_lo (seed cnt : Int) : 0 ≤ nextSeed seed cnt := Int.emod_nonneg _ (by decide)
theorem nextSeed_hi (seed cnt : Int) : nextSeed seed cnt < 2147483543 := Int.emod_lt_of_pos _ (by decide)
theorem pull_seed (cells : List Int) (spot : Nat) (seed cnt many : Int) (R : Gs) (hs : cells.length ≤ spot) (hm : 0 < many) (h1 : 0 ≤ seed) (h2 : seed < 2147483563) (h3 : 0 ≤ cnt) (h4 : cnt < 100000000000) :
    F_law_pull [.ref 0, .int many] (bag cells spot 0 seed cnt :: R) = .ok (.int (drawn (nextSeed seed (cnt + 1)) % many)) (bag cells spot 0 (nextSeed seed (cnt + 1)) (cnt + 1) :: R) := by
  have hn : ¬ ((spot : Int) < (cells.length : Int)) := by omega
  have e1 : cMul seed seed = true := cMul_small (by omega) (by omega) (by omega) (by omega)
  have e2 : cMul (seed * seed) 7 = true := by
    refine cMul_of (L2.wide_lt (a := 50) (b := 50) ?_ ?_) (by decide)
    · have : (2:Nat) ^ 50 = 1125899906842624 := by decide
      omega
    · have : (2:Nat) ^ 50 = 1125899906842624 := by decide
      omega
  have e3 : cMul seed 31159 = true := cMul_small (by omega) (by omega) (by omega) (by omega)
  have e4 : cMul (cnt + 1) 1299841 = true := cMul_small (by omega) (by omega) (by omega) (by omega)
  have l1 := nextSeed_lo seed (cnt + 1)
  have l2 := nextSeed_hi seed (cnt + 1)
  have e5 : cMul (nextSeed seed (cnt + 1) % 7919) 59 = true := cMul_small (by omega) (by omega) (by omega) (by omega)
  have e6 : cDiv 73 = true := by decide +kernel
  unfold nextSeed at e5
  simp [F_law_pull, B_law_pull, atI, ixN, bag, hn, hm, e1, e2, e3, e4, e5, e6, nextSeed, drawn]
theorem pull_big (cells : List Int) (spot : Nat) (seed cnt many : Int) (R : Gs) (hs : spot < cells.length) (hb : cells[spot] ≥ 1000000000000000000) (hm : 0 < many) (hd : cDiv many = true) :
    F_law_pull [.ref 0, .int many] (bag cells spot 0 seed cnt :: R) = .ok (.int (cells[spot] % many)) (bag cells ((spot + 1 : Nat) : Int) (cells[spot] / many) seed cnt :: R) := by
  have hn : ((spot : Int) < (cells.length : Int)) := by omega
  have hp : cPow 10 18 = true := by decide +kernel
  have e : (10 : Int) ^ (18 : Int).toNat = 1000000000000000000 := by decide +kernel
  have hb' : (1000000000000000000 : Int) ≤ cells[spot] := hb
  have h0 : (0 : Int) < cells[spot] := by omega
  have h0' : ¬ cells[spot] = 0 := by omega
  simp [F_law_pull, B_law_pull, atI, ixN, bag, hn, hm, hd, hp, e, hb', h0, h0', List.getElem?_map, hs]
def mixSeed (seed cell : Int) : Int := (seed * 48623 + cell % 2147483399 * 15017 + 31) % 2147483563
theorem pull_small (cells : List Int) (spot : Nat) (seed cnt many : Int) (R : Gs) (hs : spot < cells.length) (hb : ¬ cells[spot] ≥ 1000000000000000000) (hm : 0 < many) (h1 : 0 ≤ seed) (h2 : seed < 2147483563) (h3 : 0 ≤ cnt) (h4 : cnt < 100000000000) :
    F_law_pull [.ref 0, .int many] (bag cells spot 0 seed cnt :: R) = .ok (.int (drawn (nextSeed (mixSeed seed cells[spot]) (cnt + 1)) % many)) (bag cells ((spot + 1 : Nat) : Int) 0 (nextSeed (mixSeed seed cells[spot]) (cnt + 1)) (cnt + 1) :: R) := by
  have hn : ((spot : Int) < (cells.length : Int)) := by omega
  have hp : cPow 10 18 = true := by decide +kernel
  have e : (10 : Int) ^ (18 : Int).toNat = 1000000000000000000 := by decide +kernel
  have hb' : ¬ (1000000000000000000 : Int) ≤ cells[spot] := hb
  have x1 := Int.emod_nonneg cells[spot] (b := 2147483399) (by decide)
  have x2 := Int.emod_lt_of_pos cells[spot] (b := 2147483399) (by decide)
  have d1 : cMul seed 48623 = true := cMul_small (by omega) (by omega) (by omega) (by omega)
  have d2 : cMul (cells[spot] % 2147483399) 15017 = true := cMul_small (by omega) (by omega) (by omega) (by omega)
  have y1 : 0 ≤ mixSeed seed cells[spot] := Int.emod_nonneg _ (by decide)
  have y2 : mixSeed seed cells[spot] < 2147483563 := Int.emod_lt_of_pos _ (by decide)
  have e1 : cMul (mixSeed seed cells[spot]) (mixSeed seed cells[spot]) = true := cMul_small (by omega) (by omega) (by omega) (by omega)
  have e2 : cMul (mixSeed seed cells[spot] * mixSeed seed cells[spot]) 7 = true := by
    refine cMul_of (L2.wide_lt (a := 50) (b := 50) ?_ ?_) (by decide)
    · have : (2:Nat) ^ 50 = 1125899906842624 := by decide
      omega
    · have : (2:Nat) ^ 50 = 1125899906842624 := by decide
      omega
  have e3 : cMul (mixSeed seed cells[spot]) 31159 = true := cMul_small (by omega) (by omega) (by omega) (by omega)
  have e4 : cMul (cnt + 1) 1299841 = true := cMul_small (by omega) (by omega) (by omega) (by omega)
  have l1 := nextSeed_lo (mixSeed seed cells[spot]) (cnt + 1)
  have l2 := nextSeed_hi (mixSeed seed cells[spot]) (cnt + 1)
  have e5 : cMul (nextSeed (mixSeed seed cells[spot]) (cnt + 1) % 7919) 59 = true := cMul_small (by omega) (by omega) (by omega) (by omega)
  have e6 : cDiv 73 = true := by decide +kernel
  unfold nextSeed at e5
  unfold mixSeed at e1 e2 e3 e5
  simp [F_law_pull, B_law_pull, atI, ixN, bag, hn, hm, hp, e, hb', d1, d2, e1, e2, e3, e4, e5, e6, nextSeed, drawn, mixSeed, List.getElem?_map, hs]
/-- a draw below many -/
theorem pull_ok {c : Nat} {o : O} (h : BagOk c o) (hc : c ≤ 1000000) {many : Int} (h1 : 0 < many) (h2 : many ≤ 1000000000) (R : Gs) :
    ∃ r o', F_law_pull [.ref 0, .int many] (o :: R) = .ok (.int r) (o' :: R) ∧ BagOk (c + 1) o' ∧ 0 ≤ r ∧ r < many := by
  obtain ⟨cells, spot, rest, seed, cnt, rfl, hs, hr, hs1, hs2, hc1, hc2⟩ := h
  have hd : cDiv many = true := cDiv_of h1 (by omega)
  have m1 : ∀ x : Int, 0 ≤ x % many := fun x => Int.emod_nonneg x (by omega)
  have m2 : ∀ x : Int, x % many < many := fun x => Int.emod_lt_of_pos x h1
  by_cases h0 : rest > 0
  · exact ⟨_, _, pull_rest cells spot rest seed cnt many R h0 h1 hd, ⟨cells, spot, _, seed, cnt, rfl, hs, Int.ediv_nonneg hr (by omega), hs1, hs2, hc1, by omega⟩, m1 _, m2 _⟩
  · obtain rfl : rest = 0 := by omega
    by_cases hl : cells.length ≤ spot
    · exact ⟨_, _, pull_seed cells spot seed cnt many R hl h1 hs1 hs2 hc1 (by omega), ⟨cells, spot, 0, _, _, rfl, hs, Int.le_refl _, nextSeed_lo _ _, by have := nextSeed_hi seed (cnt + 1); omega, by omega, by omega⟩, m1 _, m2 _⟩
    · have hl' : spot < cells.length := by omega
      by_cases hb : cells[spot] ≥ 1000000000000000000
      · exact ⟨_, _, pull_big cells spot seed cnt many R hl' hb h1 hd, ⟨cells, spot + 1, _, seed, cnt, rfl, hl', Int.ediv_nonneg (by omega) (by omega), hs1, hs2, hc1, by omega⟩, m1 _, m2 _⟩
      · exact ⟨_, _, pull_small cells spot seed cnt many R hl' hb h1 hs1 hs2 hc1 (by omega), ⟨cells, spot + 1, 0, _, _, rfl, hl', Int.le_refl _, nextSeed_lo _ _, by have := nextSeed_hi (mixSeed seed cells[spot]) (cnt + 1); omega, by omega, by omega⟩, m1 _, m2 _⟩

/-! ### comprehensions and loops -/
theorem compL_map (g : TF) (ft fe : EF) (ls0 : Ls) (f : W → W) (G : Gs) : ∀ (items acc : List W), (∀ w ∈ items, ∃ ls1, g w ls0 G = .nx ls1 G ∧ ft ls1 G = .ok (.bl true) G ∧ fe ls1 G = .ok (f w) G) → acc.length + items.length ≤ SZ →
    compL g ft fe ls0 items acc G = .ok (.lst (acc ++ items.map f)) G
  | [], acc, _, _ => by simp [compL]
  | w :: r, acc, h, hz => by
    obtain ⟨ls1, e1, e2, e3⟩ := h w List.mem_cons_self
    rw [List.length_cons] at hz
    have hl : acc.length < SZ := by omega
    simp only [compL, e1, e2, e3, if_pos hl]
    rw [compL_map g ft fe ls0 f G r (acc ++ [f w]) (fun x hx => h x (List.mem_cons_of_mem _ hx)) (by rw [List.length_append, List.length_singleton]; omega)]
    simp
theorem compL_filter (g : TF) (ft fe : EF) (ls0 : Ls) (p : W → Bool) (f : W → W) (G : Gs) : ∀ (items acc : List W), (∀ w ∈ items, ∃ ls1, g w ls0 G = .nx ls1 G ∧ ft ls1 G = .ok (.bl (p w)) G ∧ (p w = true → fe ls1 G = .ok (f w) G)) → acc.length + items.length ≤ SZ →
    compL g ft fe ls0 items acc G = .ok (.lst (acc ++ (items.filter p).map f)) G
  | [], acc, _, _ => by simp [compL]
  | w :: r, acc, h, hz => by
    obtain ⟨ls1, e1, e2, e3⟩ := h w List.mem_cons_self
    rw [List.length_cons] at hz
    have hl : acc.length < SZ := by omega
    cases hp : p w with
    | false =>
      rw [hp] at e2
      simp only [compL, e1, e2]
      rw [compL_filter g ft fe ls0 p f G r acc (fun x hx => h x (List.mem_cons_of_mem _ hx)) (by omega), List.filter_cons, hp]
      rfl
    | true =>
      rw [hp] at e2
      simp only [compL, e1, e2, e3 hp, if_pos hl]
      rw [compL_filter g ft fe ls0 p f G r (acc ++ [f w]) (fun x hx => h x (List.mem_cons_of_mem _ hx)) (by rw [List.length_append, List.length_singleton]; omega), List.filter_cons, hp]
      simp
theorem compL_inv (g : TF) (ft fe : EF) (ls0 : Ls) (P : Nat → List W → Gs → Prop) : ∀ (items acc : List W) (k : Nat) (G : Gs),
    (∀ j w acc G, items[j]? = some w → P (k + j) acc G → ∃ ls1 G1 G2 y G3, g w ls0 G = .nx ls1 G1 ∧ ft ls1 G1 = .ok (.bl true) G2 ∧ fe ls1 G2 = .ok y G3 ∧ acc.length < SZ ∧ P (k + j + 1) (acc ++ [y]) G3) → P k acc G →
    ∃ acc' G', compL g ft fe ls0 items acc G = .ok (.lst acc') G' ∧ P (k + items.length) acc' G'
  | [], acc, k, G, _, h0 => ⟨acc, G, rfl, h0⟩
  | w :: r, acc, k, G, h, h0 => by
    obtain ⟨ls1, G1, G2, y, G3, e1, e2, e3, hl, p⟩ := h 0 w acc G rfl h0
    obtain ⟨acc', G', e, q⟩ := compL_inv g ft fe ls0 P r (acc ++ [y]) (k + 1) G3 (fun j x acc G hx hp => by
      have e : k + (j + 1) = k + 1 + j := by omega
      have := h (j + 1) x acc G (by simpa using hx) (by rw [e]; exact hp)
      rw [e] at this
      exact this) p
    refine ⟨acc', G', ?_, ?_⟩
    · simp only [compL, e1, e2, e3, if_pos hl]
      exact e
    · rw [List.length_cons]
      have e : k + (r.length + 1) = k + 1 + r.length := by omega
      rw [e]
      exact q
theorem forL_inv (g : TF) (body : SF) (P : Nat → Ls → Gs → Prop) : ∀ (items : List W) (k : Nat) (ls : Ls) (G : Gs),
    (∀ j w ls G, items[j]? = some w → P (k + j) ls G → ∃ ls1 G1 ls2 G2, g w ls G = .nx ls1 G1 ∧ (body ls1 G1 = .nx ls2 G2 ∨ body ls1 G1 = .ct ls2 G2) ∧ P (k + j + 1) ls2 G2) → P k ls G →
    ∃ ls' G', forL g body items ls G = .nx ls' G' ∧ P (k + items.length) ls' G'
  | [], k, ls, G, _, h0 => ⟨ls, G, rfl, h0⟩
  | w :: r, k, ls, G, h, h0 => by
    obtain ⟨ls1, G1, ls2, G2, e1, e2, p⟩ := h 0 w ls G rfl h0
    obtain ⟨ls', G', e, q⟩ := forL_inv g body P r (k + 1) ls2 G2 (fun j x ls G hx hp => by
      have e : k + (j + 1) = k + 1 + j := by omega
      have := h (j + 1) x ls G (by simpa using hx) (by rw [e]; exact hp)
      rw [e] at this
      exact this) p
    refine ⟨ls', G', ?_, ?_⟩
    · rcases e2 with e2 | e2 <;> (simp only [forL, e1, e2]; exact e)
    · rw [List.length_cons]
      have e : k + (r.length + 1) = k + 1 + r.length := by omega
      rw [e]
      exact q

/-! ### the bag, a thing of some -/
theorem cut_take {α : Type} (xs : List α) (n : Nat) : cut xs none (some (n : Int)) = xs.take n := by
  unfold cut
  rw [HT.sIx_none, HT.sIx_nat, List.drop_zero, Nat.sub_zero, ← List.take_take, List.take_length]
theorem bag_ok (ns : List Int) (h : ns.length ≤ 63) : ∃ o, F_law_bag [.fz (ns.map .int)] [] = .ok (.ref 0) [o] ∧ BagOk 0 o := by
  refine ⟨bag (ns.take 63) (0 : Nat) 0 (12002 + ns.length) 0, ?_, ns.take 63, 0, 0, 12002 + ns.length, 0, rfl, Nat.zero_le _, Int.le_refl _, by omega, by omega, Int.le_refl _, Int.le_refl _⟩
  have e : cut (ns.map W.int) none (some 63) = (ns.take 63).map W.int := by
    have := cut_take (ns.map W.int) 63
    rw [List.map_take]
    exact this
  simp [F_law_bag, B_law_bag, e, SZ, bag]
theorem any_ok {c : Nat} {o : O} (h : BagOk c o) (hc : c ≤ 1000000) (xs : List W) (h1 : 0 < xs.length) (h2 : xs.length ≤ 1000000) (R : Gs) :
    ∃ (k : Nat) (x : W) (o' : O), F_law_any [.ref 0, .lst xs] (o :: R) = .ok x (o' :: R) ∧ BagOk (c + 1) o' ∧ xs[k]? = some x := by
  obtain ⟨r, o', e, hb, hr1, hr2⟩ := pull_ok h hc (many := (xs.length : Int)) (by omega) (by omega) R
  obtain ⟨k, rfl⟩ : ∃ k : Nat, r = k := ⟨r.toNat, by omega⟩
  have hk : k < xs.length := by omega
  refine ⟨k, xs[k], o', ?_, hb, by simp [hk]⟩
  simp [F_law_any, B_law_any, e, atI, ixN, hk]
theorem any_str {c : Nat} {o : O} (h : BagOk c o) (hc : c ≤ 1000000) (s : List Nat) (h1 : 0 < s.length) (h2 : s.length ≤ 1000000) (R : Gs) :
    ∃ (k : Nat) (x : Nat) (o' : O), F_law_any [.ref 0, .str s] (o :: R) = .ok (.str [x]) (o' :: R) ∧ BagOk (c + 1) o' ∧ s[k]? = some x := by
  obtain ⟨r, o', e, hb, hr1, hr2⟩ := pull_ok h hc (many := (s.length : Int)) (by omega) (by omega) R
  obtain ⟨k, rfl⟩ : ∃ k : Nat, r = k := ⟨r.toNat, by omega⟩
  have hk : k < s.length := by omega
  have hz : s.length ≤ 16777216 := by omega
  refine ⟨k, s[k], o', ?_, hb, by simp [hk]⟩
  simp [F_law_any, B_law_any, e, atI, ixN, hk, hz]

/-! ### equal to itself -/
/-- data of at most this depth: none, bools, ints, texts, lists and tuples -/
def datW : Nat → W → Bool
  | 0, _ => false
  | n + 1, w => match w with
    | .non => true
    | .bl _ => true
    | .int _ => true
    | .str _ => true
    | .tup xs => xs.all (datW n) && decide (xs.length ≤ SZ)
    | .lst xs => xs.all (datW n) && decide (xs.length ≤ SZ)
    | _ => false
theorem zipL_self : ∀ xs : List W, zipL xs xs = xs.map fun x => .tup [x, x]
  | [] => rfl
  | x :: xs => by rw [zipL, zipL_self xs]; rfl
theorem bls_map {α : Type} (f : α → Bool) : ∀ xs : List α, blsOf (xs.map fun x => W.bl (f x)) = some (xs.map f)
  | [] => rfl
  | x :: xs => by simp [bls_map f xs]
theorem bls_true (xs : List W) : blsOf (xs.map fun _ => W.bl true) = some (xs.map fun _ => true) := bls_map (fun _ => true) xs
theorem all_true {α : Type} (xs : List α) : (xs.map fun _ => true).all id = true := by simp
theorem same_refl : ∀ (n : Nat) (w : W) (G : Gs), datW n w = true → F_law_same n [w, w] G = .ok (.bl true) G
  | 0, _, _, h => by simp [datW] at h
  | n + 1, w, G, h => by
    have comp : ∀ xs : List W, xs.all (datW n) = true → xs.length ≤ SZ → ∀ ls0 : Ls, ls0.length = 4 → compL (gT 2 (gs1 (gN 2) (gs1 (gN 3) gs0))) (eC (.bl true)) (C1_law_same (F_law_same n)) ls0 (zipL xs xs) [] G = .ok (.lst (xs.map fun _ => .bl true)) G := fun xs hx hz ls0 hl => by
      match ls0, hl with
      | [a, b, c, d], _ =>
        rw [zipL_self]
        have := compL_map (gT 2 (gs1 (gN 2) (gs1 (gN 3) gs0))) (eC (.bl true)) (C1_law_same (F_law_same n)) [a, b, c, d] (fun _ => .bl true) G (xs.map fun x => .tup [x, x]) [] (fun w hw => by
          obtain ⟨x, hx', rfl⟩ := List.mem_map.mp hw
          have hd := List.all_eq_true.mp hx x hx'
          exact ⟨[a, b, some x, some x], by simp, by simp, by simp [C1_law_same, same_refl n x G hd]⟩) (by simpa using hz)
        rw [this]
        simp [List.map_map, Function.comp_def]
    cases w with
    | non => simp [F_law_same, B_law_same]
    | bl b => simp [F_law_same, B_law_same]
    | int b => simp [F_law_same, B_law_same]
    | str b => simp [F_law_same, B_law_same]
    | tup xs =>
      simp only [datW, Bool.and_eq_true, decide_eq_true_eq] at h
      have := comp xs h.1 h.2 [some (.tup xs), some (.tup xs), none, none] rfl
      have hz : xs.length ≤ 16777216 := h.2
      simp [F_law_same, B_law_same, wipeL, this, bls_true, hz]
    | lst xs =>
      simp only [datW, Bool.and_eq_true, decide_eq_true_eq] at h
      have := comp xs h.1 h.2 [some (.lst xs), some (.lst xs), none, none] rfl
      have hz : xs.length ≤ 16777216 := h.2
      simp [F_law_same, B_law_same, wipeL, this, bls_true, hz]
    | _ => simp [datW] at h

/-! ### names, numbers -/
theorem cut_drop {α : Type} (xs : List α) (n : Nat) : cut xs (some (n : Int)) none = xs.drop n := by
  unfold cut
  rw [HT.sIx_none, HT.sIx_nat]
  rcases Nat.le_total n xs.length with h | h
  · rw [Nat.min_eq_left h]
    exact List.take_of_length_le (by rw [List.length_drop]; exact Nat.le_refl _)
  · rw [Nat.min_eq_right h, List.drop_length, List.drop_of_length_le h]
    exact List.take_nil
theorem rngL_len (i : Int) (n : Nat) : (rngL i n).length = n := by simp [rngL]
theorem rngL_mem {w : W} {n : Nat} (h : w ∈ rngL 0 n) : ∃ k : Nat, k < n ∧ w = .int (k : Int) := by
  unfold rngL at h
  obtain ⟨k, hk, rfl⟩ := List.mem_map.mp h
  exact ⟨k, List.mem_range.mp hk, by simp⟩
theorem rngL_get {w : W} {n j : Nat} (h : (rngL 0 n)[j]? = some w) : j < n ∧ w = .int (j : Int) := by
  have hj : j < n := by
    have := (List.getElem?_eq_some_iff.mp h).1
    rwa [rngL_len] at this
  refine ⟨hj, ?_⟩
  unfold rngL at h
  rw [List.getElem?_map, List.getElem?_range hj] at h
  simp at h
  exact h.symm
theorem joinL_one : ∀ s : List Nat, TL.joinL [] (s.map fun c => [c]) = s
  | [] => rfl
  | [_] => rfl
  | a :: b :: r => by
    have := joinL_one (b :: r)
    simp only [List.map_cons] at this ⊢
    rw [TL.joinL, this]
    rfl
theorem strs_one : ∀ s : List Nat, strsOf (s.map fun c => W.str [c]) = some (s.map fun c => [c])
  | [] => rfl
  | a :: r => by simp [strs_one r]
theorem sum_one : ∀ s : List Nat, ((s.map fun c => [c]).map (·.length)).sum = s.length
  | [] => rfl
  | a :: r => by simp only [List.map_cons, List.sum_cons, sum_one r, List.length_cons, List.length_nil]; omega
def LET : List Nat := [97, 98, 99, 100, 101, 102, 103, 104, 105, 106, 107, 108, 109, 110, 111, 112, 113, 114, 115, 116, 117, 118, 119, 120, 121, 122]
theorem let_mem (c : Nat) : c ∈ LET ↔ 97 ≤ c ∧ c ≤ 122 := by
  unfold LET
  simp only [List.mem_cons, List.not_mem_nil, or_false]
  omega
theorem let_get : ∀ i < 26, LET[i]? = some (97 + i) := by decide
def isLet (c : Nat) : Bool := decide (c ∈ LET)
def nameB (s : List Nat) : Bool := decide (1 ≤ s.length) && decide (s.length ≤ 4) && s.all isLet
theorem all_bl {α : Type} (f : α → Bool) (xs : List α) : (xs.map f).all id = xs.all f := by
  rw [List.all_map]; rfl
theorem is_name_str (s : List Nat) (hz : s.length ≤ 1000000) (G : Gs) : F_is_name [.str s] G = .ok (.bl (nameB s)) G := by
  have comp : ∀ ls0 : Ls, ls0.length = 2 → compL (gN 1) (eC (.bl true)) C1_is_name ls0 (s.map fun c => W.str [c]) [] G = .ok (.lst (s.map fun c => .bl (isLet c))) G := fun ls0 hl => by
    match ls0, hl with
    | [a, b], _ =>
      have := compL_map (gN 1) (eC (.bl true)) C1_is_name [a, b] (fun w => match w with | .str [c] => .bl (isLet c) | _ => .non) G (s.map fun c => .str [c]) [] (fun w hw => by
        obtain ⟨c, hc, rfl⟩ := List.mem_map.mp hw
        exact ⟨[a, some (.str [c])], by simp, by simp, by simp [C1_is_name, isLet, LET]⟩) (by simp [SZ]; omega)
      rw [this]
      simp [List.map_map, Function.comp_def]
  have := comp [some (.str s), none] rfl
  have hz' : s.length ≤ 16777216 := by omega
  have hb := bls_map isLet s
  unfold nameB
  by_cases h1 : 1 ≤ s.length
  · have h1' : (1 : Int) ≤ (s.length : Int) := by omega
    by_cases h4 : s.length ≤ 4
    · have h4' : (s.length : Int) ≤ 4 := by omega
      simp [F_is_name, B_is_name, this, hz', hb, h1, h1', h4, h4', all_bl]
    · have h4' : ¬ (s.length : Int) ≤ 4 := by omega
      simp [F_is_name, B_is_name, this, hz', hb, h1, h1', h4, h4']
  · have h1' : ¬ (1 : Int) ≤ (s.length : Int) := by omega
    simp [F_is_name, B_is_name, this, hz', hb, h1, h1']
theorem is_number_int (v a b : Int) (G : Gs) : F_is_number [.int v, .int a, .int b] G = .ok (.bl (decide (a ≤ v) && decide (v ≤ b))) G := by
  by_cases h : a ≤ v <;> simp [F_is_number, B_is_number, F_is_integer, B_is_integer, h]
def nmAt (stem : List Nat) (p first k : Nat) : List Nat := stem.take p ++ ([97 + (first + 7 * k) % 26] ++ stem.drop p)
theorem stem_ok {c : Nat} {o : O} (h : BagOk c o) (hc : c ≤ 900000) (n : Nat) (hn : n ≤ 1000) (ls0 : Ls) (hl : ls0 = [some (.ref 0), x1, some (.str LET), x3, x4, x5, x6]) (R : Gs) :
    ∃ (stem : List Nat) (o' : O), compL (gN 6) (eC (.bl true)) C1_law_names ls0 (rngL 0 n) [] (o :: R) = .ok (.lst (stem.map fun c => .str [c])) (o' :: R) ∧ BagOk (c + n) o' ∧ stem.length = n ∧ (∀ x ∈ stem, isLet x = true) := by
  subst hl
  obtain ⟨acc', G', e, stem, o', rfl, rfl, hb, hl', hs⟩ := compL_inv (gN 6) (eC (.bl true)) C1_law_names [some (.ref 0), x1, some (.str LET), x3, x4, x5, x6] (fun k acc G => ∃ (s : List Nat) (o' : O), acc = (s.map fun c => W.str [c]) ∧ G = o' :: R ∧ BagOk (c + k) o' ∧ s.length = k ∧ (∀ x ∈ s, isLet x = true)) (rngL 0 n) [] 0 (o :: R) (fun j w acc G hw hp => by
    obtain ⟨s, o1, rfl, rfl, hb, hl, hs⟩ := hp
    obtain ⟨hj, rfl⟩ := rngL_get hw
    obtain ⟨k, x, o2, e, hb2, hx⟩ := any_str hb (by omega) LET (by decide) (by decide) R
    refine ⟨[some (.ref 0), x1, some (.str LET), x3, x4, x5, some (.int j)], o1 :: R, o1 :: R, .str [x], o2 :: R, by simp, by simp, by simp [C1_law_names, e], by simp [SZ]; omega, s ++ [x], o2, by simp, rfl, hb2, by simp [hl], fun y hy => ?_⟩
    rcases List.mem_append.mp hy with hy | hy
    · exact hs y hy
    · obtain rfl := List.mem_singleton.mp hy
      exact decide_eq_true (List.mem_of_getElem? hx)) ⟨[], o, rfl, rfl, h, rfl, fun _ h => absurd h List.not_mem_nil⟩
  rw [rngL_len, Nat.zero_add] at hl'
  rw [rngL_len, Nat.zero_add] at hb
  exact ⟨stem, o', e, hb, hl', hs⟩
theorem BagOk.le {c c' : Nat} {o : O} (h : BagOk c o) (hc : c ≤ c' := by omega) : BagOk c' o := h.mono hc
theorem names_ok {c : Nat} {o : O} (h : BagOk c o) (hc : c ≤ 800000) (many : Nat) (hm : many ≤ 1000) (R : Gs) :
    ∃ (stem : List Nat) (p first : Nat) (o' : O), F_law_names [.ref 0, .int (many : Int)] (o :: R) = .ok (.lst ((List.range many).map fun k => .str (nmAt stem p first k))) (o' :: R) ∧ BagOk (c + 6) o' ∧ stem.length ≤ 3 ∧ (∀ x ∈ stem, isLet x = true) ∧ p ≤ stem.length ∧ first < 26 := by
  obtain ⟨n, o1, e1, b1, n0, n1⟩ := pull_ok h (by omega) (many := 4) (by decide) (by decide) R
  obtain ⟨n, rfl⟩ : ∃ k : Nat, n = k := ⟨n.toNat, by omega⟩
  obtain ⟨stem, o2, e2, b2, l2, s2⟩ := stem_ok b1 (by omega) n (by omega) _ rfl (x1 := some (.int (many : Int))) (x3 := none) (x4 := none) (x5 := none) (x6 := none) R
  obtain ⟨p, o3, e3, b3, p0, p1⟩ := pull_ok b2 (by omega) (many := ((stem.length : Int) + 1)) (by omega) (by omega) R
  obtain ⟨p, rfl⟩ : ∃ k : Nat, p = k := ⟨p.toNat, by omega⟩
  obtain ⟨q, o4, e4, b4, q0, q1⟩ := pull_ok b3 (by omega) (many := 26) (by decide) (by decide) R
  obtain ⟨q, rfl⟩ : ∃ k : Nat, q = k := ⟨q.toNat, by omega⟩
  have last : compL (gN 6) (eC (.bl true)) C2_law_names [some (.ref 0), some (.int (many : Int)), some (.str LET), some (.str stem), some (.int p), some (.int q), none] (rngL 0 many) [] (o4 :: R) = .ok (.lst ((List.range many).map fun k => .str (nmAt stem p q k))) (o4 :: R) := by
    have := compL_map (gN 6) (eC (.bl true)) C2_law_names [some (.ref 0), some (.int (many : Int)), some (.str LET), some (.str stem), some (.int p), some (.int q), none] (fun w => match w with | .int k => .str (nmAt stem p q k.toNat) | _ => .non) (o4 :: R) (rngL 0 many) [] (fun w hw => by
      obtain ⟨k, hk, rfl⟩ := rngL_mem hw
      refine ⟨[some (.ref 0), some (.int (many : Int)), some (.str LET), some (.str stem), some (.int p), some (.int q), some (.int k)], by simp, by simp, ?_⟩
      have hmul : cMul 7 k = true := cMul_small (by decide) (by decide) (by omega) (by omega)
      have hdiv : cDiv 26 = true := by decide +kernel
      obtain ⟨i, hi, hcast, hn⟩ : ∃ i : Nat, i < 26 ∧ ((q : Int) + 7 * (k : Int)) % 26 = (i : Int) ∧ (q + 7 * k) % 26 = i := ⟨_, Nat.mod_lt _ (by decide), by omega, rfl⟩
      have hg := let_get _ hi
      have hil : i < LET.length := hi
      have hlz : LET.length ≤ 16777216 := by rw [show LET.length = 26 from rfl]; omega
      have hg' : LET[i] = 97 + i := by rw [List.getElem?_eq_getElem hil] at hg; simpa using hg
      have c1 := cut_take stem p
      have c2 := cut_drop stem p
      have z1 : stem.length ≤ 16777216 := by omega
      have z2 : min p stem.length + 1 ≤ 16777216 := by omega
      have z3 : min p stem.length + 1 + (stem.length - p) ≤ 16777216 := by omega
      simp [C2_law_names, hmul, hdiv, hcast, hn, nmAt, atI, ixN, hil, hg', c1, c2, z1, z2, z3, hlz]) (by simp [rngL_len, SZ]; omega)
    rw [this]
    simp [rngL, List.map_map, Function.comp_def]
  have hz : stem.length ≤ 16777216 := by omega
  have bn : bigI (n : Int) = true := decide_eq_true (by omega)
  have bm : bigI (many : Int) = true := decide_eq_true (by omega)
  have ss : (stem.map ((fun x : List Nat => x.length) ∘ fun c : Nat => [c])).sum = stem.length := by rw [← List.map_map]; exact sum_one stem
  refine ⟨stem, p, q, o4, ?_, b4.le, by omega, s2, by omega, by omega⟩
  have eL : [97, 98, 99, 100, 101, 102, 103, 104, 105, 106, 107, 108, 109, 110, 111, 112, 113, 114, 115, 116, 117, 118, 119, 120, 121, 122] = LET := rfl
  simp [F_law_names, B_law_names, eL, hz, e1, e2, e3, e4, bn, bm, strs_one, joinL_one, ss, last]
theorem any_strs {c : Nat} {o : O} (h : BagOk c o) (hc : c ≤ 1000000) (ts : List (List Nat)) (h1 : 0 < ts.length) (h2 : ts.length ≤ 1000000) (R : Gs) :
    ∃ (t : List Nat) (o' : O), F_law_any [.ref 0, .lst (ts.map .str)] (o :: R) = .ok (.str t) (o' :: R) ∧ BagOk (c + 1) o' ∧ t ∈ ts := by
  obtain ⟨k, x, o', e, hb, hx⟩ := any_ok h hc (ts.map .str) (by simpa using h1) (by simpa using h2) R
  rw [List.getElem?_map] at hx
  cases hk : ts[k]? with
  | none => rw [hk] at hx; simp at hx
  | some t =>
    rw [hk] at hx
    simp at hx
    subst hx
    exact ⟨t, o', e, hb, List.mem_of_getElem? hk⟩
theorem any_ints {c : Nat} {o : O} (h : BagOk c o) (hc : c ≤ 1000000) (ts : List Int) (h1 : 0 < ts.length) (h2 : ts.length ≤ 1000000) (R : Gs) :
    ∃ (t : Int) (o' : O), F_law_any [.ref 0, .lst (ts.map .int)] (o :: R) = .ok (.int t) (o' :: R) ∧ BagOk (c + 1) o' ∧ t ∈ ts := by
  obtain ⟨k, x, o', e, hb, hx⟩ := any_ok h hc (ts.map .int) (by simpa using h1) (by simpa using h2) R
  rw [List.getElem?_map] at hx
  cases hk : ts[k]? with
  | none => rw [hk] at hx; simp at hx
  | some t =>
    rw [hk] at hx
    simp at hx
    subst hx
    exact ⟨t, o', e, hb, List.mem_of_getElem? hk⟩
/-- a law's loop: the bag at slot 1 -/
def Inv (N c : Nat) (ls : Ls) (G : Gs) : Prop := ∃ o, G = [o] ∧ BagOk c o ∧ ls.length = N ∧ ls[1]? = some (some (.ref 0))
def isStr : W → Bool
  | .str _ => true
  | _ => false
end U

/-! the laws' helpers about nets -/
namespace U
open PySem
open L2
/- names of term_words: 0:term 1:factor 2:delay 3:wire -/
def B_term_words : SF :=
    (sSeq (sAsg (eVar 0) (gT 3 (gs1 (gN 1) (gs1 (gN 2) (gs1 (gN 3) gs0)))))
    (sRet (eOp addW (eLst (aCons (eCall strW (aCons (eVar 1) aNil)) (aCons (eVar 3) aNil))) (eIf (eOp gtW (eVar 2) (eC (.int 0))) (eLst (aCons (eC (.str [108, 97, 116, 101])) (aCons (eCall strW (aCons (eVar 2) aNil)) aNil))) (eLst aNil)))))
def F_term_words : Fn := mkFn 1 4 B_term_words
/- names of part_words: 0:part 1:word 2:wire 3:rest 4:found 5:at 6:term -/
def L1_part_words : SF :=
    (sAsg (eOp addW (eOp addW (eVar 4) (eIf (eOp gtW (eVar 5) (eC (.int 0))) (eLst (aCons (eC (.str [44])) aNil)) (eLst aNil))) (eFn F_term_words [] (aCons (eVar 6) aNil))) (gN 4))
def R1_part_words : SF :=
    (sRet (eVar 4))
def B_part_words : SF :=
    (sSeq (sAsg (eVar 0) (gS 2 (gs1 (gN 1) (gs1 (gN 2) (gs1 (gN 3) gs0)))))
    (sSeq (sIf (eOp eqW (eVar 1) (eC (.str [117, 115, 101]))) (sRet (eLst (aCons (eVar 2) (aCons (eC (.str [117, 115, 101])) (aCons (eOp ixW (eVar 3) (eC (.int 0))) (aStar (eOp ixW (eVar 3) (eC (.int 1))) aNil)))))) sNil)
    (sSeq (sIf (eOp neW (eVar 1) (eC (.str [109, 105, 120]))) (sRet (eLst (aCons (eVar 2) (aCons (eVar 1) (aStar (eVar 3) aNil))))) sNil)
    (sSeq (sAsg (eLst (aCons (eVar 2) (aCons (eC (.str [109, 105, 120])) aNil))) (gN 4))
    (sSeq (sFor (iEnumA (aCons (eOp ixW (eVar 3) (eC (.int 0))) aNil)) (gT 2 (gs1 (gN 5) (gs1 (gN 6) gs0)))
    L1_part_words)
    R1_part_words)))))
def F_part_words : Fn := mkFn 1 7 B_part_words
/- names of text_of: 0:parts 1:outs 2:found 3:part -/
def L1_text_of : SF :=
    (sAsg (eOp addW (eOp addW (eVar 2) (eFn F_part_words [] (aCons (eVar 3) aNil))) (eLst (aCons (eC (.str [59])) aNil))) (gN 2))
def R1_text_of : SF :=
    (sRet (eJoin (eC (.str [32])) (eLst (aStar (eVar 2) (aCons (eC (.str [62])) (aStar (eVar 1) aNil))))))
def B_text_of : SF :=
    (sSeq (sAsg (eLst aNil) (gN 2))
    (sSeq (sFor (iSeq (eVar 0)) (gN 3)
    L1_text_of)
    R1_text_of))
def F_text_of : Fn := mkFn 2 4 B_text_of
/- names of _law_mixed: 0:_law_bag_here 1:_law_things 2:_law_found 3:_law_thing -/
def L1_law_mixed : SF :=
    (sExp (mutL insF (eVar 2) (aCons (eFn F_law_pull [] (aCons (eVar 0) (aCons (eOp addW (eCall lenW (aCons (eVar 2) aNil)) (eC (.int 1))) aNil))) (aCons (eVar 3) aNil))))
def R1_law_mixed : SF :=
    (sRet (eVar 2))
def B_law_mixed : SF :=
    (sSeq (sAsg (eLstM aNil) (gN 2))
    (sSeq (sFor (iSeq (eVar 1)) (gN 3)
    L1_law_mixed)
    R1_law_mixed))
def F_law_mixed : Fn := purF (mkFn 2 4 B_law_mixed)
/- names of _law_term: 0:_law_bag_here 1:_law_earlier 2:_law_every 3:_law_factor 4:_law_delay -/
def B_law_term : SF :=
    (sSeq (sAsg (eIf (eOp gtW (eFn F_law_pull [] (aCons (eVar 0) (aCons (eC (.int 8)) aNil))) (eC (.int 0))) (eOp subW (eFn F_law_pull [] (aCons (eVar 0) (aCons (eC (.int 7)) aNil))) (eC (.int 3))) (eFn F_law_any [] (aCons (eVar 0) (aCons (eLst (aCons (eNeg (eC (.int 99))) (aCons (eC (.int 99)) (aCons (eNeg (eC (.int 10))) (aCons (eC (.int 47)) aNil))))) aNil)))) (gN 3))
    (sSeq (sAsg (eFn F_law_any [] (aCons (eVar 0) (aCons (eLst (aCons (eC (.int 0)) (aCons (eC (.int 0)) (aCons (eC (.int 0)) (aCons (eC (.int 1)) (aCons (eC (.int 1)) (aCons (eC (.int 2)) (aCons (eC (.int 3)) (aCons (eC (.int 4)) aNil))))))))) aNil))) (gN 4))
    (sSeq (sIf (eAnd (eOp eqW (eVar 4) (eC (.int 0))) (eOp neW (eVar 1) (eLst aNil))) (sRet (eTup (aCons (eVar 3) (aCons (eC (.int 0)) (aCons (eFn F_law_any [] (aCons (eVar 0) (aCons (eVar 1) aNil))) aNil))))) sNil)
    (sRet (eTup (aCons (eVar 3) (aCons (eCall maxW (aCons (eLst (aCons (eVar 4) (aCons (eC (.int 1)) aNil))) aNil)) (aCons (eFn F_law_any [] (aCons (eVar 0) (aCons (eVar 2) aNil))) aNil))))))))
def F_law_term : Fn := mkFn 3 5 B_law_term
/- names of _law_part: 0:_law_bag_here 1:_law_wire 2:_law_earlier 3:_law_every 4:_law_boxes_here 5:_law_kind 6:_law_name 7:_law_ends 8:_law_k -/
def C1_law_part : EF :=
    (eFn F_law_any [] (aCons (eVar 0) (aCons (eVar 2) aNil)))
def C2_law_part : EF :=
    (eFn F_law_term [] (aCons (eVar 0) (aCons (eVar 2) (aCons (eVar 3) aNil))))
def B_law_part : SF :=
    (sSeq (sIf (eAnd (eOp neW (eVar 4) (eLst aNil)) (eAnd (eOp neW (eVar 2) (eLst aNil)) (eOp eqW (eFn F_law_pull [] (aCons (eVar 0) (aCons (eC (.int 2)) aNil))) (eC (.int 0))))) (sSeq (sAsg (eFn F_law_any [] (aCons (eVar 0) (aCons (eVar 4) aNil))) (gT 2 (gs1 (gN 5) (gs1 (gN 6) gs0))))
    (sSeq (sAsg (eComp [8] (iRange1 (aCons (eIf (eOp eqW (eVar 5) (eC (.str [112, 97, 105, 114]))) (eC (.int 2)) (eC (.int 1))) aNil)) (gN 8) (eC (.bl true)) C1_law_part) (gN 7))
    (sRet (eCall tupleW (aCons (eOp addW (eLst (aCons (eVar 5) (aCons (eVar 1) (aCons (eVar 6) aNil)))) (eVar 7)) aNil))))) sNil)
    (sRet (eTup (aCons (eC (.str [109, 105, 120])) (aCons (eVar 1) (aCons (eCall tupleW (aCons (eComp [8] (iRange1 (aCons (eFn F_law_pull [] (aCons (eVar 0) (aCons (eC (.int 4)) aNil))) aNil)) (gN 8) (eC (.bl true)) C2_law_part) aNil)) aNil))))))
def F_law_part : Fn := mkFn 5 9 B_law_part
/- names of _law_parts: 0:_law_bag_here 1:_law_wires 2:_law_sources 3:_law_boxes_here 4:_law_found 5:_law_k 6:_law_wire -/
def C1_law_parts : EF :=
    (eTup (aCons (eC (.str [115, 111, 117, 114, 99, 101])) (aCons (eVar 6) aNil)))
def L1_law_parts : SF :=
    (sExp (mutL appF (eVar 4) (aCons (eFn F_law_part [] (aCons (eVar 0) (aCons (eOp ixW (eVar 1) (eVar 5)) (aCons (eSl (eVar 1) pNo (pSm (eVar 5))) (aCons (eVar 1) (aCons (eVar 3) aNil)))))) aNil)))
def R1_law_parts : SF :=
    (sRet (eVar 4))
def B_law_parts : SF :=
    (sSeq (sAsg (eCompM [6] (iSeq (eSl (eVar 1) pNo (pSm (eVar 2)))) (gN 6) (eC (.bl true)) C1_law_parts) (gN 4))
    (sSeq (sFor (iRange2 (aCons (eVar 2) (aCons (eCall lenW (aCons (eVar 1) aNil)) aNil))) (gN 5)
    L1_law_parts)
    R1_law_parts))
def F_law_parts : Fn := purF (mkFn 4 7 B_law_parts)
/- names of _law_boxes: 0:_law_bag_here 1:_law_words_here 2:_law_word -/
def C1_law_boxes : EF :=
    (eTup (aCons (eFn F_law_any [] (aCons (eVar 0) (aCons (eLst (aCons (eC (.str [112, 108, 97, 105, 110])) (aCons (eC (.str [111, 100, 100])) (aCons (eC (.str [107, 101, 101, 112])) (aCons (eC (.str [112, 97, 105, 114])) aNil))))) aNil))) (aCons (eVar 2) aNil)))
def B_law_boxes : SF :=
    (sRet (eComp [2] (iSeq (eVar 1)) (gN 2) (eC (.bl true)) C1_law_boxes))
def F_law_boxes : Fn := mkFn 2 3 B_law_boxes
/- names of _law_part_words: 0:_law_part_here 1:_law_found 2:_law_at 3:_law_term_here -/
def L1_law_part_words : SF :=
    (sAsg (eOp addW (eOp addW (eOp addW (eVar 1) (eIf (eOp gtW (eVar 2) (eC (.int 0))) (eLst (aCons (eC (.str [44])) aNil)) (eLst aNil))) (eLst (aCons (eCall strW (aCons (eOp ixW (eVar 3) (eC (.int 0))) aNil)) (aCons (eOp ixW (eVar 3) (eC (.int 2))) aNil)))) (eIf (eOp gtW (eOp ixW (eVar 3) (eC (.int 1))) (eC (.int 0))) (eLst (aCons (eC (.str [108, 97, 116, 101])) (aCons (eCall strW (aCons (eOp ixW (eVar 3) (eC (.int 1))) aNil)) aNil))) (eLst aNil))) (gN 1))
def R1_law_part_words : SF :=
    (sRet (eVar 1))
def B_law_part_words : SF :=
    (sSeq (sIf (eOp eqW (eOp ixW (eVar 0) (eC (.int 0))) (eC (.str [117, 115, 101]))) (sRet (eOp addW (eLst (aCons (eOp ixW (eVar 0) (eC (.int 1))) (aCons (eC (.str [117, 115, 101])) (aCons (eOp ixW (eVar 0) (eC (.int 2))) aNil)))) (eCall listW (aCons (eOp ixW (eVar 0) (eC (.int 3))) aNil)))) sNil)
    (sSeq (sIf (eOp neW (eOp ixW (eVar 0) (eC (.int 0))) (eC (.str [109, 105, 120]))) (sRet (eOp addW (eLst (aCons (eOp ixW (eVar 0) (eC (.int 1))) (aCons (eOp ixW (eVar 0) (eC (.int 0))) aNil))) (eCall listW (aCons (eSl (eVar 0) (pSm (eC (.int 2))) pNo) aNil)))) sNil)
    (sSeq (sAsg (eLst (aCons (eOp ixW (eVar 0) (eC (.int 1))) (aCons (eC (.str [109, 105, 120])) aNil))) (gN 1))
    (sSeq (sFor (iEnumA (aCons (eOp ixW (eVar 0) (eC (.int 2))) aNil)) (gT 2 (gs1 (gN 2) (gs1 (gN 3) gs0)))
    L1_law_part_words)
    R1_law_part_words))))
def F_law_part_words : Fn := mkFn 1 4 B_law_part_words
/- names of _law_words: 0:_law_parts_z 1:_law_outs_z 2:_law_found 3:_law_part_here -/
def L1_law_words : SF :=
    (sAsg (eOp addW (eOp addW (eVar 2) (eFn F_law_part_words [] (aCons (eVar 3) aNil))) (eLst (aCons (eC (.str [59])) aNil))) (gN 2))
def R1_law_words : SF :=
    (sRet (eOp addW (eOp addW (eVar 2) (eLst (aCons (eC (.str [62])) aNil))) (eCall listW (aCons (eVar 1) aNil))))
def B_law_words : SF :=
    (sSeq (sAsg (eLst aNil) (gN 2))
    (sSeq (sFor (iSeq (eVar 0)) (gN 3)
    L1_law_words)
    R1_law_words))
def F_law_words : Fn := mkFn 2 4 B_law_words
end U

/-! more facts about the helpers: shuffles -/
namespace U
open PySem
open L2
theorem pureWs_all : ∀ xs : List W, pureW.pureWs xs = xs.all pureW
  | [] => rfl
  | x :: r => by
    show (pureW x && pureW.pureWs r) = _
    rw [pureWs_all r]
    rfl
mutual
theorem rs_pure {h : Nat → Option W} : ∀ (w : W), pureW w = true → rsW h w = some w
  | .non, _ => rfl
  | .bl _, _ => rfl
  | .int _, _ => rfl
  | .str _, _ => rfl
  | .ty _, _ => rfl
  | .cls _, _ => rfl
  | .ref i, q => by simp [pureW] at q
  | .tup xs, q => by simp only [rsW]; rw [rs_pures xs q]; rfl
  | .lst xs, q => by simp only [rsW]; rw [rs_pures xs q]; rfl
  | .fz xs, q => by simp only [rsW]; rw [rs_pures xs q]; rfl
  | .dic xs, q => by simp only [rsW]; rw [rs_pures xs q]; rfl
  | .obj _ xs, q => by simp only [rsW]; rw [rs_pures xs q]; rfl
theorem rs_pures {h : Nat → Option W} : ∀ (ws : List W), pureW.pureWs ws = true → rsWs h ws = some ws
  | [], _ => rfl
  | x :: r, q => by
    have q : (pureW x && pureW.pureWs r) = true := q
    rw [Bool.and_eq_true] at q
    simp only [rsWs]
    rw [rs_pure x q.1, rs_pures r q.2]
end
mutual
theorem low_pure {n : Nat} : ∀ (w : W), pureW w = true → lowW n w = true
  | .non, _ => rfl
  | .bl _, _ => rfl
  | .int _, _ => rfl
  | .str _, _ => rfl
  | .ty _, _ => rfl
  | .cls _, _ => rfl
  | .ref i, q => by simp [pureW] at q
  | .tup xs, q => low_pures xs q
  | .lst xs, q => low_pures xs q
  | .fz xs, q => low_pures xs q
  | .dic xs, q => low_pures xs q
  | .obj _ xs, q => low_pures xs q
theorem low_pures {n : Nat} : ∀ (ws : List W), pureW.pureWs ws = true → lowW.lowWs n ws = true
  | [], _ => rfl
  | x :: r, q => by
    have q : (pureW x && pureW.pureWs r) = true := q
    rw [Bool.and_eq_true] at q
    show (lowW n x && lowW.lowWs n r) = true
    rw [low_pure x q.1, low_pures r q.2]
    rfl
end
theorem pure_ints : ∀ ns : List Int, pureW.pureWs (ns.map .int) = true
  | [] => rfl
  | _ :: r => by
    show (true && pureW.pureWs (r.map .int)) = true
    rw [pure_ints r]
    rfl
theorem pure_strs : ∀ ns : List (List Nat), pureW.pureWs (ns.map .str) = true
  | [] => rfl
  | _ :: r => by
    show (true && pureW.pureWs (r.map .str)) = true
    rw [pure_strs r]
    rfl
theorem BagOk.low {c n : Nat} {o : O} (h : BagOk c o) : lowO n o = true := by
  obtain ⟨cells, spot, rest, seed, cnt, rfl, _⟩ := h
  unfold bag lowO
  refine low_pures _ ?_
  show (pureW (.lst (cells.map .int)) && _) = true
  rw [show pureW (.lst (cells.map .int)) = true from pure_ints cells]
  rfl
/-- what purF makes of one bag and locals behind it -/
theorem pur_bag {F : Fn} {ws : List W} {o o' : O} {c : Nat} {w w' : W} {L : Gs} (e : F ws [o] = .ok w (o' :: L)) (h : BagOk c o') (r : rsW (rsH 1 (o' :: L) 3) w = some w') : purF F ws [o] = .ok w' [o'] := by
  have hm : mixG 1 [o] (o' :: L) = true := by
    show ((beqO o o' || lowO 1 o') && true) = true
    rw [h.low, Bool.or_true]
    rfl
  unfold purF
  rw [e]
  simp only [List.length_cons, List.length_nil, Nat.zero_add, hm, if_true, r, List.take_succ_cons, List.take_zero]
theorem ins_perm {α : Type} {ys xs : List α} {y : α} {k : Nat} (h : ys.Perm xs) : (ys.take k ++ [y] ++ ys.drop k).Perm (xs ++ [y]) := by
  have h1 : (ys.take k ++ [y] ++ ys.drop k).Perm (y :: ys) := by
    rw [List.append_assoc]
    have := @List.perm_middle α y (ys.take k) (ys.drop k)
    rw [List.take_append_drop] at this
    exact this
  exact h1.trans ((List.perm_cons y |>.mpr h).trans (List.perm_append_singleton y xs).symm)
theorem mixed_ok {c : Nat} {o : O} (h : BagOk c o) (xs : List W) (hp : pureW.pureWs xs = true) (hx : xs.length ≤ 100000) (hc : c + xs.length ≤ 900000) :
    ∃ (ys : List W) (o' : O), F_law_mixed [.ref 0, .lst xs] [o] = .ok (.lst ys) [o'] ∧ BagOk (c + xs.length) o' ∧ ys.Perm xs := by
  obtain ⟨ls', G', e, x3, ys, o', rfl, rfl, hb, hperm⟩ := forL_inv (gN 3) L1_law_mixed (fun k ls G => ∃ (x3 : Option W) (ys : List W) (o' : O), ls = [some (.ref 0), some (.lst xs), some (.ref 1), x3] ∧ G = [o', .lst ys] ∧ BagOk (c + k) o' ∧ ys.Perm (xs.take k)) xs 0
    [some (.ref 0), some (.lst xs), some (.ref 1), none] [o, .lst []] (fun j w ls G hw hI => by
      obtain ⟨x3, ys, o1, rfl, rfl, hb, hperm⟩ := hI
      have hj : j < xs.length := (List.getElem?_eq_some_iff.mp hw).1
      have hlen : ys.length = j := by rw [hperm.length_eq, List.length_take]; omega
      obtain ⟨r, o2, e, hb2, r0, r1⟩ := pull_ok hb (by omega) (many := (ys.length : Int) + 1) (by omega) (by omega) [.lst ys]
      have hz : ys.length < 16777216 := by omega
      have r2 : r < 16777216 := by omega
      refine ⟨[some (.ref 0), some (.lst xs), some (.ref 1), some w], [o1, .lst ys], [some (.ref 0), some (.lst xs), some (.ref 1), some w], [o2, .lst (ys.take r.toNat ++ [w] ++ ys.drop r.toNat)], by simp, .inl ?_, some w, _, o2, rfl, rfl, hb2, ?_⟩
      · simp [L1_law_mixed, e, hz, r0, r2]
      · have e1 : xs.take (0 + j + 1) = xs.take (0 + j) ++ [w] := by
          rw [Nat.zero_add, List.take_succ, hw]
          rfl
        rw [e1]
        exact ins_perm hperm) ⟨none, [], o, rfl, rfl, h, by simp⟩
  rw [Nat.zero_add] at hb hperm
  rw [List.take_length] at hperm
  have hpy : pureW.pureWs ys = true := by
    rw [pureWs_all] at hp ⊢
    exact List.all_eq_true.mpr fun w hw => List.all_eq_true.mp hp w (hperm.mem_iff.mp hw)
  refine ⟨ys, o', ?_, hb, hperm⟩
  refine pur_bag (w := .ref 1) (L := [.lst ys]) ?_ hb ?_
  · simp [B_law_mixed, e, R1_law_mixed]
  · simp only [rsW]
    show (rsWs _ ys).map W.lst = _
    rw [rs_pures ys hpy]
    rfl
/-- a comprehension that draws: each item by at most k draws -/
theorem draws_okB (B : Nat) {c k : Nat} {o : O} (P : W → Prop) (g : TF) (fe : EF) (ls0 : Ls) (items : List W) (R : Gs) (h : BagOk c o) (hz : items.length ≤ 100000) (hc : c + k * items.length ≤ B)
    (hs : ∀ w ∈ items, ∀ (c : Nat) (o : O), BagOk c o → c ≤ B → ∃ (ls1 : Ls) (t : W) (o' : O), g w ls0 (o :: R) = .nx ls1 (o :: R) ∧ fe ls1 (o :: R) = .ok t (o' :: R) ∧ BagOk (c + k) o' ∧ P t) :
    ∃ (ts : List W) (o' : O), compL g (eC (.bl true)) fe ls0 items [] (o :: R) = .ok (.lst ts) (o' :: R) ∧ BagOk (c + k * items.length) o' ∧ ts.length = items.length ∧ ∀ t ∈ ts, P t := by
  obtain ⟨acc', G', e, o', rfl, hb, hl, hP⟩ := compL_inv g (eC (.bl true)) fe ls0 (fun j acc G => ∃ o' : O, G = o' :: R ∧ (j ≤ items.length → BagOk (c + k * j) o') ∧ acc.length = j ∧ ∀ t ∈ acc, P t) items [] 0 (o :: R) (fun j w acc G hw hI => by
    obtain ⟨o1, rfl, hb, hl, hP⟩ := hI
    rw [Nat.zero_add] at hb hl ⊢
    have hj : j < items.length := (List.getElem?_eq_some_iff.mp hw).1
    have hkj : k * j ≤ k * items.length := Nat.mul_le_mul_left k (by omega)
    obtain ⟨ls1, t, o2, e1, e2, b2, p⟩ := hs w (List.mem_of_getElem? hw) _ _ (hb (by omega)) (by omega)
    refine ⟨ls1, o1 :: R, o1 :: R, t, o2 :: R, e1, by simp, e2, by simp [SZ]; omega, o2, rfl, fun _ => ?_, by simp [hl], fun x hx => ?_⟩
    · rw [Nat.mul_succ, ← Nat.add_assoc]
      exact b2
    · rcases List.mem_append.mp hx with hx | hx
      · exact hP x hx
      · rw [List.mem_singleton.mp hx]; exact p) ⟨o, rfl, fun _ => h, rfl, fun _ h => absurd h List.not_mem_nil⟩
  rw [Nat.zero_add] at hb hl
  exact ⟨acc', o', e, hb (Nat.le_refl _), hl, hP⟩
/-- a comprehension that draws: each item by at most k draws -/
theorem draws_ok {c k : Nat} {o : O} (P : W → Prop) (g : TF) (fe : EF) (ls0 : Ls) (items : List W) (R : Gs) (h : BagOk c o) (hz : items.length ≤ 100000) (hc : c + k * items.length ≤ 900000)
    (hs : ∀ w ∈ items, ∀ (c : Nat) (o : O), BagOk c o → c ≤ 900000 → ∃ (ls1 : Ls) (t : W) (o' : O), g w ls0 (o :: R) = .nx ls1 (o :: R) ∧ fe ls1 (o :: R) = .ok t (o' :: R) ∧ BagOk (c + k) o' ∧ P t) :
    ∃ (ts : List W) (o' : O), compL g (eC (.bl true)) fe ls0 items [] (o :: R) = .ok (.lst ts) (o' :: R) ∧ BagOk (c + k * items.length) o' ∧ ts.length = items.length ∧ ∀ t ∈ ts, P t :=
  draws_okB 900000 P g fe ls0 items R h hz hc hs
theorem strs_of {ts : List W} {vs : List (List Nat)} (h : ∀ t ∈ ts, ∃ s, t = .str s ∧ s ∈ vs) : ∃ ss : List (List Nat), ts = ss.map .str ∧ ∀ s ∈ ss, s ∈ vs := by
  induction ts with
  | nil => exact ⟨[], rfl, fun _ h => absurd h List.not_mem_nil⟩
  | cons t r ih =>
    obtain ⟨s, rfl, hs⟩ := h t List.mem_cons_self
    obtain ⟨ss, rfl, h2⟩ := ih fun x hx => h x (List.mem_cons_of_mem _ hx)
    exact ⟨s :: ss, rfl, fun x hx => by
      rcases List.mem_cons.mp hx with rfl | hx
      · exact hs
      · exact h2 x hx⟩
end U

/-! drawn nets: their shape, and their words -/
namespace U
open PySem
open L2
def NameW (w : List Nat) : Prop := nameB w = true
theorem NameW.sp {w : List Nat} (h : NameW w) : 1 ≤ w.length ∧ w.length ≤ 4 ∧ ∀ c ∈ w, 97 ≤ c ∧ c ≤ 122 := by
  unfold NameW nameB at h
  simp only [Bool.and_eq_true, decide_eq_true_eq, List.all_eq_true] at h
  exact ⟨h.1.1, h.1.2, fun c hc => (let_mem c).mp (of_decide_eq_true (h.2 c hc))⟩
theorem NameW.l30 {w : List Nat} (h : NameW w) : w.length ≤ 30 := by have := h.sp.2.1; omega
theorem NameW.lt {w : List Nat} (h : NameW w) : ∀ c ∈ w, c < 1114112 := fun c hc => by have := h.sp.2.2 c hc; omega
inductive TermW : W → Prop
  | mk (f d : Int) (w : List Nat) : -99 ≤ f → f ≤ 99 → 0 ≤ d → d ≤ 4 → NameW w → TermW (.tup [.int f, .int d, .str w])
def ShortL (ws : List (List Nat)) : Prop := ws.length ≤ 50 ∧ ∀ w ∈ ws, NameW w
abbrev sSOURCE : List Nat := [115, 111, 117, 114, 99, 101]
abbrev sMIX : List Nat := [109, 105, 120]
abbrev sUSE : List Nat := [117, 115, 101]
abbrev sPLAIN : List Nat := [112, 108, 97, 105, 110]
abbrev sODD : List Nat := [111, 100, 100]
abbrev sKEEP : List Nat := [107, 101, 101, 112]
abbrev sPAIR : List Nat := [112, 97, 105, 114]
def KINDS : List (List Nat) := [sPLAIN, sODD, sKEEP, sPAIR]
def cntK (k : List Nat) : Nat := if k = sPAIR then 2 else 1
inductive PartW : W → Prop
  | src (w : List Nat) : NameW w → PartW (.tup [.str sSOURCE, .str w])
  | box (k w n : List Nat) (ends : List (List Nat)) : k ∈ KINDS → NameW w → NameW n → ShortL ends → ends.length = cntK k → PartW (.tup (.str k :: .str w :: .str n :: ends.map .str))
  | mix (w : List Nat) (ts : List W) : NameW w → ts.length ≤ 6 → (∀ t ∈ ts, TermW t) → PartW (.tup [.str sMIX, .str w, .tup ts])
  | use (w n : List Nat) (ends : List (List Nat)) : NameW w → NameW n → ShortL ends → ends.length ≤ 4 → PartW (.tup [.str sUSE, .str w, .str n, .tup (ends.map .str)])
theorem any_names {c : Nat} {o : O} (h : BagOk c o) (hc : c ≤ 1000000) {ts : List (List Nat)} (hs : ShortL ts) (h1 : 0 < ts.length) (R : Gs) :
    ∃ (t : List Nat) (o' : O), F_law_any [.ref 0, .lst (ts.map .str)] (o :: R) = .ok (.str t) (o' :: R) ∧ BagOk (c + 1) o' ∧ t ∈ ts ∧ NameW t := by
  obtain ⟨t, o', e, b, m⟩ := any_strs h hc ts h1 (by have := hs.1; omega) R
  exact ⟨t, o', e, b, m, hs.2 t m⟩
theorem sh_names {n : Nat} {ts : List (List Nat)} (h : ∀ w ∈ ts, NameW w) : shW (n + 1) (.lst (ts.map .str)) = true := by
  simp only [shW]
  rw [shWs_all, List.all_map]
  refine List.all_eq_true.mpr fun w hw => ?_
  show shW n (.str w) = true
  cases n <;> (simp only [shW]; exact strOk_lt (h w hw).lt)
theorem eqD_nil (ts : List (List Nat)) : eqD (.lst (ts.map .str)) (.lst []) = decide (ts = []) := by
  cases ts <;> simp [eqD, eqDs]
theorem ne_nil {ts : List (List Nat)} (h : ∀ w ∈ ts, NameW w) (G : Gs) : neW (.lst (ts.map .str)) (.lst []) G = .ok (.bl (!decide (ts = []))) G := by
  rw [neW_D (sh_names h) (by rfl), eqD_nil]
/-- one of some, named -/
theorem any_in {c : Nat} {o : O} (h : BagOk c o) (hc : c ≤ 1000000) (xs : List W) (h1 : 0 < xs.length) (h2 : xs.length ≤ 1000000) (R : Gs) :
    ∃ (x : W) (o' : O), F_law_any [.ref 0, .lst xs] (o :: R) = .ok x (o' :: R) ∧ BagOk (c + 1) o' ∧ x ∈ xs := by
  obtain ⟨k, x, o', e, b, hx⟩ := any_ok h hc xs h1 h2 R
  exact ⟨x, o', e, b, List.mem_of_getElem? hx⟩
theorem term_ok {c : Nat} {o : O} (h : BagOk c o) (hc : c ≤ 900000) {es vs : List (List Nat)} (hes : ShortL es) (hvs : ShortL vs) (hne : 0 < vs.length) (R : Gs) :
    ∃ (t : W) (o' : O), F_law_term [.ref 0, .lst (es.map .str), .lst (vs.map .str)] (o :: R) = .ok t (o' :: R) ∧ BagOk (c + 4) o' ∧ TermW t := by
  obtain ⟨r, o1, e1, b1, r0, r1⟩ := pull_ok h (by omega) (many := 8) (by decide) (by decide) R
  have fac : ∃ (f : Int) (o2 : O), (if 0 < r then (F_law_pull [.ref 0, .int 7] (o1 :: R)).bind fun a G1 => subW a (.int 3) G1 else F_law_any [.ref 0, .lst [.int (-99), .int 99, .int (-10), .int 47]] (o1 :: R)) = .ok (.int f) (o2 :: R) ∧ BagOk (c + 2) o2 ∧ -99 ≤ f ∧ f ≤ 99 := by
    by_cases hr : 0 < r
    · obtain ⟨f, o2, e2, b2, f0, f1⟩ := pull_ok b1 (by omega) (many := 7) (by decide) (by decide) R
      exact ⟨f - 3, o2, by simp [hr, e2], b2, by omega, by omega⟩
    · obtain ⟨f, o2, e2, b2, hf⟩ := any_ints b1 (by omega) [-99, 99, -10, 47] (by decide) (by decide) R
      refine ⟨f, o2, by simp only [if_neg hr]; exact e2, b2, ?_⟩
      simp only [List.mem_cons, List.not_mem_nil, or_false] at hf
      omega
  obtain ⟨f, o2, e2, b2, f0, f1⟩ := fac
  obtain ⟨d, o3, e3, b3, hd⟩ := any_ints b2 (by omega) [0, 0, 0, 1, 1, 2, 3, 4] (by decide) (by decide) R
  simp only [List.map_cons, List.map_nil] at e3
  have d1 : 0 ≤ d ∧ d ≤ 4 := by
    simp only [List.mem_cons, List.not_mem_nil, or_false] at hd
    omega
  have nn := ne_nil hes.2 (o3 :: R)
  by_cases hd0 : d = 0 ∧ es ≠ []
  · obtain ⟨rfl, hes0⟩ := hd0
    obtain ⟨w, o4, e4, b4, _, hw⟩ := any_names b3 (by omega) hes (List.length_pos_iff.mpr hes0) R
    refine ⟨_, o4, ?_, b4, .mk f 0 w f0 f1 (by omega) (by omega) hw⟩
    simp [F_law_term, B_law_term, e1, e2, e3, nn, -neW, hes0, e4]
  · obtain ⟨w, o4, e4, b4, _, hw⟩ := any_names b3 (by omega) hvs hne R
    have hm : 0 ≤ maxL [d, 1] ∧ maxL [d, 1] ≤ 4 := by
      show 0 ≤ (if (1 : Int) ≤ d then d else 1) ∧ (if (1 : Int) ≤ d then d else 1) ≤ 4
      split <;> omega
    refine ⟨_, o4, ?_, b4, .mk f (maxL [d, 1]) w f0 f1 hm.1 (by omega) hw⟩
    have hd1 : d = 0 → es = [] := fun e => Classical.byContradiction fun n => hd0 ⟨e, n⟩
    by_cases z : d = 0
    · have := hd1 z
      subst z this
      have nn' : neW (.lst []) (.lst []) (o3 :: R) = .ok (.bl false) (o3 :: R) := by simpa using nn
      simp [F_law_term, B_law_term, e1, e2, e3, nn', -neW, e4]
    · simp [F_law_term, B_law_term, e1, e2, e3, nn, -neW, z, e4]
def boxW (b : List Nat × List Nat) : W := .tup [.str b.1, .str b.2]
def BoxL (bs : List (List Nat × List Nat)) : Prop := bs.length ≤ 50 ∧ ∀ b ∈ bs, b.1 ∈ KINDS ∧ NameW b.2
theorem kind_name {k : List Nat} (h : k ∈ KINDS) : k.length ≤ 30 ∧ ∀ c ∈ k, c < 1114112 := by
  have : ∀ k ∈ KINDS, k.length ≤ 30 ∧ ∀ c ∈ k, c < 1114112 := by decide
  exact this k h
theorem ne_boxes {bs : List (List Nat × List Nat)} (h : BoxL bs) (G : Gs) : neW (.lst (bs.map boxW)) (.lst []) G = .ok (.bl (!decide (bs = []))) G := by
  rw [neW_D ?_ (by rfl)]
  · cases bs <;> simp [eqD, eqDs]
  · simp only [shW]
    rw [shWs_all, List.all_map]
    refine List.all_eq_true.mpr fun b hb => ?_
    have h1 := strOk_lt (kind_name (h.2 b hb).1).2
    have h2 := strOk_lt (h.2 b hb).2.lt
    simp [boxW, shW, shWs, h1, h2]
theorem terms_ok {c : Nat} {o : O} (h : BagOk c o) (hc : c ≤ 800000) {es vs : List (List Nat)} (hes : ShortL es) (hvs : ShortL vs) (hne : 0 < vs.length) (n : Nat) (hn : n ≤ 10) (x1 x4 x5 x6 x7 x8 : Option W) (R : Gs) :
    ∃ (ts : List W) (o' : O), compL (gN 8) (eC (.bl true)) C2_law_part [some (.ref 0), x1, some (.lst (es.map .str)), some (.lst (vs.map .str)), x4, x5, x6, x7, x8] (rngL 0 n) [] (o :: R) = .ok (.lst ts) (o' :: R) ∧ BagOk (c + 40) o' ∧ ts.length = n ∧ ∀ t ∈ ts, TermW t := by
  obtain ⟨ts, o', e, b, l, p⟩ := draws_ok (k := 4) TermW (gN 8) C2_law_part [some (.ref 0), x1, some (.lst (es.map .str)), some (.lst (vs.map .str)), x4, x5, x6, x7, x8] (rngL 0 n) R h (by rw [rngL_len]; omega) (by rw [rngL_len]; omega) (fun w hw c o hb hc => by
    obtain ⟨t, o', e, b, p⟩ := term_ok hb hc hes hvs hne R
    exact ⟨[some (.ref 0), x1, some (.lst (es.map .str)), some (.lst (vs.map .str)), x4, x5, x6, x7, some w], t, o', by simp, by simp [C2_law_part, e], b, p⟩)
  rw [rngL_len] at b l
  exact ⟨ts, o', e, b.le, l, p⟩
theorem ends_ok {c : Nat} {o : O} (h : BagOk c o) (hc : c ≤ 800000) {es : List (List Nat)} (hes : ShortL es) (hne : 0 < es.length) (n : Nat) (hn : n ≤ 10) (x1 x3 x4 x5 x6 x7 x8 : Option W) (R : Gs) :
    ∃ (ss : List (List Nat)) (o' : O), compL (gN 8) (eC (.bl true)) C1_law_part [some (.ref 0), x1, some (.lst (es.map .str)), x3, x4, x5, x6, x7, x8] (rngL 0 n) [] (o :: R) = .ok (.lst (ss.map .str)) (o' :: R) ∧ BagOk (c + 10) o' ∧ ss.length = n ∧ ∀ s ∈ ss, s ∈ es := by
  obtain ⟨ts, o', e, b, l, p⟩ := draws_ok (k := 1) (fun t => ∃ s, t = .str s ∧ s ∈ es) (gN 8) C1_law_part [some (.ref 0), x1, some (.lst (es.map .str)), x3, x4, x5, x6, x7, x8] (rngL 0 n) R h (by rw [rngL_len]; omega) (by rw [rngL_len]; omega) (fun w hw c o hb hc => by
    obtain ⟨t, o', e, b, m, _⟩ := any_names hb (by omega) hes hne R
    exact ⟨[some (.ref 0), x1, some (.lst (es.map .str)), x3, x4, x5, x6, x7, some w], .str t, o', by simp, by simp [C1_law_part, e], b, t, rfl, m⟩)
  rw [rngL_len] at b l
  obtain ⟨ss, rfl, hss⟩ := strs_of p
  exact ⟨ss, o', e, b.le, by simpa using l, hss⟩
theorem part_ok {c : Nat} {o : O} (h : BagOk c o) (hc : c ≤ 700000) {wire : List Nat} {es vs : List (List Nat)} {bs : List (List Nat × List Nat)} (hw : NameW wire) (hes : ShortL es) (hvs : ShortL vs) (hne : 0 < vs.length) (hbs : BoxL bs) (R : Gs) :
    ∃ (t : W) (o' : O), F_law_part [.ref 0, .str wire, .lst (es.map .str), .lst (vs.map .str), .lst (bs.map boxW)] (o :: R) = .ok t (o' :: R) ∧ BagOk (c + 50) o' ∧ PartW t := by
  have n1 := fun G => ne_boxes hbs G
  have n2 := fun G => ne_nil hes.2 G
  have mix : ∀ (c' : Nat) (o1 : O), BagOk c' o1 → c' ≤ c + 1 → ∃ (n : Int) (ts : List W) (o2 o3 : O), F_law_pull [.ref 0, .int 4] (o1 :: R) = .ok (.int n) (o2 :: R) ∧ bigI n = true ∧
      compL (gN 8) (eC (.bl true)) C2_law_part [some (.ref 0), some (.str wire), some (.lst (es.map .str)), some (.lst (vs.map .str)), some (.lst (bs.map boxW)), none, none, none, none] (rngL 0 n.toNat) [] (o2 :: R) = .ok (.lst ts) (o3 :: R) ∧ BagOk (c + 50) o3 ∧ PartW (.tup [.str sMIX, .str wire, .tup ts]) := fun c' o1 b1 hc' => by
    obtain ⟨n, o2, e2, b2, n0, n1⟩ := pull_ok b1 (by omega) (many := 4) (by decide) (by decide) R
    obtain ⟨ts, o3, e3, b3, l3, p3⟩ := terms_ok b2 (by omega) hes hvs hne n.toNat (by omega) (some (.str wire)) (some (.lst (bs.map boxW))) none none none none R
    exact ⟨n, ts, o2, o3, e2, decide_eq_true (by omega), e3, b3.le, .mix wire ts hw (by omega) p3⟩
  by_cases hz : bs ≠ [] ∧ es ≠ []
  · obtain ⟨r, o1, e1, b1, r0, r1⟩ := pull_ok h (by omega) (many := 2) (by decide) (by decide) R
    by_cases hr : r = 0
    · subst hr
      obtain ⟨x, o2, e2, b2, hx⟩ := any_in b1 (by omega) (bs.map boxW) (by simpa using List.length_pos_iff.mpr hz.1) (by have := hbs.1; simp; omega) R
      obtain ⟨b, hb, rfl⟩ := List.mem_map.mp hx
      have hbb := hbs.2 b hb
      have hl := List.length_pos_iff.mpr hz.2
      by_cases hk : b.1 = [112, 97, 105, 114]
      · obtain ⟨ss, o3, e3, b3, l3, p3⟩ := ends_ok b2 (by omega) hes hl 2 (by decide) (some (.str wire)) (some (.lst (vs.map .str))) (some (.lst (bs.map boxW))) (some (.str b.1)) (some (.str b.2)) none none R
        refine ⟨_, o3, ?_, b3.le, .box b.1 wire b.2 ss hbb.1 hw hbb.2 ⟨by omega, fun w hw => hes.2 w (p3 w hw)⟩ (by simp [cntK, hk, l3])⟩
        rw [hk] at e3 ⊢
        have h2 : bigI 2 = true := rfl
        have hz2 : ss.length + 3 ≤ 16777216 := by omega
        have hz3 : 3 + ss.length ≤ 16777216 := by omega
        simp [F_law_part, B_law_part, n1, n2, -neW, hz.1, hz.2, e1, e2, boxW, hk, h2, e3, hz2, hz3]
      · obtain ⟨ss, o3, e3, b3, l3, p3⟩ := ends_ok b2 (by omega) hes hl 1 (by decide) (some (.str wire)) (some (.lst (vs.map .str))) (some (.lst (bs.map boxW))) (some (.str b.1)) (some (.str b.2)) none none R
        refine ⟨_, o3, ?_, b3.le, .box b.1 wire b.2 ss hbb.1 hw hbb.2 ⟨by omega, fun w hw => hes.2 w (p3 w hw)⟩ (by simp [cntK, hk, l3])⟩
        have h2 : bigI 1 = true := rfl
        have hz2 : ss.length + 3 ≤ 16777216 := by omega
        have hz3 : 3 + ss.length ≤ 16777216 := by omega
        simp [F_law_part, B_law_part, n1, n2, -neW, hz.1, hz.2, e1, e2, boxW, hk, h2, e3, hz2, hz3]
    · obtain ⟨n, ts, o2, o3, e2, hbn, e3, b', p⟩ := mix _ o1 b1 (by omega)
      refine ⟨_, o3, ?_, b', p⟩
      simp [F_law_part, B_law_part, n1, n2, -neW, hz.1, hz.2, e1, hr, e2, hbn, e3]
  · obtain ⟨n, ts, o2, o3, e2, hbn, e3, b', p⟩ := mix _ o h (by omega)
    refine ⟨_, o3, ?_, b', p⟩
    by_cases hb : bs = []
    · subst hb
      have n1' : ∀ G, neW (.lst []) (.lst []) G = .ok (.bl false) G := fun G => by simpa using n1 G
      have e3' : compL (gN 8) (eC (.bl true)) C2_law_part [some (.ref 0), some (.str wire), some (.lst (es.map .str)), some (.lst (vs.map .str)), some (.lst []), none, none, none, none] (rngL 0 n.toNat) [] (o2 :: R) = .ok (.lst ts) (o3 :: R) := e3
      simp [F_law_part, B_law_part, n1', -neW, e2, hbn, e3']
    · have he : es = [] := Classical.byContradiction fun q => hz ⟨hb, q⟩
      subst he
      have n2' : ∀ G, neW (.lst []) (.lst []) G = .ok (.bl false) G := fun G => by simpa using n2 G
      have e3' : compL (gN 8) (eC (.bl true)) C2_law_part [some (.ref 0), some (.str wire), some (.lst []), some (.lst (vs.map .str)), some (.lst (bs.map boxW)), none, none, none, none] (rngL 0 n.toNat) [] (o2 :: R) = .ok (.lst ts) (o3 :: R) := e3
      simp [F_law_part, B_law_part, n1, n2', -neW, hb, e2, hbn, e3']
theorem pure_term {t : W} (h : TermW t) : pureW t = true := by cases h; rfl
theorem pure_part {t : W} (h : PartW t) : pureW t = true := by
  cases h with
  | src w _ => rfl
  | box k w n ends _ _ _ _ _ =>
    show (true && (true && (true && pureW.pureWs (ends.map .str)))) = true
    rw [pure_strs]; rfl
  | mix w ts _ _ h =>
    show (true && (true && (pureW.pureWs ts && true))) = true
    rw [pureWs_all, List.all_eq_true.mpr fun t ht => pure_term (h t ht)]; rfl
  | use w n ends _ _ _ _ =>
    show (true && (true && (true && (pureW.pureWs (ends.map .str) && true)))) = true
    rw [pure_strs]; rfl
theorem rngL_at {w : W} {i : Int} {n j : Nat} (h : (rngL i n)[j]? = some w) : j < n ∧ w = .int (i + (j : Int)) := by
  have hj : j < n := by
    have := (List.getElem?_eq_some_iff.mp h).1
    rwa [rngL_len] at this
  refine ⟨hj, ?_⟩
  unfold rngL at h
  rw [List.getElem?_map, List.getElem?_range hj] at h
  simp at h
  exact h.symm
theorem ShortL.take {ws : List (List Nat)} (h : ShortL ws) (n : Nat) : ShortL (ws.take n) := ⟨by have := h.1; rw [List.length_take]; omega, fun w hw => h.2 w (List.mem_of_mem_take hw)⟩
theorem cut_strs (ws : List (List Nat)) (n : Nat) : cut (ws.map W.str) none (some (n : Int)) = (ws.take n).map W.str := by rw [cut_take, List.map_take]
theorem cut_strs_i (ws : List (List Nat)) (k : Int) (h : 0 ≤ k) : cut (ws.map W.str) none (some k) = (ws.take k.toNat).map W.str := by
  obtain ⟨n, rfl⟩ : ∃ n : Nat, k = n := ⟨k.toNat, by omega⟩
  rw [cut_strs]; rfl
theorem parts_ok {c : Nat} {o : O} (h : BagOk c o) (hc : c ≤ 500000) {ws : List (List Nat)} {bs : List (List Nat × List Nat)} (hws : ShortL ws) (hbs : BoxL bs) (s : Int) (hs0 : 0 ≤ s) (hs1 : s ≤ 50) :
    ∃ (ps : List W) (o' : O), F_law_parts [.ref 0, .lst (ws.map .str), .int s, .lst (bs.map boxW)] [o] = .ok (.lst ps) [o'] ∧ BagOk (c + 5000) o' ∧ ps.length ≤ 100 ∧ ∀ p ∈ ps, PartW p := by
  have hlen := hws.1
  have first : ∀ ls0 : Ls, ls0.length = 7 → ∀ G, compL (gN 6) (eC (.bl true)) C1_law_parts ls0 ((ws.take s.toNat).map .str) [] G = .ok (.lst ((ws.take s.toNat).map fun w => .tup [.str sSOURCE, .str w])) G := fun ls0 hl G => by
    match ls0, hl with
    | [x0, x1, x2, x3, x4, x5, x6], _ =>
      have := compL_map (gN 6) (eC (.bl true)) C1_law_parts [x0, x1, x2, x3, x4, x5, x6] (fun w => .tup [.str sSOURCE, w]) G ((ws.take s.toNat).map .str) [] (fun w hw => ⟨[x0, x1, x2, x3, x4, x5, some w], by simp, by simp, by simp [C1_law_parts]⟩) (by simp [SZ]; omega)
      rw [this]
      simp [List.map_map, Function.comp_def]
  have srcs : ∀ p ∈ ((ws.take s.toNat).map fun w => W.tup [.str sSOURCE, .str w]), PartW p := fun p hp => by
    obtain ⟨w, hw, rfl⟩ := List.mem_map.mp hp
    exact .src w (hws.2 w (List.mem_of_mem_take hw))
  have hb1 : bigI s = true := decide_eq_true (by omega)
  have hb2 : bigI (ws.length : Int) = true := decide_eq_true (by omega)
  obtain ⟨ls', G', e, x5, x6, ps, o', rfl, rfl, hb, hl, hP⟩ := forL_inv (gN 5) L1_law_parts (fun k ls G => ∃ (x5 x6 : Option W) (ps : List W) (o' : O), ls = [some (.ref 0), some (.lst (ws.map .str)), some (.int s), some (.lst (bs.map boxW)), some (.ref 1), x5, x6] ∧ G = [o', .lst ps] ∧ BagOk (c + 50 * k) o' ∧ ps.length ≤ 50 + k ∧ ∀ p ∈ ps, PartW p) (rngL s ((ws.length : Int) - s).toNat) 0
    [some (.ref 0), some (.lst (ws.map .str)), some (.int s), some (.lst (bs.map boxW)), some (.ref 1), none, none] [o, .lst ((ws.take s.toNat).map fun w => W.tup [.str sSOURCE, .str w])] (fun j w ls G hw hI => by
      obtain ⟨x5, x6, ps, o1, rfl, rfl, hb, hl, hP⟩ := hI
      obtain ⟨hj, rfl⟩ := rngL_at hw
      obtain ⟨k, hk⟩ : ∃ k : Nat, s + (j : Int) = k := ⟨(s + j).toNat, by omega⟩
      have hkl : k < ws.length := by omega
      have hwk : NameW ws[k] := hws.2 _ (List.getElem_mem hkl)
      obtain ⟨t, o2, e, b2, p⟩ := part_ok hb (by omega) hwk (hws.take k) hws (by omega) hbs [.lst ps]
      rw [hk]
      have hz : ps.length < 16777216 := by omega
      refine ⟨_, _, [some (.ref 0), some (.lst (ws.map .str)), some (.int s), some (.lst (bs.map boxW)), some (.ref 1), some (.int k), x6], [o2, .lst (ps ++ [t])], by simp; exact ⟨rfl, rfl⟩, .inl ?_, some (.int k), x6, _, o2, rfl, rfl, b2.le, by simp; omega, fun x hx => ?_⟩
      · simp [L1_law_parts, atI, ixN, hkl, cut_strs, -List.map_take, e, hz]
      · rcases List.mem_append.mp hx with hx | hx
        · exact hP x hx
        · rw [List.mem_singleton.mp hx]; exact p) ⟨none, none, _, o, rfl, rfl, h, by simp; omega, srcs⟩
  rw [rngL_len] at hb hl
  have hpp : pureW.pureWs ps = true := by
    rw [pureWs_all]
    exact List.all_eq_true.mpr fun p hp => pure_part (hP p hp)
  refine ⟨ps, o', ?_, hb.le, by omega, hP⟩
  refine pur_bag (w := .ref 1) (L := [.lst ps]) ?_ hb ?_
  · have first' := first [some (.ref 0), some (.lst (ws.map .str)), some (.int s), some (.lst (bs.map boxW)), none, none, none] rfl [o]
    simp [B_law_parts, cut_strs_i ws s hs0, -List.map_take, first', hb1, hb2, e, R1_law_parts]
  · simp only [rsW]
    show (rsWs _ ps).map W.lst = _
    rw [rs_pures ps hpp]
    rfl
theorem boxes_ok {c : Nat} {o : O} (h : BagOk c o) (hc : c ≤ 500000) {ws : List (List Nat)} (hws : ShortL ws) (R : Gs) :
    ∃ (bs : List (List Nat × List Nat)) (o' : O), F_law_boxes [.ref 0, .lst (ws.map .str)] (o :: R) = .ok (.lst (bs.map boxW)) (o' :: R) ∧ BagOk (c + 50) o' ∧ BoxL bs := by
  have hlen := hws.1
  obtain ⟨ts, o', e, b, l, p⟩ := draws_ok (k := 1) (fun t => ∃ b : List Nat × List Nat, t = boxW b ∧ b.1 ∈ KINDS ∧ NameW b.2) (gN 2) C1_law_boxes [some (.ref 0), some (.lst (ws.map .str)), none] (ws.map .str) R h (by rw [List.length_map]; omega) (by rw [List.length_map]; omega) (fun w hw c o hb hc => by
    obtain ⟨s, hs, rfl⟩ := List.mem_map.mp hw
    obtain ⟨k, o', e, b, m⟩ := any_strs hb (by omega) KINDS (by decide) (by decide) R
    have e : F_law_any [.ref 0, .lst [.str [112, 108, 97, 105, 110], .str [111, 100, 100], .str [107, 101, 101, 112], .str [112, 97, 105, 114]]] (o :: R) = .ok (.str k) (o' :: R) := e
    exact ⟨[some (.ref 0), some (.lst (ws.map .str)), some (.str s)], boxW (k, s), o', by simp, by simp [C1_law_boxes, e, boxW], b, (k, s), rfl, m, hws.2 s hs⟩)
  have : ∃ bs : List (List Nat × List Nat), ts = bs.map boxW ∧ ∀ b ∈ bs, b.1 ∈ KINDS ∧ NameW b.2 := by
    clear e l b
    induction ts with
    | nil => exact ⟨[], rfl, fun _ h => absurd h List.not_mem_nil⟩
    | cons t r ih =>
      obtain ⟨b, rfl, hb⟩ := p _ List.mem_cons_self
      obtain ⟨bs, rfl, h2⟩ := ih fun x hx => p x (List.mem_cons_of_mem _ hx)
      exact ⟨b :: bs, rfl, fun x hx => by
        rcases List.mem_cons.mp hx with rfl | hx
        · exact hb
        · exact h2 x hx⟩
  obtain ⟨bs, rfl, hbs⟩ := this
  rw [List.length_map] at b
  refine ⟨bs, o', ?_, b.le, by simp at l; omega, hbs⟩
  simp [F_law_boxes, B_law_boxes, e]
/-! ### words -/
theorem cStr_ok {i : Int} (h : i.natAbs < 2 ^ 64) : cStr i = true := by
  unfold cStr
  refine decide_eq_true ?_
  by_cases hz : i.natAbs = 0
  · rw [hz]; decide
  · exact (Nat.log2_lt hz).mpr (Nat.lt_of_lt_of_le h (Nat.pow_le_pow_right (by decide) (by decide)))
theorem strI_len : ∀ n < 1001, (strI (n : Nat)).length ≤ 5 ∧ (strI (-(n : Nat))).length ≤ 5 := by decide +kernel
theorem strI_short {i : Int} (h1 : -1000 ≤ i) (h2 : i ≤ 1000) : (strI i).length ≤ 5 := by
  rcases Int.le_total 0 i with h | h
  · have := (strI_len i.toNat (by omega)).1
    rwa [show ((i.toNat : Nat) : Int) = i by omega] at this
  · have := (strI_len (-i).toNat (by omega)).2
    rwa [show -(((-i).toNat : Nat) : Int) = i by omega] at this
def twW : W → List (List Nat)
  | .tup [.int f, .int d, .str w] => [strI f, w] ++ (if 0 < d then [[108, 97, 116, 101], strI d] else [])
  | _ => []
def accW (w : List Nat) (ts : List W) : Nat → List (List Nat)
  | 0 => [w, sMIX]
  | k + 1 => accW w ts k ++ (if 0 < k then [[44]] else []) ++ (match ts[k]? with | some t => twW t | none => [])
theorem tw_ok {t : W} (h : TermW t) : (∀ G, F_term_words [t] G = .ok (.lst ((twW t).map .str)) G) ∧ (twW t).length ≤ 4 ∧ ∀ w ∈ twW t, w.length ≤ 30 := by
  cases h with
  | mk f d w f0 f1 d0 d1 hw =>
    have c1 : cStr f = true := cStr_ok (by omega)
    have c2 : cStr d = true := cStr_ok (by omega)
    have l1 := strI_short (i := f) (by omega) (by omega)
    have l2 := strI_short (i := d) (by omega) (by omega)
    by_cases hd : 0 < d
    · refine ⟨fun G => by simp [F_term_words, B_term_words, c1, c2, hd, twW], by simp [twW, hd], fun x hx => ?_⟩
      simp [twW, hd] at hx
      rcases hx with rfl | rfl | rfl | rfl
      · omega
      · exact hw.l30
      · decide
      · omega
    · refine ⟨fun G => by simp [F_term_words, B_term_words, c1, c2, hd, twW], by simp [twW, hd], fun x hx => ?_⟩
      simp [twW, hd] at hx
      rcases hx with rfl | rfl
      · omega
      · exact hw.l30
theorem acc_ok (w : List Nat) (hw : NameW w) {ts : List W} (h : ∀ t ∈ ts, TermW t) : ∀ k, (accW w ts k).length ≤ 2 + 5 * k ∧ ∀ x ∈ accW w ts k, x.length ≤ 30
  | 0 => ⟨by simp [accW], fun x hx => by
    simp [accW] at hx
    rcases hx with rfl | rfl
    · exact hw.l30
    · decide⟩
  | k + 1 => by
    obtain ⟨l, p⟩ := acc_ok w hw h k
    have tl : (match ts[k]? with | some t => twW t | none => []).length ≤ 4 ∧ ∀ x ∈ (match ts[k]? with | some t => twW t | none => []), x.length ≤ 30 := by
      cases e : ts[k]? with
      | none => exact ⟨Nat.zero_le _, fun _ h => absurd h List.not_mem_nil⟩
      | some t => exact (tw_ok (h t (List.mem_of_getElem? e))).2
    have sl : (if 0 < k then [[44]] else [] : List (List Nat)).length ≤ 1 ∧ ∀ x ∈ (if 0 < k then [[44]] else [] : List (List Nat)), x.length ≤ 30 := by
      split
      · exact ⟨Nat.le_refl _, fun x hx => by rw [List.mem_singleton.mp hx]; decide⟩
      · exact ⟨Nat.zero_le _, fun _ h => absurd h List.not_mem_nil⟩
    refine ⟨?_, fun x hx => ?_⟩
    · simp only [accW, List.length_append]
      omega
    · simp only [accW] at hx
      rcases List.mem_append.mp hx with hx | hx
      · rcases List.mem_append.mp hx with hx | hx
        · exact p x hx
        · exact sl.2 x hx
      · exact tl.2 x hx
theorem if_strs (p : Prop) [Decidable p] (a b : List (List Nat)) : (if p then W.lst (a.map .str) else W.lst (b.map .str)) = W.lst ((if p then a else b).map .str) := by split <;> rfl
theorem mix_loop1 {w : List Nat} (hw : NameW w) {ts : List W} (h : ∀ t ∈ ts, TermW t) (hl : ts.length ≤ 10) (x0 x1 x2 x3 : Option W) (G : Gs) :
    ∃ x5 x6, forL (gT 2 (gs1 (gN 5) (gs1 (gN 6) gs0))) L1_part_words (enumL 0 ts) [x0, x1, x2, x3, some (.lst ((accW w ts 0).map .str)), none, none] G = .nx [x0, x1, x2, x3, some (.lst ((accW w ts ts.length).map .str)), x5, x6] G := by
  obtain ⟨ls', G', e, x5, x6, rfl, rfl⟩ := forL_inv (gT 2 (gs1 (gN 5) (gs1 (gN 6) gs0))) L1_part_words (fun k ls G' => ∃ x5 x6, ls = [x0, x1, x2, x3, some (.lst ((accW w ts k).map .str)), x5, x6] ∧ G' = G) (enumL 0 ts) 0 [x0, x1, x2, x3, some (.lst ((accW w ts 0).map .str)), none, none] G (fun j y ls G' hy hI => by
    obtain ⟨x5, x6, rfl, rfl⟩ := hI
    rw [enumL_get] at hy
    obtain ⟨t, ht, rfl⟩ := Option.map_eq_some_iff.mp hy
    have hj : j < ts.length := (List.getElem?_eq_some_iff.mp ht).1
    obtain ⟨et, lt, _⟩ := tw_ok (h t (List.mem_of_getElem? ht))
    obtain ⟨la, _⟩ := acc_ok w hw h j
    refine ⟨_, _, [x0, x1, x2, x3, some (.lst ((accW w ts (j + 1)).map .str)), some (.int j), some t], G', by simp; exact ⟨rfl, rfl⟩, .inl ?_, some (.int j), some t, by rw [Nat.zero_add], rfl⟩
    have z1 : (accW w ts j).length + 1 ≤ 16777216 := by omega
    have z0 : (accW w ts j).length ≤ 16777216 := by omega
    have z2 : (accW w ts j).length + 1 + (twW t).length ≤ 16777216 := by omega
    have z3 : (accW w ts j).length + (twW t).length ≤ 16777216 := by omega
    by_cases hj0 : 0 < j
    · have hj0' : (0 : Int) < (j : Int) := by omega
      simp [L1_part_words, hj0', et, z1, z2, accW, ht, hj0]
    · have hj0' : ¬ (0 : Int) < (j : Int) := by omega
      simp [L1_part_words, hj0', et, z0, z3, accW, ht, hj0]) ⟨none, none, rfl, rfl⟩
  rw [enumL_len, Nat.zero_add] at e
  exact ⟨x5, x6, e⟩
theorem mix_loop2 {w : List Nat} (hw : NameW w) {ts : List W} (h : ∀ t ∈ ts, TermW t) (hl : ts.length ≤ 10) (x0 : Option W) (G : Gs) :
    ∃ x2 x3, forL (gT 2 (gs1 (gN 2) (gs1 (gN 3) gs0))) L1_law_part_words (enumL 0 ts) [x0, some (.lst ((accW w ts 0).map .str)), none, none] G = .nx [x0, some (.lst ((accW w ts ts.length).map .str)), x2, x3] G := by
  obtain ⟨ls', G', e, x5, x6, rfl, rfl⟩ := forL_inv (gT 2 (gs1 (gN 2) (gs1 (gN 3) gs0))) L1_law_part_words (fun k ls G' => ∃ x5 x6, ls = [x0, some (.lst ((accW w ts k).map .str)), x5, x6] ∧ G' = G) (enumL 0 ts) 0 [x0, some (.lst ((accW w ts 0).map .str)), none, none] G (fun j y ls G' hy hI => by
    obtain ⟨x5, x6, rfl, rfl⟩ := hI
    rw [enumL_get] at hy
    obtain ⟨t, ht, rfl⟩ := Option.map_eq_some_iff.mp hy
    have hj : j < ts.length := (List.getElem?_eq_some_iff.mp ht).1
    have hT := h t (List.mem_of_getElem? ht)
    obtain ⟨la, _⟩ := acc_ok w hw h j
    refine ⟨_, _, [x0, some (.lst ((accW w ts (j + 1)).map .str)), some (.int j), some t], G', by simp; exact ⟨rfl, rfl⟩, .inl ?_, some (.int j), some t, by rw [Nat.zero_add], rfl⟩
    cases hT with
    | mk f d w' f0 f1 d0 d1 hw' =>
      have c1 : cStr f = true := cStr_ok (by omega)
      have c2 : cStr d = true := cStr_ok (by omega)
      have z0 : (accW w ts j).length ≤ 16777216 := by omega
      have z1 : (accW w ts j).length + 1 ≤ 16777216 := by omega
      have z2 : (accW w ts j).length + 2 ≤ 16777216 := by omega
      have z3 : (accW w ts j).length + 1 + 2 ≤ 16777216 := by omega
      have z4 : (accW w ts j).length + 2 + 2 ≤ 16777216 := by omega
      have z5 : (accW w ts j).length + 1 + 2 + 2 ≤ 16777216 := by omega
      by_cases hd : 0 < d <;> by_cases hj0 : 0 < j
      · have hj0' : (0 : Int) < (j : Int) := by omega
        simp [L1_law_part_words, hj0', hd, atI, ixN, c1, c2, z1, z3, z5, accW, ht, hj0, twW]
      · have hj0' : ¬ (0 : Int) < (j : Int) := by omega
        simp [L1_law_part_words, hj0', hd, atI, ixN, c1, c2, z0, z2, z4, accW, ht, hj0, twW]
      · have hj0' : (0 : Int) < (j : Int) := by omega
        simp [L1_law_part_words, hj0', hd, atI, ixN, c1, c2, z1, z3, accW, ht, hj0, twW]
      · have hj0' : ¬ (0 : Int) < (j : Int) := by omega
        simp [L1_law_part_words, hj0', hd, atI, ixN, c1, c2, z0, z2, accW, ht, hj0, twW]) ⟨none, none, rfl, rfl⟩
  rw [enumL_len, Nat.zero_add] at e
  exact ⟨x5, x6, e⟩
/-- a part's words, as the program and as the law tell them -/
theorem words_ok {p : W} (h : PartW p) : ∃ ws : List (List Nat), (∀ G, F_part_words [p] G = .ok (.lst (ws.map .str)) G) ∧ (∀ G, F_law_part_words [p] G = .ok (.lst (ws.map .str)) G) ∧ ws.length ≤ 100 ∧ ∀ w ∈ ws, w.length ≤ 30 := by
  cases h with
  | src w hw =>
    refine ⟨[w, sSOURCE], fun G => by simp [F_part_words, B_part_words], fun G => ?_, by simp, fun x hx => ?_⟩
    · have : cut [W.str sSOURCE, W.str w] (some 2) none = [] := rfl
      simp [F_law_part_words, B_law_part_words, atI, ixN, this]
    · simp at hx
      rcases hx with rfl | rfl
      · exact hw.l30
      · decide
  | box k w n ends hk hw hn he hc =>
    have hl := he.1
    have k1 : ¬ k = [117, 115, 101] := fun e => by subst e; revert hk; decide
    have k2 : ¬ k = [109, 105, 120] := fun e => by subst e; revert hk; decide
    have z1 : ends.length + 1 + 1 + 1 ≤ 16777216 := by omega
    have z2 : 2 + (ends.length + 1) ≤ 16777216 := by omega
    refine ⟨w :: k :: n :: ends, fun G => ?_, fun G => ?_, by simp; omega, fun x hx => ?_⟩
    · simp [F_part_words, B_part_words, k1, k2, z1]
    · have : cut (W.str k :: W.str w :: W.str n :: ends.map W.str) (some 2) none = W.str n :: ends.map W.str := cut_drop _ 2
      have i0 : (0 : Int) < (ends.length : Int) + 1 + 1 + 1 := by omega
      have i1 : (1 : Int) < (ends.length : Int) + 1 + 1 + 1 := by omega
      simp [F_law_part_words, B_law_part_words, atI, ixN, i0, i1, k1, k2, this, z2]
    · simp at hx
      rcases hx with rfl | rfl | rfl | hx
      · exact hw.l30
      · exact (kind_name hk).1
      · exact hn.l30
      · exact (he.2 x hx).l30
  | mix w ts hw hl ht =>
    refine ⟨accW w ts ts.length, fun G => ?_, fun G => ?_, by have := (acc_ok w hw ht ts.length).1; omega, (acc_ok w hw ht ts.length).2⟩
    · obtain ⟨x5, x6, e⟩ := mix_loop1 hw ht (by omega) (some (.tup [.str sMIX, .str w, .tup ts])) (some (.str sMIX)) (some (.str w)) (some (.lst [.tup ts])) G
      have e0 : accW w ts 0 = [w, sMIX] := rfl
      rw [e0] at e
      simp only [List.map_cons, List.map_nil] at e
      simp [F_part_words, B_part_words, atI, ixN, e, R1_part_words]
    · obtain ⟨x5, x6, e⟩ := mix_loop2 hw ht (by omega) (some (.tup [.str sMIX, .str w, .tup ts])) G
      have e0 : accW w ts 0 = [w, sMIX] := rfl
      rw [e0] at e
      simp only [List.map_cons, List.map_nil] at e
      simp [F_law_part_words, B_law_part_words, atI, ixN, e, R1_law_part_words]
  | use w n ends hw hn he hu =>
    have hl := he.1
    have z1 : ends.length + 1 + 1 + 1 ≤ 16777216 := by omega
    have z2 : 3 + ends.length ≤ 16777216 := by omega
    refine ⟨w :: sUSE :: n :: ends, fun G => ?_, fun G => ?_, by simp; omega, fun x hx => ?_⟩
    · simp [F_part_words, B_part_words, atI, ixN, z1]
    · simp [F_law_part_words, B_law_part_words, atI, ixN, z2]
    · simp at hx
      rcases hx with rfl | rfl | rfl | hx
      · exact hw.l30
      · decide
      · exact hn.l30
      · exact (he.2 x hx).l30
theorem strs_map : ∀ ss : List (List Nat), strsOf (ss.map .str) = some ss
  | [] => rfl
  | s :: r => by simp [strs_map r]
theorem sum_le {ss : List (List Nat)} (h : ∀ w ∈ ss, w.length ≤ 30) : (ss.map (·.length)).sum ≤ 30 * ss.length := by
  induction ss with
  | nil => simp
  | cons s r ih =>
    have h1 := h s List.mem_cons_self
    have h2 := ih fun w hw => h w (List.mem_cons_of_mem _ hw)
    simp only [List.map_cons, List.sum_cons, List.length_cons]
    omega
def wOf (p : W) : List (List Nat) := match F_part_words [p] [] with
  | .ok (.lst xs) _ => (strsOf xs).getD []
  | _ => []
theorem wOf_ok {p : W} (h : PartW p) : (∀ G, F_part_words [p] G = .ok (.lst ((wOf p).map .str)) G) ∧ (∀ G, F_law_part_words [p] G = .ok (.lst ((wOf p).map .str)) G) ∧ (wOf p).length ≤ 100 ∧ ∀ w ∈ wOf p, w.length ≤ 30 := by
  obtain ⟨ws, e1, e2, l, q⟩ := words_ok h
  have : wOf p = ws := by
    unfold wOf
    rw [e1 []]
    simp [strs_map]
  rw [this]
  exact ⟨e1, e2, l, q⟩
def accT (ps : List W) : Nat → List (List Nat)
  | 0 => []
  | k + 1 => accT ps k ++ (match ps[k]? with | some p => wOf p | none => []) ++ [[59]]
theorem accT_ok {ps : List W} (h : ∀ p ∈ ps, PartW p) : ∀ k, (accT ps k).length ≤ 101 * k ∧ ∀ x ∈ accT ps k, x.length ≤ 30
  | 0 => ⟨by simp [accT], fun x hx => by simp [accT] at hx⟩
  | k + 1 => by
    obtain ⟨l, p⟩ := accT_ok h k
    have tl : (match ps[k]? with | some p => wOf p | none => []).length ≤ 100 ∧ ∀ x ∈ (match ps[k]? with | some p => wOf p | none => []), x.length ≤ 30 := by
      cases e : ps[k]? with
      | none => exact ⟨Nat.zero_le _, fun _ h => absurd h List.not_mem_nil⟩
      | some t => exact (wOf_ok (h t (List.mem_of_getElem? e))).2.2
    refine ⟨?_, fun x hx => ?_⟩
    · simp only [accT, List.length_append, List.length_cons, List.length_nil]
      omega
    · simp only [accT] at hx
      rcases List.mem_append.mp hx with hx | hx
      · rcases List.mem_append.mp hx with hx | hx
        · exact p x hx
        · exact tl.2 x hx
      · rw [List.mem_singleton.mp hx]; decide
theorem text_loop {ps : List W} (h : ∀ p ∈ ps, PartW p) (hl : ps.length ≤ 100) (x0 x1 : Option W) (G : Gs) :
    ∃ x3, forL (gN 3) L1_text_of ps [x0, x1, some (.lst []), none] G = .nx [x0, x1, some (.lst ((accT ps ps.length).map .str)), x3] G := by
  obtain ⟨ls', G', e, x3, rfl, rfl⟩ := forL_inv (gN 3) L1_text_of (fun k ls G' => ∃ x3, ls = [x0, x1, some (.lst ((accT ps k).map .str)), x3] ∧ G' = G) ps 0 [x0, x1, some (.lst []), none] G (fun j p ls G' hp hI => by
    obtain ⟨x3, rfl, rfl⟩ := hI
    have hj : j < ps.length := (List.getElem?_eq_some_iff.mp hp).1
    obtain ⟨ep, _, lp, _⟩ := wOf_ok (h p (List.mem_of_getElem? hp))
    obtain ⟨la, _⟩ := accT_ok h j
    refine ⟨_, _, [x0, x1, some (.lst ((accT ps (j + 1)).map .str)), some p], G', by simp; exact ⟨rfl, rfl⟩, .inl ?_, some p, by rw [Nat.zero_add], rfl⟩
    have z1 : (accT ps j).length + (wOf p).length ≤ 16777216 := by omega
    have z2 : (accT ps j).length + (wOf p).length + 1 ≤ 16777216 := by omega
    simp [L1_text_of, ep, z1, z2, accT, hp]) ⟨none, rfl, rfl⟩
  rw [Nat.zero_add] at e
  exact ⟨x3, e⟩
theorem lawords_loop {ps : List W} (h : ∀ p ∈ ps, PartW p) (hl : ps.length ≤ 100) (x0 x1 : Option W) (G : Gs) :
    ∃ x3, forL (gN 3) L1_law_words ps [x0, x1, some (.lst []), none] G = .nx [x0, x1, some (.lst ((accT ps ps.length).map .str)), x3] G := by
  obtain ⟨ls', G', e, x3, rfl, rfl⟩ := forL_inv (gN 3) L1_law_words (fun k ls G' => ∃ x3, ls = [x0, x1, some (.lst ((accT ps k).map .str)), x3] ∧ G' = G) ps 0 [x0, x1, some (.lst []), none] G (fun j p ls G' hp hI => by
    obtain ⟨x3, rfl, rfl⟩ := hI
    have hj : j < ps.length := (List.getElem?_eq_some_iff.mp hp).1
    obtain ⟨_, ep, lp, _⟩ := wOf_ok (h p (List.mem_of_getElem? hp))
    obtain ⟨la, _⟩ := accT_ok h j
    refine ⟨_, _, [x0, x1, some (.lst ((accT ps (j + 1)).map .str)), some p], G', by simp; exact ⟨rfl, rfl⟩, .inl ?_, some p, by rw [Nat.zero_add], rfl⟩
    have z1 : (accT ps j).length + (wOf p).length ≤ 16777216 := by omega
    have z2 : (accT ps j).length + (wOf p).length + 1 ≤ 16777216 := by omega
    simp [L1_law_words, ep, z1, z2, accT, hp]) ⟨none, rfl, rfl⟩
  rw [Nat.zero_add] at e
  exact ⟨x3, e⟩
/-- all the words of a net -/
def netW (ps : List W) (outs : List (List Nat)) : List (List Nat) := accT ps ps.length ++ [[62]] ++ outs
theorem netW_ok {ps : List W} {outs : List (List Nat)} (h : ∀ p ∈ ps, PartW p) (hl : ps.length ≤ 100) (ho : ShortL outs) : (netW ps outs).length ≤ 10200 ∧ ∀ x ∈ netW ps outs, x.length ≤ 30 := by
  obtain ⟨la, p⟩ := accT_ok h ps.length
  have := ho.1
  refine ⟨by simp [netW]; omega, fun x hx => ?_⟩
  simp only [netW] at hx
  rcases List.mem_append.mp hx with hx | hx
  · rcases List.mem_append.mp hx with hx | hx
    · exact p x hx
    · rw [List.mem_singleton.mp hx]; decide
  · exact (ho.2 x hx).l30
def netT (ps : List W) (outs : List (List Nat)) : List Nat := TL.joinL [32] (netW ps outs)
theorem law_words_ok {ps : List W} {outs : List (List Nat)} (h : ∀ p ∈ ps, PartW p) (hl : ps.length ≤ 100) (ho : ShortL outs) (G : Gs) : F_law_words [.lst ps, .lst (outs.map .str)] G = .ok (.lst ((netW ps outs).map .str)) G := by
  obtain ⟨x3, e⟩ := lawords_loop h hl (some (.lst ps)) (some (.lst (outs.map .str))) G
  obtain ⟨la, _⟩ := accT_ok h ps.length
  have := ho.1
  have z1 : (accT ps ps.length).length + 1 ≤ 16777216 := by omega
  have z2 : (accT ps ps.length).length + 1 + outs.length ≤ 16777216 := by omega
  simp [F_law_words, B_law_words, e, R1_law_words, z1, z2, netW]
theorem join_net {ps : List W} {outs : List (List Nat)} (h : ∀ p ∈ ps, PartW p) (hl : ps.length ≤ 100) (ho : ShortL outs) (G : Gs) : joinW [32] (.lst ((netW ps outs).map .str)) G = .ok (.str (netT ps outs)) G := by
  obtain ⟨l, q⟩ := netW_ok h hl ho
  have := sum_le q
  have z : ((netW ps outs).map (·.length)).sum + (netW ps outs).length * ([32] : List Nat).length ≤ SZ := by unfold SZ; simp only [List.length_cons, List.length_nil]; omega
  unfold joinW
  simp only [itemsW_e1, Option.bind_some, strs_map]
  rw [if_pos z]
  rfl
theorem text_of_ok {ps : List W} {outs : List (List Nat)} (h : ∀ p ∈ ps, PartW p) (hl : ps.length ≤ 100) (ho : ShortL outs) (G : Gs) :
    F_text_of [.lst ps, .lst (outs.map .str)] G = .ok (.str (netT ps outs)) G ∧ F_text_of [.tup ps, .tup (outs.map .str)] G = .ok (.str (netT ps outs)) G := by
  obtain ⟨la, _⟩ := accT_ok h ps.length
  have := ho.1
  have z1 : (accT ps ps.length).length + (outs.length + 1) ≤ 16777216 := by omega
  have j := join_net h hl ho G
  have z2 : (netW ps outs).length ≤ 16777216 := by have := (netW_ok h hl ho).1; omega
  have ej : (accT ps ps.length).map W.str ++ W.str [62] :: outs.map W.str = (netW ps outs).map .str := by simp [netW]
  constructor
  · obtain ⟨x3, e⟩ := text_loop h hl (some (.lst ps)) (some (.lst (outs.map .str))) G
    simp [F_text_of, B_text_of, e, R1_text_of, z1, z2, -joinW, ej, -List.map_append, j]
  · obtain ⟨x3, e⟩ := text_loop h hl (some (.tup ps)) (some (.tup (outs.map .str))) G
    simp [F_text_of, B_text_of, e, R1_text_of, z1, z2, -joinW, ej, -List.map_append, j]
end U

namespace K10
open PySem
open L2
open U
/- names of _law_field: 0:_law_e 1:_law_code -/
def B_law_field (xx : W) : SF :=
    (sSeq (sAsg (eXF xx ([(1, 1)] : List (Nat × Nat)) (eVar 0)) (gN 1))
    (sSeq (sIf (eOp inD (eVar 1) (eTup (aCons (eC (.str [73, 110, 118, 97, 108, 105, 100, 78, 97, 109, 101])) (aCons (eC (.str [73, 110, 118, 97, 108, 105, 100, 78, 117, 109, 98, 101, 114])) (aCons (eC (.str [73, 110, 118, 97, 108, 105, 100, 76, 105, 109, 105, 116])) aNil))))) (sRet (eTup (aCons (eXF xx ([] : List (Nat × Nat)) (eVar 0)) aNil))) sNil)
    (sSeq (sIf (eOp inD (eVar 1) (eTup (aCons (eC (.str [73, 110, 118, 97, 108, 105, 100, 80, 97, 114, 116])) (aCons (eC (.str [73, 110, 118, 97, 108, 105, 100, 79, 117, 116, 115])) (aCons (eC (.str [73, 110, 118, 97, 108, 105, 100, 85, 115, 101])) (aCons (eC (.str [73, 110, 118, 97, 108, 105, 100, 83, 104, 101, 101, 116])) (aCons (eC (.str [73, 110, 118, 97, 108, 105, 100, 70, 97, 99, 116])) (aCons (eC (.str [73, 110, 118, 97, 108, 105, 100, 68, 101, 101, 100])) (aCons (eC (.str [73, 110, 118, 97, 108, 105, 100, 67, 111, 109, 109, 97, 110, 100])) aNil))))))))) (sRet (eTup (aCons (eXF xx ([] : List (Nat × Nat)) (eVar 0)) aNil))) sNil)
    (sSeq (sIf (eOp inD (eVar 1) (eTup (aCons (eC (.str [73, 110, 118, 97, 108, 105, 100, 84, 101, 120, 116])) (aCons (eC (.str [73, 110, 118, 97, 108, 105, 100, 80, 97, 103, 101])) aNil)))) (sRet (eTup (aCons (eIf (eOp eqW (eVar 1) (eC (.str [73, 110, 118, 97, 108, 105, 100, 84, 101, 120, 116]))) (eXF xx ([(1, 0)] : List (Nat × Nat)) (eVar 0)) (eXF xx ([] : List (Nat × Nat)) (eVar 0))) aNil))) sNil)
    (sSeq (sIf (eOp inD (eVar 1) (eTup (aCons (eC (.str [68, 117, 112, 108, 105, 99, 97, 116, 101, 78, 97, 109, 101])) (aCons (eC (.str [85, 110, 108, 105, 107, 101, 75, 105, 110, 100, 115])) (aCons (eC (.str [85, 110, 107, 110, 111, 119, 110, 78, 97, 109, 101])) aNil))))) (sRet (eTup (aCons (eXF xx ([] : List (Nat × Nat)) (eVar 0)) aNil))) sNil)
    (sSeq (sIf (eOp inD (eVar 1) (eTup (aCons (eC (.str [67, 105, 114, 99, 117, 108, 97, 114])) (aCons (eC (.str [85, 110, 107, 110, 111, 119, 110, 80, 105, 101, 99, 101])) aNil)))) (sRet (eTup (aCons (eXF xx ([] : List (Nat × Nat)) (eVar 0)) aNil))) sNil)
    (sSeq (sIf (eOp inD (eVar 1) (eTup (aCons (eC (.str [73, 110, 85, 115, 101])) (aCons (eC (.str [84, 111, 111, 77, 97, 110, 121])) aNil)))) (sRet (eIf (eOp eqW (eVar 1) (eC (.str [73, 110, 85, 115, 101]))) (eTup (aCons (eXF xx ([] : List (Nat × Nat)) (eVar 0)) (aCons (eXF xx ([] : List (Nat × Nat)) (eVar 0)) aNil))) (eTup (aCons (eXF xx ([] : List (Nat × Nat)) (eVar 0)) (aCons (eXF xx ([] : List (Nat × Nat)) (eVar 0)) aNil))))) sNil)
    (sSeq (sIf (eOp inD (eVar 1) (eTup (aCons (eC (.str [84, 111, 111, 69, 97, 114, 108, 121])) (aCons (eC (.str [73, 110, 118, 97, 108, 105, 100, 84, 97, 98, 108, 101])) aNil)))) (sRet (eTup (aCons (eIf (eOp eqW (eVar 1) (eC (.str [84, 111, 111, 69, 97, 114, 108, 121]))) (eXF xx ([] : List (Nat × Nat)) (eVar 0)) (eXF xx ([] : List (Nat × Nat)) (eVar 0))) aNil))) sNil)
    (sSeq (sIf (eOp inD (eVar 1) (eTup (aCons (eC (.str [70, 117, 108, 108])) (aCons (eC (.str [82, 105, 110, 103])) aNil)))) (sRet (eTup (aCons (eIf (eOp eqW (eVar 1) (eC (.str [70, 117, 108, 108]))) (eXF xx ([] : List (Nat × Nat)) (eVar 0)) (eXF xx ([] : List (Nat × Nat)) (eVar 0))) aNil))) sNil)
    (sRet (eTup aNil)))))))))))
def F_law_field : W → List W → Gs → Res := fun xx => mkFn 1 2 (B_law_field xx)
def X_law_field : W → Option W
  | .obj 1 [u0, .str [73, 110, 118, 97, 108, 105, 100, 84, 101, 120, 116]] => some (.tup [u0])
  | _ => none
theorem xok_law_field : ∀ c ws r, X_law_field (.obj c ws) = some r → ∀ G, F_law_field (.obj c ws) [.cls 1000] G = .ok r G := by
  intro c ws r h G
  unfold X_law_field at h
  split at h
  · rename_i e; cases e; cases h; simp [F_law_field, B_law_field]
  · cases h
/- names of Words.__init__: 0:self 1:text -/
def B_Words___init : SF :=
    (sSeq (sFldW [(0, 0)] (eVar 0) (eSplit (eVar 1) (eC (.str [32]))))
    (sFldW [(0, 1)] (eVar 0) (eC (.int 0))))
def F_Words___init : Fn := mkFn 2 2 B_Words___init
/- names of Words.here: 0:self -/
def B_Words_here : SF :=
    (sRet (eIf (eOp ltW (eFld [(0, 1)] (eVar 0)) (eCall lenW (aCons (eFld [(0, 0)] (eVar 0)) aNil))) (eOp ixD (eFld [(0, 0)] (eVar 0)) (eFld [(0, 1)] (eVar 0))) (eC .non)))
def F_Words_here : Fn := mkFn 1 1 B_Words_here
/- names of Words.take: 0:self 1:good 2:word -/
def B_Words_take : SF :=
    (sSeq (sAsg (eMeth [(0, (F_Words_here, []))] (eVar 0) aNil) (gN 2))
    (sSeq (sIf (eOr (eOp isW (eVar 2) (eC .non)) (eNot (eVar 1))) (sRaise 1 1 [73, 110, 118, 97, 108, 105, 100, 84, 101, 120, 116] (aCons (eFld [(0, 1)] (eVar 0)) aNil)) sNil)
    (sSeq (sFldAugW [(0, 1)] (eVar 0) (eC (.int 1)))
    (sRet (eVar 2)))))
def F_Words_take : Fn := mkFn 2 3 B_Words_take
/- names of Words.take_name: 0:self -/
def B_Words_take_name : SF :=
    (sRet (eMeth [(0, (F_Words_take, []))] (eVar 0) (aCons (eFn F_is_name [] (aCons (eMeth [(0, (F_Words_here, []))] (eVar 0) aNil) aNil)) aNil)))
def F_Words_take_name : Fn := mkFn 1 1 B_Words_take_name
/- names of Words.take_names: 0:self 1:most 2:found -/
def T1_Words_take_names : EF :=
    (eAnd (eOp ltW (eCall lenW (aCons (eVar 2) aNil)) (eVar 1)) (eFn F_is_name [] (aCons (eMeth [(0, (F_Words_here, []))] (eVar 0) aNil) aNil)))
def L1_Words_take_names : SF :=
    (sExp (mutL appF (eVar 2) (aCons (eMeth [(0, (F_Words_take, []))] (eVar 0) (aCons (eC (.bl true)) aNil)) aNil)))
def R1_Words_take_names : SF :=
    (sRet (eCall tupleW (aCons (eVar 2) aNil)))
def B_Words_take_names : SF :=
    (sSeq (sAsg (eLstM aNil) (gN 2))
    (sSeq (whileL T1_Words_take_names L1_Words_take_names 1000000)
    R1_Words_take_names))
def F_Words_take_names : Fn := purF (mkFn 2 3 B_Words_take_names)
/- names of number_in: 0:word 1:least 2:most 3:digits 4:number 5:digit -/
def C1_number_in : EF :=
    (eOp inD (eVar 5) (eC (.str [48, 49, 50, 51, 52, 53, 54, 55, 56, 57])))
def B_number_in : SF :=
    (sSeq (sAsg (eIf (eStarts (eVar 0) (eC (.str [45]))) (eSl (eVar 0) (pSm (eC (.int 1))) pNo) (eVar 0)) (gN 3))
    (sSeq (sIf (eOr (eOp eqW (eCall lenW (aCons (eVar 3) aNil)) (eC (.int 0))) (eOr (eOp gtW (eCall lenW (aCons (eVar 3) aNil)) (eC (.int 2))) (eNot (eCall allW (aCons (eComp [5] (iSeq (eVar 3)) (gN 5) (eC (.bl true)) C1_number_in) aNil))))) (sRet (eC .non)) sNil)
    (sSeq (sAsg (eCall intD (aCons (eVar 3) aNil)) (gN 4))
    (sSeq (sIf (eOr (eOp neW (eCall strW (aCons (eVar 4) aNil)) (eVar 3)) (eAnd (eOp eqW (eVar 4) (eC (.int 0))) (eOp neW (eVar 3) (eVar 0)))) (sRet (eC .non)) sNil)
    (sSeq (sAsg (eIf (eOp eqW (eVar 3) (eVar 0)) (eVar 4) (eNeg (eVar 4))) (gN 4))
    (sRet (eIf (eChain leW leW (eVar 1) (eVar 4) (eVar 2)) (eVar 4) (eC .non))))))))
def F_number_in : Fn := mkFn 3 6 B_number_in
/- names of Words.take_number: 0:self 1:least 2:most 3:word 4:number -/
def B_Words_take_number : SF :=
    (sSeq (sAsg (eMeth [(0, (F_Words_here, []))] (eVar 0) aNil) (gN 3))
    (sSeq (sAsg (eIf (eOp isW (eVar 3) (eC .non)) (eC .non) (eFn F_number_in [] (aCons (eVar 3) (aCons (eVar 1) (aCons (eVar 2) aNil))))) (gN 4))
    (sSeq (sExp (eMeth [(0, (F_Words_take, []))] (eVar 0) (aCons (eOp isnW (eVar 4) (eC .non)) aNil)))
    (sRet (eVar 4)))))
def F_Words_take_number : Fn := mkFn 3 5 B_Words_take_number
/- names of Words.take_term: 0:self 1:factor 2:wire -/
def B_Words_take_term : SF :=
    (sSeq (sAsg (eMeth [(0, (F_Words_take_number, []))] (eVar 0) (aCons (eNeg (eC (.int 99))) (aCons (eC (.int 99)) aNil))) (gN 1))
    (sSeq (sAsg (eMeth [(0, (F_Words_take_name, []))] (eVar 0) aNil) (gN 2))
    (sSeq (sIf (eOp neW (eMeth [(0, (F_Words_here, []))] (eVar 0) aNil) (eC (.str [108, 97, 116, 101]))) (sRet (eTup (aCons (eVar 1) (aCons (eC (.int 0)) (aCons (eVar 2) aNil))))) sNil)
    (sSeq (sExp (eMeth [(0, (F_Words_take, []))] (eVar 0) (aCons (eC (.bl true)) aNil)))
    (sRet (eTup (aCons (eVar 1) (aCons (eMeth [(0, (F_Words_take_number, []))] (eVar 0) (aCons (eC (.int 1)) (aCons (eC (.int 4)) aNil))) (aCons (eVar 2) aNil)))))))))
def F_Words_take_term : Fn := mkFn 1 3 B_Words_take_term
/- names of Words.take_terms: 0:self 1:found -/
def T1_Words_take_terms : EF :=
    (eAnd (eOp eqW (eMeth [(0, (F_Words_here, []))] (eVar 0) aNil) (eC (.str [44]))) (eOp ltW (eCall lenW (aCons (eVar 1) aNil)) (eC (.int 6))))
def L1_Words_take_terms : SF :=
    (sSeq (sExp (eMeth [(0, (F_Words_take, []))] (eVar 0) (aCons (eC (.bl true)) aNil)))
    (sExp (mutL appF (eVar 1) (aCons (eMeth [(0, (F_Words_take_term, []))] (eVar 0) aNil) aNil))))
def R1_Words_take_terms : SF :=
    (sRet (eCall tupleW (aCons (eVar 1) aNil)))
def B_Words_take_terms : SF :=
    (sSeq (sIf (eOr (eOp isW (eMeth [(0, (F_Words_here, []))] (eVar 0) aNil) (eC .non)) (eOp isW (eFn F_number_in [] (aCons (eMeth [(0, (F_Words_here, []))] (eVar 0) aNil) (aCons (eNeg (eC (.int 99))) (aCons (eC (.int 99)) aNil)))) (eC .non))) (sRet (eTup aNil)) sNil)
    (sSeq (sAsg (eLstM (aCons (eMeth [(0, (F_Words_take_term, []))] (eVar 0) aNil) aNil)) (gN 1))
    (sSeq (whileL T1_Words_take_terms L1_Words_take_terms 1000000)
    R1_Words_take_terms)))
def F_Words_take_terms : Fn := purF (mkFn 1 2 B_Words_take_terms)
/- names of Words.take_part: 0:self 1:wire 2:word 3:name 4:ends 5:_ -/
def C1_Words_take_part : EF :=
    (eMeth [(0, (F_Words_take_name, []))] (eVar 0) aNil)
def B_Words_take_part : SF :=
    (sSeq (sPar 1 2 (aCons (eMeth [(0, (F_Words_take_name, []))] (eVar 0) aNil) (aCons (eMeth [(0, (F_Words_here, []))] (eVar 0) aNil) aNil)))
    (sSeq (sExp (eMeth [(0, (F_Words_take, []))] (eVar 0) (aCons (eOr (eOp inD (eVar 2) (eTup (aCons (eC (.str [115, 111, 117, 114, 99, 101])) (aCons (eC (.str [109, 105, 120])) (aCons (eC (.str [117, 115, 101])) aNil))))) (eKInA ([([112, 108, 97, 105, 110], 1), ([111, 100, 100], 1), ([107, 101, 101, 112], 1), ([112, 97, 105, 114], 2)] : List (List Nat × Int)) (eVar 2))) aNil)))
    (sSeq (sIf (eOp eqW (eVar 2) (eC (.str [115, 111, 117, 114, 99, 101]))) (sRet (eTup (aCons (eC (.str [115, 111, 117, 114, 99, 101])) (aCons (eVar 1) aNil)))) sNil)
    (sSeq (sIf (eOp eqW (eVar 2) (eC (.str [109, 105, 120]))) (sRet (eTup (aCons (eC (.str [109, 105, 120])) (aCons (eVar 1) (aCons (eMeth [(0, (F_Words_take_terms, []))] (eVar 0) aNil) aNil))))) sNil)
    (sSeq (sAsg (eMeth [(0, (F_Words_take_name, []))] (eVar 0) aNil) (gN 3))
    (sSeq (sIf (eOp eqW (eVar 2) (eC (.str [117, 115, 101]))) (sRet (eTup (aCons (eC (.str [117, 115, 101])) (aCons (eVar 1) (aCons (eVar 3) (aCons (eMeth [(0, (F_Words_take_names, []))] (eVar 0) (aCons (eC (.int 4)) aNil)) aNil)))))) sNil)
    (sSeq (sAsg (eCompX [5] (iRange1 (aCons (eKIx ([([112, 108, 97, 105, 110], 1), ([111, 100, 100], 1), ([107, 101, 101, 112], 1), ([112, 97, 105, 114], 2)] : List (List Nat × Int)) (eVar 2)) aNil)) (gN 5) C1_Words_take_part) (gN 4))
    (sRet (eTup (aCons (eVar 2) (aCons (eVar 1) (aCons (eVar 3) (aStar (eVar 4) aNil)))))))))))))
def F_Words_take_part : Fn := mkFn 1 6 B_Words_take_part
/- names of Words.take_net: 0:self 1:parts 2:outs -/
def T1_Words_take_net : EF :=
    (eOp neW (eMeth [(0, (F_Words_here, []))] (eVar 0) aNil) (eC (.str [62])))
def L1_Words_take_net : SF :=
    (sSeq (sExp (mutL appF (eVar 1) (aCons (eMeth [(0, (F_Words_take_part, []))] (eVar 0) aNil) aNil)))
    (sExp (eMeth [(0, (F_Words_take, []))] (eVar 0) (aCons (eOp eqW (eMeth [(0, (F_Words_here, []))] (eVar 0) aNil) (eC (.str [59]))) aNil))))
def R1_Words_take_net : SF :=
    (sSeq (sExp (eMeth [(0, (F_Words_take, []))] (eVar 0) (aCons (eC (.bl true)) aNil)))
    (sSeq (sAsg (eTup (aCons (eMeth [(0, (F_Words_take_name, []))] (eVar 0) aNil) (aStar (eMeth [(0, (F_Words_take_names, []))] (eVar 0) (aCons (eC (.int 3)) aNil)) aNil))) (gN 2))
    (sSeq (sIf (eOp isnW (eMeth [(0, (F_Words_here, []))] (eVar 0) aNil) (eC .non)) (sRaise 1 1 [73, 110, 118, 97, 108, 105, 100, 84, 101, 120, 116] (aCons (eFld [(0, 1)] (eVar 0)) aNil)) sNil)
    (sRet (eTup (aCons (eCall tupleW (aCons (eVar 1) aNil)) (aCons (eVar 2) aNil)))))))
def B_Words_take_net : SF :=
    (sSeq (sAsg (eLstM aNil) (gN 1))
    (sSeq (whileL T1_Words_take_net L1_Words_take_net 1000000)
    R1_Words_take_net))
def F_Words_take_net : Fn := purF (mkFn 1 3 B_Words_take_net)
/- names of read_net: 0:text -/
def B_read_net : SF :=
    (sSeq (sIf (eNot (eCall isiW (aCons (eVar 0) (aCons (eC (.ty .str)) aNil)))) (sRaise 1 1 [73, 110, 118, 97, 108, 105, 100, 84, 101, 120, 116] (aCons (eC (.int 0)) aNil)) sNil)
    (sRet (eMeth [(0, (F_Words_take_net, []))] (eFn (mkI 0 F_Words___init) [] (aCons (eVar 0) aNil)) aNil)))
def F_read_net : Fn := purF (mkFn 1 1 B_read_net)
/- names of Net.read: 0:text 1:pieces 2:parts 3:outs -/
def B_Net_read : SF :=
    (sSeq (sAsg (eFn F_read_net [] (aCons (eVar 0) aNil)) (gT 2 (gs1 (gN 2) (gs1 (gN 3) gs0))))
    (sRet (fun _ _ => .stuck)))
def F_Net_read : Fn := mkFn 2 4 B_Net_read
/- names of _law_bent: 0:_law_bag_here 1:_law_words_here 2:_law_more 3:_law_at 4:_law_way 5:_law_word -/
def B_law_bent : SF :=
    (sSeq (sPar 3 4 (aCons (eFn F_law_pull [] (aCons (eVar 0) (aCons (eOp addW (eCall lenW (aCons (eVar 1) aNil)) (eC (.int 1))) aNil))) (aCons (eFn F_law_pull [] (aCons (eVar 0) (aCons (eC (.int 5)) aNil))) aNil)))
    (sSeq (sAsg (eFn F_law_any [] (aCons (eVar 0) (aCons (eOp addW (eLst (aCons (eC (.str [59])) (aCons (eC (.str [44])) (aCons (eC (.str [62])) (aCons (eC (.str [108, 97, 116, 101])) (aCons (eC (.str [109, 105, 120])) (aCons (eC (.str [117, 115, 101])) (aCons (eC (.str [115, 111, 117, 114, 99, 101])) (aCons (eC (.str [112, 97, 105, 114])) (aCons (eC (.str [])) (aCons (eC (.str [48])) (aCons (eC (.str [45, 48])) (aCons (eC (.str [53])) (aCons (eC (.str [45, 55])) (aCons (eC (.str [57, 57])) (aCons (eC (.str [49, 48, 48])) (aCons (eC (.str [45, 49, 48, 48])) (aCons (eC (.str [48, 55])) (aCons (eC (.str [43, 49])) (aCons (eC (.str [49, 45])) (aCons (eC (.str [97, 49])) (aCons (eC (.str [65])) (aCons (eC (.str [97, 98, 99, 100, 101])) (aCons (eC (.str [97, 47, 98])) aNil)))))))))))))))))))))))) (eVar 2)) aNil))) (gN 5))
    (sSeq (sIf (eOp eqW (eVar 4) (eC (.int 0))) (sRet (eOp addW (eSl (eVar 1) pNo (pSm (eVar 3))) (eSl (eVar 1) (pSm (eOp addW (eVar 3) (eC (.int 1)))) pNo))) sNil)
    (sSeq (sIf (eOp eqW (eVar 4) (eC (.int 1))) (sRet (eSl (eVar 1) pNo (pSm (eVar 3)))) sNil)
    (sRet (eOp addW (eOp addW (eSl (eVar 1) pNo (pSm (eVar 3))) (eIf (eOp ltW (eVar 4) (eC (.int 4))) (eLst (aCons (eVar 5) aNil)) (eOp mulW (eSl (eVar 1) (pSm (eVar 3)) (pSm (eOp addW (eVar 3) (eC (.int 1))))) (eC (.int 2))))) (eSl (eVar 1) (pSm (eOp addW (eVar 3) (eCall intD (aCons (eOp gtW (eVar 4) (eC (.int 2))) aNil)))) pNo)))))))
def F_law_bent : Fn := mkFn 3 6 B_law_bent
/- names of _law_words: 0:_law_parts_here 1:_law_outs 2:_law_found 3:_law_part_here -/
def L1_law_words_v : SF :=
    (sAsg (eOp addW (eOp addW (eVar 2) (eFn F_law_part_words [] (aCons (eVar 3) aNil))) (eLst (aCons (eC (.str [59])) aNil))) (gN 2))
def R1_law_words_v : SF :=
    (sRet (eOp addW (eOp addW (eVar 2) (eLst (aCons (eC (.str [62])) aNil))) (eCall listW (aCons (eVar 1) aNil))))
def B_law_words_v : SF :=
    (sSeq (sAsg (eLst aNil) (gN 2))
    (sSeq (sFor (iSeq (eVar 0)) (gN 3)
    L1_law_words_v)
    R1_law_words_v))
def F_law_words_v : Fn := mkFn 2 4 B_law_words_v
/- names of _law_is_name: 0:_law_word 1:_law_sign -/
def C1_law_is_name : EF :=
    (eOp inD (eVar 1) (eC (.str [97, 98, 99, 100, 101, 102, 103, 104, 105, 106, 107, 108, 109, 110, 111, 112, 113, 114, 115, 116, 117, 118, 119, 120, 121, 122])))
def B_law_is_name : SF :=
    (sRet (eAnd (eChain leW leW (eC (.int 1)) (eCall lenW (aCons (eVar 0) aNil)) (eC (.int 4))) (eCall allW (aCons (eComp [1] (iSeq (eVar 0)) (gN 1) (eC (.bl true)) C1_law_is_name) aNil))))
def F_law_is_name : Fn := mkFn 1 2 B_law_is_name
/- names of _law_names_end: 0:_law_words_here 1:_law_at 2:_law_most 3:_law_k -/
def L1_law_names_end : SF :=
    (sIf (eAnd (eOp ltW (eVar 1) (eCall lenW (aCons (eVar 0) aNil))) (eFn F_law_is_name [] (aCons (eOp ixD (eVar 0) (eVar 1)) aNil))) (sAsg (eOp addW (eVar 1) (eC (.int 1))) (gN 1)) sNil)
def R1_law_names_end : SF :=
    (sRet (eVar 1))
def B_law_names_end : SF :=
    (sSeq (sFor (iRange1 (aCons (eVar 2) aNil)) (gN 3)
    L1_law_names_end)
    R1_law_names_end)
def F_law_names_end : Fn := mkFn 3 4 B_law_names_end
/- names of _law_mix_end: 0:_law_words_here 1:_law_at 2:_law_factors 3:_law_k 4:_law_number -/
def C1_law_mix_end : EF :=
    (eCall strW (aCons (eVar 4) aNil))
def L1_law_mix_end : SF :=
    (sSeq (sIf (eOr (eOp geW (eVar 1) (eCall lenW (aCons (eVar 0) aNil))) (eOp ninD (eOp ixD (eVar 0) (eVar 1)) (eVar 2))) (sRet (eTup (aCons (eC (.bl false)) (aCons (eVar 1) aNil)))) sNil)
    (sSeq (sIf (eOr (eOp geW (eOp addW (eVar 1) (eC (.int 1))) (eCall lenW (aCons (eVar 0) aNil))) (eNot (eFn F_law_is_name [] (aCons (eOp ixD (eVar 0) (eOp addW (eVar 1) (eC (.int 1)))) aNil)))) (sRet (eTup (aCons (eC (.bl false)) (aCons (eOp addW (eVar 1) (eC (.int 1))) aNil)))) sNil)
    (sSeq (sAsg (eOp addW (eVar 1) (eC (.int 2))) (gN 1))
    (sSeq (sIf (eAnd (eOp ltW (eVar 1) (eCall lenW (aCons (eVar 0) aNil))) (eOp eqW (eOp ixD (eVar 0) (eVar 1)) (eC (.str [108, 97, 116, 101])))) (sSeq (sIf (eOr (eOp geW (eOp addW (eVar 1) (eC (.int 1))) (eCall lenW (aCons (eVar 0) aNil))) (eOp ninD (eOp ixD (eVar 0) (eOp addW (eVar 1) (eC (.int 1)))) (eLst (aCons (eC (.str [49])) (aCons (eC (.str [50])) (aCons (eC (.str [51])) (aCons (eC (.str [52])) aNil))))))) (sRet (eTup (aCons (eC (.bl false)) (aCons (eOp addW (eVar 1) (eC (.int 1))) aNil)))) sNil)
    (sAsg (eOp addW (eVar 1) (eC (.int 2))) (gN 1))) sNil)
    (sSeq (sIf (eOr (eOp geW (eVar 1) (eCall lenW (aCons (eVar 0) aNil))) (eOr (eOp neW (eOp ixD (eVar 0) (eVar 1)) (eC (.str [44]))) (eOp eqW (eVar 3) (eC (.int 5))))) (sRet (eTup (aCons (eC (.bl true)) (aCons (eVar 1) aNil)))) sNil)
    (sAsg (eOp addW (eVar 1) (eC (.int 1))) (gN 1)))))))
def R1_law_mix_end : SF :=
    (sRet (eTup (aCons (eC (.bl true)) (aCons (eVar 1) aNil))))
def B_law_mix_end : SF :=
    (sSeq (sAsg (eComp [4] (iRange2 (aCons (eNeg (eC (.int 99))) (aCons (eC (.int 100)) aNil))) (gN 4) (eC (.bl true)) C1_law_mix_end) (gN 2))
    (sSeq (sIf (eOr (eOp geW (eVar 1) (eCall lenW (aCons (eVar 0) aNil))) (eOp ninD (eOp ixD (eVar 0) (eVar 1)) (eVar 2))) (sRet (eTup (aCons (eC (.bl true)) (aCons (eVar 1) aNil)))) sNil)
    (sSeq (sFor (iRange1 (aCons (eC (.int 6)) aNil)) (gN 3)
    L1_law_mix_end)
    R1_law_mix_end)))
def F_law_mix_end : Fn := mkFn 2 5 B_law_mix_end
/- names of _law_part_end: 0:_law_words_here 1:_law_at 2:_law_word 3:_law_least 4:_law_most 5:_law_end -/
def B_law_part_end : SF :=
    (sSeq (sIf (eOr (eOp geW (eVar 1) (eCall lenW (aCons (eVar 0) aNil))) (eNot (eFn F_law_is_name [] (aCons (eOp ixD (eVar 0) (eVar 1)) aNil)))) (sRet (eTup (aCons (eC (.bl false)) (aCons (eVar 1) aNil)))) sNil)
    (sSeq (sAsg (eIf (eOp ltW (eOp addW (eVar 1) (eC (.int 1))) (eCall lenW (aCons (eVar 0) aNil))) (eOp ixD (eVar 0) (eOp addW (eVar 1) (eC (.int 1)))) (eC (.str []))) (gN 2))
    (sSeq (sIf (eOp ninD (eVar 2) (eLst (aCons (eC (.str [115, 111, 117, 114, 99, 101])) (aCons (eC (.str [109, 105, 120])) (aCons (eC (.str [112, 108, 97, 105, 110])) (aCons (eC (.str [111, 100, 100])) (aCons (eC (.str [107, 101, 101, 112])) (aCons (eC (.str [112, 97, 105, 114])) (aCons (eC (.str [117, 115, 101])) aNil))))))))) (sRet (eTup (aCons (eC (.bl false)) (aCons (eOp addW (eVar 1) (eC (.int 1))) aNil)))) sNil)
    (sSeq (sIf (eOp eqW (eVar 2) (eC (.str [115, 111, 117, 114, 99, 101]))) (sRet (eTup (aCons (eC (.bl true)) (aCons (eOp addW (eVar 1) (eC (.int 2))) aNil)))) sNil)
    (sSeq (sIf (eOp eqW (eVar 2) (eC (.str [109, 105, 120]))) (sRet (eFn F_law_mix_end [] (aCons (eVar 0) (aCons (eOp addW (eVar 1) (eC (.int 2))) aNil)))) sNil)
    (sSeq (sAsg (eIf (eOp eqW (eVar 2) (eC (.str [117, 115, 101]))) (eTup (aCons (eC (.int 1)) (aCons (eC (.int 5)) aNil))) (eIf (eOp eqW (eVar 2) (eC (.str [112, 97, 105, 114]))) (eTup (aCons (eC (.int 3)) (aCons (eC (.int 3)) aNil))) (eTup (aCons (eC (.int 2)) (aCons (eC (.int 2)) aNil))))) (gT 2 (gs1 (gN 3) (gs1 (gN 4) gs0))))
    (sSeq (sAsg (eFn F_law_names_end [] (aCons (eVar 0) (aCons (eOp addW (eVar 1) (eC (.int 2))) (aCons (eVar 4) aNil)))) (gN 5))
    (sRet (eTup (aCons (eOp geW (eVar 5) (eOp addW (eOp addW (eVar 1) (eC (.int 2))) (eVar 3))) (aCons (eVar 5) aNil)))))))))))
def F_law_part_end : Fn := mkFn 2 6 B_law_part_end
/- names of _law_wrong_word: 0:_law_words_here 1:_law_at 2:_law_k 3:_law_end 4:_law_good -/
def L1_law_wrong_word : SF :=
    (sSeq (sIf (eAnd (eOp ltW (eVar 1) (eCall lenW (aCons (eVar 0) aNil))) (eOp eqW (eOp ixD (eVar 0) (eVar 1)) (eC (.str [62])))) (sSeq (sAsg (eFn F_law_names_end [] (aCons (eVar 0) (aCons (eOp addW (eVar 1) (eC (.int 1))) (aCons (eC (.int 4)) aNil)))) (gN 3))
    (sRet (eIf (eAnd (eOp eqW (eVar 3) (eCall lenW (aCons (eVar 0) aNil))) (eOp gtW (eVar 3) (eOp addW (eVar 1) (eC (.int 1))))) (eNeg (eC (.int 1))) (eVar 3)))) sNil)
    (sSeq (sAsg (eFn F_law_part_end [] (aCons (eVar 0) (aCons (eVar 1) aNil))) (gT 2 (gs1 (gN 4) (gs1 (gN 1) gs0))))
    (sSeq (sIf (eOr (eNot (eVar 4)) (eOr (eOp geW (eVar 1) (eCall lenW (aCons (eVar 0) aNil))) (eOp neW (eOp ixD (eVar 0) (eVar 1)) (eC (.str [59]))))) (sRet (eVar 1)) sNil)
    (sAsg (eOp addW (eVar 1) (eC (.int 1))) (gN 1)))))
def R1_law_wrong_word : SF :=
    (sRet (eVar 1))
def B_law_wrong_word : SF :=
    (sSeq (sAsg (eC (.int 0)) (gN 1))
    (sSeq (sFor (iRange1 (aCons (eOp addW (eCall lenW (aCons (eVar 0) aNil)) (eC (.int 1))) aNil)) (gN 2)
    L1_law_wrong_word)
    R1_law_wrong_word))
def F_law_wrong_word : Fn := mkFn 1 5 B_law_wrong_word
/- names of law: 0:_law_script 1:_law_bag_here 2:_law_turn 3:_law_names_here 4:_law_parts_here 5:_law_words_here 6:_law_text 7:_law_wrong 8:_law_found 9:_law_late 10:_law_odds 11:_law_odd -/
def L1_law : SF :=
    (sSeq (sAsg (eFn F_law_mixed [] (aCons (eVar 1) (aCons (eFn F_law_names [] (aCons (eVar 1) (aCons (eC (.int 7)) aNil))) aNil))) (gN 3))
    (sSeq (sAsg (eFn F_law_parts [] (aCons (eVar 1) (aCons (eSl (eVar 3) pNo (pSm (eOp addW (eC (.int 1)) (eFn F_law_pull [] (aCons (eVar 1) (aCons (eC (.int 6)) aNil)))))) (aCons (eFn F_law_pull [] (aCons (eVar 1) (aCons (eC (.int 2)) aNil))) (aCons (eFn F_law_boxes [] (aCons (eVar 1) (aCons (eSl (eVar 3) pNo (pSm (eC (.int 2)))) aNil))) aNil))))) (gN 4))
    (sSeq (sIf (eOp eqW (eFn F_law_pull [] (aCons (eVar 1) (aCons (eC (.int 3)) aNil))) (eC (.int 0))) (sAsg (eOp addW (eVar 4) (eLst (aCons (eTup (aCons (eC (.str [117, 115, 101])) (aCons (eOp ixD (eVar 3) (eC (.int 6))) (aCons (eOp ixD (eVar 3) (eC (.int 0))) (aCons (eCall tupleW (aCons (eSl (eVar 3) pNo (pSm (eFn F_law_pull [] (aCons (eVar 1) (aCons (eC (.int 5)) aNil))))) aNil)) aNil))))) aNil))) (gN 4)) sNil)
    (sSeq (sIf (eOp eqW (eFn F_law_pull [] (aCons (eVar 1) (aCons (eC (.int 4)) aNil))) (eC (.int 0))) (sAsg (eOp addW (eVar 4) (eLst (aCons (eTup (aCons (eC (.str [109, 105, 120])) (aCons (eOp ixD (eVar 3) (eC (.int 6))) (aCons (eOp repW (eTup (aCons (eTup (aCons (eC (.int 1)) (aCons (eC (.int 1)) (aCons (eOp ixD (eVar 3) (eC (.int 0))) aNil)))) aNil)) (eC (.int 6))) aNil)))) aNil))) (gN 4)) sNil)
    (sSeq (sAsg (eFn F_law_bent [] (aCons (eVar 1) (aCons (eFn F_law_words_v [] (aCons (eVar 4) (aCons (eSl (eVar 3) pNo (pSm (eOp addW (eC (.int 1)) (eFn F_law_pull [] (aCons (eVar 1) (aCons (eC (.int 4)) aNil)))))) aNil))) (aCons (eVar 3) aNil)))) (gN 5))
    (sSeq (sIf (eOp eqW (eFn F_law_pull [] (aCons (eVar 1) (aCons (eC (.int 3)) aNil))) (eC (.int 0))) (sAsg (eFn F_law_bent [] (aCons (eVar 1) (aCons (eVar 5) (aCons (eVar 3) aNil)))) (gN 5)) sNil)
    (sSeq (sAsg (eJoin (eC (.str [32])) (eVar 5)) (gN 6))
    (sSeq (sAsg (eSplit (eVar 6) (eC (.str [32]))) (gN 5))
    (sSeq (sAsg (eFn F_law_wrong_word [] (aCons (eVar 5) aNil)) (gN 7))
    (sSeq (sAsg (eWhy X_law_field ([(1, 1)] : List (Nat × Nat)) (eFn F_read_net [] (aCons (eVar 6) aNil))) (gN 8))
    (sSeq (sAsg (eIf (eOp geW (eVar 7) (eC (.int 0))) (eWhy X_law_field ([(1, 1)] : List (Nat × Nat)) (eFn (permF [0, 1] F_Net_read) [.non] (aCons (eVar 6) aNil))) (eVar 8)) (gN 9))
    (sSeq (sIf (eAnd (eOp geW (eVar 7) (eC (.int 0))) (eNot (eFn (F_law_same 8) [] (aCons (eLst (aCons (eVar 8) (aCons (eVar 9) aNil))) (aCons (eOp mulW (eLst (aCons (eTup (aCons (eC (.str [73, 110, 118, 97, 108, 105, 100, 84, 101, 120, 116])) (aCons (eTup (aCons (eVar 7) aNil)) aNil))) aNil)) (eC (.int 2))) aNil))))) (sRet (eC (.bl false))) sNil)
    (sIf (eAnd (eOp ltW (eVar 7) (eC (.int 0))) (eNot (eAnd (eFn (F_law_same 8) [] (aCons (eOp ixD (eVar 8) (eC (.int 0))) (aCons (eC (.str [])) aNil))) (eFn (F_law_same 8) [] (aCons (eFn F_text_of [] (aCons (eOp ixD (eOp ixD (eVar 8) (eC (.int 1))) (eC (.int 0))) (aCons (eOp ixD (eOp ixD (eVar 8) (eC (.int 1))) (eC (.int 1))) aNil))) (aCons (eVar 6) aNil)))))) (sRet (eC (.bl false))) sNil)))))))))))))
def C1_law : EF :=
    (eWhy X_law_field ([(1, 1)] : List (Nat × Nat)) (eFn F_read_net [] (aCons (eVar 11) aNil)))
def C2_law : EF :=
    (eWhy X_law_field ([(1, 1)] : List (Nat × Nat)) (eFn (permF [0, 1] F_Net_read) [.non] (aCons (eVar 11) aNil)))
def R1_law : SF :=
    (sSeq (sAsg (eLst (aCons (eC .non) (aCons (eC (.int 3)) (aCons (eC (.bl true)) (aCons (eLst (aCons (eC (.str [97])) aNil)) (aCons (eTup (aCons (eC (.str [62, 32, 97])) aNil)) aNil)))))) (gN 10))
    (sSeq (sAsg (eComp [11] (iSeq (eVar 10)) (gN 11) (eC (.bl true)) C1_law) (gN 8))
    (sSeq (sAsg (eOp addW (eVar 8) (eComp [11] (iSeq (eVar 10)) (gN 11) (eC (.bl true)) C2_law)) (gN 8))
    (sRet (eAnd (eFn (F_law_same 8) [] (aCons (eVar 8) (aCons (eOp mulW (eLst (aCons (eTup (aCons (eC (.str [73, 110, 118, 97, 108, 105, 100, 84, 101, 120, 116])) (aCons (eTup (aCons (eC (.int 0)) aNil)) aNil))) aNil)) (eC (.int 10))) aNil))) (eFn (F_law_same 8) [] (aCons (eWhy X_law_field ([(1, 1)] : List (Nat × Nat)) (eFn F_read_net [] (aCons (eC (.str [])) aNil))) (aCons (eTup (aCons (eC (.str [73, 110, 118, 97, 108, 105, 100, 84, 101, 120, 116])) (aCons (eTup (aCons (eC (.int 0)) aNil)) aNil))) aNil))))))))
def B_law : SF :=
    (sSeq (sAsg (eFn F_law_bag [] (aCons (eVar 0) aNil)) (gN 1))
    (sSeq (sFor (iRange1 (aCons (eC (.int 5)) aNil)) (gN 2)
    L1_law)
    R1_law))
def F_law : Fn := mkFn 1 12 B_law
end K10

namespace K10
open PySem
open L2
open U
/-! ### reading: the state of Words -/
def st (ws : List (List Nat)) (k : Nat) : O := .ins 0 [.lst (ws.map .str), .int k]
theorem cls_st (o : O) (ws : List (List Nat)) (k : Nat) (L : Gs) : clsOf (.ref 1) (o :: st ws k :: L) = some 0 := rfl
abbrev sCODE : List Nat := [73, 110, 118, 97, 108, 105, 100, 84, 101, 120, 116]
def bad (j : Nat) : W := .obj 1 [.int j, .str sCODE]
structure Wd (ws : List (List Nat)) : Prop where
  z : ws.length ≤ 100000
  l : ∀ x ∈ ws, x.length ≤ 30
theorem Wd.at {ws : List (List Nat)} (h : Wd ws) {k : Nat} {x : List Nat} (e : ws[k]? = some x) : x.length ≤ 30 := h.l x (List.mem_of_getElem? e)
def out (o : O) (ws : List (List Nat)) (L : Gs) : Except Nat (W × Nat) → Res
  | .error j => .exc (bad j) (o :: st ws j :: L)
  | .ok (v, j) => .ok v (o :: st ws j :: L)
@[simp] theorem out_err (o : O) (ws : List (List Nat)) (L : Gs) (j : Nat) : out o ws L (.error j) = .exc (bad j) (o :: st ws j :: L) := rfl
@[simp] theorem out_ok (o : O) (ws : List (List Nat)) (L : Gs) (v : W) (j : Nat) : out o ws L (.ok (v, j)) = .ok v (o :: st ws j :: L) := rfl
def nm (ws : List (List Nat)) (k : Nat) : Bool := match ws[k]? with
  | some x => nameB x
  | none => false
def wd (ws : List (List Nat)) (k : Nat) : List Nat := ws[k]?.getD []
theorem nm_some {ws : List (List Nat)} {k : Nat} (h : nm ws k = true) : ws[k]? = some (wd ws k) ∧ NameW (wd ws k) := by
  unfold nm at h
  split at h
  · rename_i x e
    unfold wd
    rw [e]
    exact ⟨rfl, h⟩
  · cases h
section
variable {ws : List (List Nat)} {k : Nat} (H : Wd ws) (o : O) (L : Gs)
include H
theorem here_some {x : List Nat} (e : ws[k]? = some x) : F_Words_here [.ref 1] (o :: st ws k :: L) = .ok (.str x) (o :: st ws k :: L) := by
  obtain ⟨hk, hx⟩ := List.getElem?_eq_some_iff.mp e
  have h1 : (k : Int) < (ws.length : Int) := by omega
  have hz : ws.length ≤ 16777216 := by have := H.z; omega
  simp [F_Words_here, B_Words_here, st, clsOf, fldsOf, List.lookup_cons, h1, hz, hk, dOf, atI, ixN]
  exact hx
theorem here_none (e : ws[k]? = none) : F_Words_here [.ref 1] (o :: st ws k :: L) = .ok .non (o :: st ws k :: L) := by
  have hk : ws.length ≤ k := List.getElem?_eq_none_iff.mp e
  have h1 : ¬ (k : Int) < (ws.length : Int) := by omega
  have hz : ws.length ≤ 16777216 := by have := H.z; omega
  simp [F_Words_here, B_Words_here, st, clsOf, fldsOf, List.lookup_cons, h1, hz]
theorem take_yes {x : List Nat} (e : ws[k]? = some x) : F_Words_take [.ref 1, .bl true] (o :: st ws k :: L) = .ok (.str x) (o :: st ws (k + 1) :: L) := by
  have h := here_some H o L e
  simp [F_Words_take, B_Words_take, cls_st, -clsOf_ref, List.lookup_cons, h]
  simp [st]
theorem take_no : F_Words_take [.ref 1, .bl false] (o :: st ws k :: L) = .exc (bad k) (o :: st ws k :: L) := by
  cases e : ws[k]? with
  | none =>
    have h := here_none H o L e
    simp [F_Words_take, B_Words_take, cls_st, -clsOf_ref, List.lookup_cons, h]
    simp [st, fldsOf, bad]
  | some x =>
    have h := here_some H o L e
    simp [F_Words_take, B_Words_take, cls_st, -clsOf_ref, List.lookup_cons, h]
    simp [st, fldsOf, bad]
theorem take_end (b : Bool) (e : ws[k]? = none) : F_Words_take [.ref 1, .bl b] (o :: st ws k :: L) = .exc (bad k) (o :: st ws k :: L) := by
  have h := here_none H o L e
  simp [F_Words_take, B_Words_take, cls_st, -clsOf_ref, List.lookup_cons, h]
  simp [st, fldsOf, bad]
theorem is_nm : ∃ w, F_Words_here [.ref 1] (o :: st ws k :: L) = .ok w (o :: st ws k :: L) ∧ F_is_name [w] (o :: st ws k :: L) = .ok (.bl (nm ws k)) (o :: st ws k :: L) := by
  cases e : ws[k]? with
  | none => exact ⟨.non, here_none H o L e, by simp [F_is_name, B_is_name, nm, e]⟩
  | some x => exact ⟨.str x, here_some H o L e, by rw [is_name_str x (by have := H.at e; omega)]; simp [nm, e]⟩
theorem take_name : F_Words_take_name [.ref 1] (o :: st ws k :: L) = out o ws L (if nm ws k then .ok (.str (wd ws k), k + 1) else .error k) := by
  obtain ⟨w, e1, e2⟩ := is_nm (k := k) H o L
  cases h : nm ws k with
  | true =>
    rw [h] at e2
    have t := take_yes H o L (nm_some h).1
    simp [F_Words_take_name, B_Words_take_name, cls_st, -clsOf_ref, List.lookup_cons, e1, e2, t]
  | false =>
    rw [h] at e2
    have t := take_no (k := k) H o L
    simp [F_Words_take_name, B_Words_take_name, cls_st, -clsOf_ref, List.lookup_cons, e1, e2, t]
end
/-! ### numbers -/
def DIG : List Nat := [48, 49, 50, 51, 52, 53, 54, 55, 56, 57]
def isDig (c : Nat) : Bool := decide (c ∈ DIG)
def negW (w : List Nat) : Bool := Txt.startswith ⟨w.toArray⟩ ⟨[45].toArray⟩
def digs (w : List Nat) : List Nat := if negW w then w.drop 1 else w
def numOf (w : List Nat) : Option Int :=
  if (digs w).length = 0 ∨ 2 < (digs w).length ∨ (digs w).all isDig = false then none else
  match PySem.intText? ⟨(digs w).toArray⟩ with
  | some n => if strI n = digs w ∧ (n = 0 → digs w = w) then some (if digs w = w then n else -n) else none
  | none => none
def DL : List (List Nat) := DIG.map (fun c => [c]) ++ DIG.flatMap fun c => DIG.map fun d => [c, d]
def okD (d : List Nat) : Bool := match PySem.intText? ⟨d.toArray⟩ with
  | some n => decide (0 ≤ n) && decide (n < 100)
  | none => false
theorem okD_all : ∀ d ∈ DL, okD d = true := by decide +kernel
theorem mem_DL {d : List Nat} (h0 : ¬ d.length = 0) (h2 : ¬ 2 < d.length) (h : d.all isDig = true) : d ∈ DL := by
  match d, h0, h2, h with
  | [c], _, _, h =>
    simp [isDig] at h
    exact List.mem_append_left _ (List.mem_map.mpr ⟨c, h, rfl⟩)
  | [c, e], _, _, h =>
    simp [isDig] at h
    exact List.mem_append_right _ (List.mem_flatMap.mpr ⟨c, h.1, List.mem_map.mpr ⟨e, h.2, rfl⟩⟩)
  | [], h0, _, _ => exact absurd rfl h0
  | _ :: _ :: _ :: _, _, h2, _ => exact absurd (by simp) h2
theorem strI_neg : ∀ n < 100, strI (-((n + 1 : Nat) : Int)) = 45 :: strI ((n + 1 : Nat) : Int) := by decide +kernel
theorem num_all : ∀ n < 100, numOf (strI (n : Nat)) = some (n : Int) ∧ numOf (strI (-(n : Nat))) = some (-(n : Int)) := by decide +kernel
theorem numOf_str {i : Int} (h0 : -99 ≤ i) (h1 : i ≤ 99) : numOf (strI i) = some i := by
  rcases Int.le_total 0 i with h | h
  · have := (num_all i.toNat (by omega)).1
    rwa [show ((i.toNat : Nat) : Int) = i by omega] at this
  · have := (num_all (-i).toNat (by omega)).2
    rwa [show -(((-i).toNat : Nat) : Int) = i by omega] at this
theorem negW_cons {w : List Nat} (h : negW w = true) : ∃ r, w = 45 :: r := by
  unfold negW Txt.startswith Builtin.Str.subAt at h
  simp only [Bool.and_eq_true, decide_eq_true_eq, beq_iff_eq] at h
  have h2 := congrArg Array.toList h.2
  match w, h2 with
  | [], h2 => simp [Str.length] at h2
  | c :: r, h2 =>
    simp [Str.length] at h2
    exact ⟨r, by rw [h2]⟩
theorem numOf_some {w : List Nat} {i : Int} (h : numOf w = some i) : -99 ≤ i ∧ i ≤ 99 ∧ w = strI i := by
  unfold numOf at h
  split at h
  · cases h
  · rename_i h0
    simp only [not_or, Bool.not_eq_false] at h0
    obtain ⟨a, b, c⟩ := h0
    have ok := okD_all _ (mem_DL a b c)
    unfold okD at ok
    split at h
    · rename_i n e
      rw [e] at ok
      simp only [Bool.and_eq_true, decide_eq_true_eq] at ok
      split at h
      · rename_i q
        obtain ⟨q1, q2⟩ := q
        injection h with h
        by_cases hw : digs w = w
        · rw [if_pos hw] at h
          subst h
          exact ⟨by omega, by omega, by rw [q1, hw]⟩
        · rw [if_neg hw] at h
          subst h
          refine ⟨by omega, by omega, ?_⟩
          have hn : negW w = true := by
            cases z : negW w with
            | true => rfl
            | false => exact absurd (by simp [digs, z]) hw
          obtain ⟨r, rfl⟩ := negW_cons hn
          have hd : digs (45 :: r) = r := by simp [digs, hn]
          rw [hd] at q1
          have n0 : n ≠ 0 := fun z => hw (q2 z)
          have s := strI_neg (n.toNat - 1) (by omega)
          rw [show ((n.toNat - 1 + 1 : Nat) : Int) = n by omega] at s
          rw [s, q1]
      · cases h
    · cases h
theorem number_in (w : List Nat) (a b : Int) (G : Gs) (hwl : w.length ≤ 100) :
    F_number_in [.str w, .int a, .int b] G = .ok (match numOf w with | some v => if a ≤ v ∧ v ≤ b then .int v else .non | none => .non) G := by
  have comp : compL (gN 5) (eC (.bl true)) C1_number_in [some (.str w), some (.int a), some (.int b), some (.str (digs w)), none, none] ((digs w).map fun c => W.str [c]) [] G = .ok (.lst ((digs w).map fun c => .bl (isDig c))) G := by
    have hd : (digs w).length ≤ w.length := by unfold digs; split <;> simp
    have := compL_map (gN 5) (eC (.bl true)) C1_number_in [some (.str w), some (.int a), some (.int b), some (.str (digs w)), none, none] (fun w => match w with | .str [c] => .bl (isDig c) | _ => .non) G ((digs w).map fun c => .str [c]) [] (fun x hx => by
      obtain ⟨c, hc, rfl⟩ := List.mem_map.mp hx
      exact ⟨[some (.str w), some (.int a), some (.int b), some (.str (digs w)), none, some (.str [c])], by simp, by simp, by simp [C1_number_in, isDig, DIG, dOf]⟩) (by simp [SZ]; omega)
    rw [this]
    simp [List.map_map, Function.comp_def]
  have hb := bls_map isDig (digs w)
  have zw : w.length ≤ 16777216 := by omega
  have zd : (digs w).length ≤ w.length := by unfold digs; split <;> simp
  have z1 : (digs w).length ≤ 16777216 := by omega
  have e0 : (if Txt.startswith ⟨w.toArray⟩ ⟨#[45]⟩ = true then cut w (some 1) none else w) = digs w := by
    have hcut : cut w (some 1) none = w.drop 1 := cut_drop w 1
    rw [hcut]
    rfl
  have hall : ((digs w).map isDig).all id = (digs w).all isDig := all_bl _ _
  unfold F_number_in B_number_in numOf
  by_cases h0 : (digs w).length = 0
  · have h0' : digs w = [] := List.eq_nil_of_length_eq_zero h0
    simp [e0, h0', zw]
  have h0i : ¬ ((digs w).length : Int) = 0 := by omega
  have h0n : ¬ digs w = [] := fun e => h0 (by rw [e]; rfl)
  by_cases h2 : 2 < (digs w).length
  · have h2i : 2 < ((digs w).length : Int) := by omega
    simp [e0, z1, h0n, h2, h2i, zw]
  have h2i : ¬ 2 < ((digs w).length : Int) := by omega
  cases h3 : (digs w).all isDig with
  | false =>
    rw [h3] at hall
    simp [e0, z1, zw, h0n, h2, h2i, comp, hb, hall, h3]
  | true =>
    rw [h3] at hall
    have ok := okD_all _ (mem_DL h0 h2 h3)
    unfold okD at ok
    cases e : PySem.intText? ⟨(digs w).toArray⟩ with
    | none => rw [e] at ok; cases ok
    | some n =>
      rw [e] at ok
      simp only [Bool.and_eq_true, decide_eq_true_eq] at ok
      have hc : cStr n = true := cStr_ok (by omega)
      have z4 : (digs w).length ≤ 640 := by omega
      by_cases q1 : strI n = digs w
      · by_cases q2 : digs w = w
        · have q3 : strI n = w := by rw [q1, q2]
          rw [q2] at e0 z1 h0n h2i comp hb hall e z4 h2 h3
          simp [e0, z1, zw, h0n, h2, h2i, comp, hb, hall, h3, e, hc, q2, q3, z4]
        · by_cases q3 : n = 0
          · subst q3
            simp [e0, z1, zw, h0n, h2, h2i, comp, hb, hall, h3, e, hc, q1, q2, z4]
          · simp [e0, z1, zw, h0n, h2, h2i, comp, hb, hall, h3, e, hc, q1, q2, q3, z4]
      · simp [e0, z1, zw, h0n, h2, h2i, comp, hb, hall, h3, e, hc, q1, z4]
def numAt (ws : List (List Nat)) (k : Nat) (a b : Int) : Option Int := match ws[k]? with
  | some x => (match numOf x with
    | some v => if a ≤ v ∧ v ≤ b then some v else none
    | none => none)
  | none => none
theorem numAt_some {ws : List (List Nat)} {k : Nat} {a b v : Int} (h : numAt ws k a b = some v) : ws[k]? = some (strI v) ∧ -99 ≤ v ∧ v ≤ 99 ∧ a ≤ v ∧ v ≤ b := by
  unfold numAt at h
  split at h
  · rename_i x e
    split at h
    · rename_i u q
      split at h
      · rename_i r
        cases h
        obtain ⟨q1, q2, q3⟩ := numOf_some q
        exact ⟨by rw [e, q3], q1, q2, r.1, r.2⟩
      · cases h
    · cases h
  · cases h
section
variable {ws : List (List Nat)} {k : Nat} (H : Wd ws) (o : O) (L : Gs)
include H
theorem num_read (a b : Int) (G : Gs) {x : List Nat} (e : ws[k]? = some x) : F_number_in [.str x, .int a, .int b] G = .ok (match numAt ws k a b with | some v => .int v | none => .non) G := by
  rw [number_in x a b G (by have := H.at e; omega)]
  have hn : numAt ws k a b = match numOf x with
      | some v => if a ≤ v ∧ v ≤ b then some v else none
      | none => none := by unfold numAt; rw [e]
  rw [hn]
  cases q : numOf x with
  | none => rfl
  | some v => by_cases r : a ≤ v ∧ v ≤ b <;> simp [r]
theorem take_number (a b : Int) : F_Words_take_number [.ref 1, .int a, .int b] (o :: st ws k :: L) = out o ws L (match numAt ws k a b with | some v => .ok (.int v, k + 1) | none => .error k) := by
  cases e : ws[k]? with
  | none =>
    have h1 := here_none H o L e
    have h2 := take_no (k := k) H o L
    simp [F_Words_take_number, B_Words_take_number, cls_st, -clsOf_ref, List.lookup_cons, h1, h2, numAt, e]
  | some x =>
    have h1 := here_some H o L e
    have h3 := num_read H a b (o :: st ws k :: L) e
    cases q : numAt ws k a b with
    | none =>
      rw [q] at h3
      have h2 := take_no (k := k) H o L
      simp [F_Words_take_number, B_Words_take_number, cls_st, -clsOf_ref, List.lookup_cons, h1, h2, h3]
    | some v =>
      rw [q] at h3
      have h2 := take_yes H o L e
      simp [F_Words_take_number, B_Words_take_number, cls_st, -clsOf_ref, List.lookup_cons, h1, h2, h3]
end
abbrev sLATE : List Nat := [108, 97, 116, 101]
/-- a term from k -/
def tmR (ws : List (List Nat)) (k : Nat) : Except Nat (W × Nat) := match numAt ws k (-99) 99 with
  | none => .error k
  | some f => if nm ws (k + 1) then
      (if ws[k + 2]? = some sLATE then (match numAt ws (k + 3) 1 4 with
        | none => .error (k + 3)
        | some d => .ok (.tup [.int f, .int d, .str (wd ws (k + 1))], k + 4))
      else .ok (.tup [.int f, .int 0, .str (wd ws (k + 1))], k + 2))
    else .error (k + 1)
section
variable {ws : List (List Nat)} {k : Nat} (H : Wd ws) (o : O) (L : Gs)
include H
theorem here_is (s : List Nat) : ∃ w, F_Words_here [.ref 1] (o :: st ws k :: L) = .ok w (o :: st ws k :: L) ∧ eqB w (.str s) = some (decide (ws[k]? = some s)) := by
  cases e : ws[k]? with
  | none => exact ⟨.non, here_none H o L e, by simp⟩
  | some x => exact ⟨.str x, here_some H o L e, by simp⟩
theorem take_term : F_Words_take_term [.ref 1] (o :: st ws k :: L) = out o ws L (tmR ws k) := by
  unfold tmR
  have e1 := take_number (k := k) H o L (-99) 99
  cases q1 : numAt ws k (-99) 99 with
  | none =>
    rw [q1] at e1
    simp [F_Words_take_term, B_Words_take_term, cls_st, -clsOf_ref, List.lookup_cons, e1]
  | some f =>
    rw [q1] at e1
    have e2 := take_name (k := k + 1) H o L
    cases q2 : nm ws (k + 1) with
    | false =>
      rw [q2] at e2
      simp at e1 e2
      simp [F_Words_take_term, B_Words_take_term, cls_st, -clsOf_ref, List.lookup_cons, e1, e2]
    | true =>
      rw [q2] at e2
      simp at e1 e2
      obtain ⟨w, e3, e4⟩ := here_is (k := k + 1 + 1) H o L sLATE
      by_cases q3 : ws[k + 2]? = some sLATE
      · have e5 := take_yes (k := k + 1 + 1) H o L q3
        have e6 := take_number (k := k + 1 + 1 + 1) H o L 1 4
        rw [show ws[k + 1 + 1]? = some sLATE from q3, decide_eq_true rfl] at e4
        cases q4 : numAt ws (k + 3) 1 4 with
        | none =>
          rw [show k + 1 + 1 + 1 = k + 3 from rfl, q4] at e6
          simp at e6
          simp [F_Words_take_term, B_Words_take_term, cls_st, -clsOf_ref, List.lookup_cons, e1, e2, e3, -eqB, e4, e5, e6, q3, q4]
        | some d =>
          rw [show k + 1 + 1 + 1 = k + 3 from rfl, q4] at e6
          simp at e6
          simp [F_Words_take_term, B_Words_take_term, cls_st, -clsOf_ref, List.lookup_cons, e1, e2, e3, -eqB, e4, e5, e6, q3, q4]
      · rw [decide_eq_false (show ¬ ws[k + 1 + 1]? = some sLATE from q3)] at e4
        simp [F_Words_take_term, B_Words_take_term, cls_st, -clsOf_ref, List.lookup_cons, e1, e2, e3, -eqB, e4, q3]
end
/-! ### names -/
def nEnd (ws : List (List Nat)) : Nat → Nat → Nat
  | 0, k => k
  | m + 1, k => if nm ws k then nEnd ws m (k + 1) else k
def nmL (ws : List (List Nat)) : Nat → Nat → List (List Nat)
  | 0, _ => []
  | m + 1, k => if nm ws k then wd ws k :: nmL ws m (k + 1) else []
theorem nmL_len (ws : List (List Nat)) : ∀ m k, nEnd ws m k = k + (nmL ws m k).length
  | 0, k => rfl
  | m + 1, k => by
    unfold nEnd nmL
    cases h : nm ws k with
    | true => simp [nmL_len ws m (k + 1)]; omega
    | false => simp
theorem nmL_le (ws : List (List Nat)) : ∀ m k, (nmL ws m k).length ≤ m
  | 0, k => Nat.le_refl _
  | m + 1, k => by
    unfold nmL
    have := nmL_le ws m (k + 1)
    split <;> simp <;> omega
theorem nmL_nm (ws : List (List Nat)) : ∀ m k, ∀ x ∈ nmL ws m k, NameW x
  | 0, k, x, h => by cases h
  | m + 1, k, x, h => by
    unfold nmL at h
    split at h
    · rename_i q
      rcases List.mem_cons.mp h with rfl | h
      · exact (nm_some q).2
      · exact nmL_nm ws m (k + 1) x h
    · cases h
theorem drop_nm {ws : List (List Nat)} {k : Nat} {x : List Nat} (h : ws[k]? = some x) : ws.drop k = x :: ws.drop (k + 1) := by
  obtain ⟨hk, e⟩ := List.getElem?_eq_some_iff.mp h
  rw [List.drop_eq_getElem_cons hk, e]
theorem nmL_drop (ws : List (List Nat)) : ∀ m k, ws.drop k = nmL ws m k ++ ws.drop (nEnd ws m k)
  | 0, k => rfl
  | m + 1, k => by
    unfold nEnd nmL
    cases h : nm ws k with
    | true => simp only [if_true]; rw [drop_nm (nm_some h).1, nmL_drop ws m (k + 1)]; rfl
    | false => rfl
/-! lists of locals -/
def LowL (L : Gs) : Prop := ∀ x ∈ L, ∀ n, lowO n x = true
theorem low_st (ws : List (List Nat)) (k n : Nat) : lowO n (st ws k) = true := by
  unfold st lowO
  refine low_pures _ ?_
  show (pureW (.lst (ws.map .str)) && _) = true
  rw [show pureW (.lst (ws.map .str)) = true from pure_strs ws]
  rfl
theorem mix_self {n : Nat} : ∀ {L M : Gs}, LowL L → mixG n L (L ++ M) = true
  | [], _, _ => rfl
  | x :: r, M, h => by
    show ((beqO x x || lowO n x) && mixG n r (r ++ M)) = true
    rw [h x List.mem_cons_self n, mix_self (L := r) fun y hy => h y (List.mem_cons_of_mem _ hy), Bool.or_true]
    rfl
theorem mix_st {o : O} {ws : List (List Nat)} {k k' : Nat} {L M : Gs} (ho : ∀ n, lowO n o = true) (hL : LowL L) : mixG (o :: st ws k :: L).length (o :: st ws k :: L) (o :: st ws k' :: (L ++ M)) = true := by
  show ((beqO _ _ || lowO _ _) && ((beqO _ _ || lowO _ _) && mixG _ L (L ++ M))) = true
  rw [ho, low_st, mix_self hL]
  simp
theorem pur_st {F : Fn} {args : List W} {o : O} {ws : List (List Nat)} {k k' : Nat} {L M : Gs} {w : W} (e : F args (o :: st ws k :: L) = .ok w (o :: st ws k' :: (L ++ M))) (ho : ∀ n, lowO n o = true) (hL : LowL L) (hw : pureW w = true) :
    purF F args (o :: st ws k :: L) = .ok w (o :: st ws k' :: L) := by
  unfold purF
  rw [e]
  simp only [mix_st ho hL, if_true, rs_pure w hw]
  simp
theorem pur_ex {F : Fn} {args : List W} {o : O} {ws : List (List Nat)} {k k' : Nat} {L M : Gs} {w : W} (e : F args (o :: st ws k :: L) = .exc w (o :: st ws k' :: (L ++ M))) (ho : ∀ n, lowO n o = true) (hL : LowL L) (hw : pureW w = true) :
    purF F args (o :: st ws k :: L) = .exc w (o :: st ws k' :: L) := by
  unfold purF
  rw [e]
  simp only [mix_st ho hL, if_true, rs_pure w hw]
  simp
theorem set_last {α : Type} (L : List α) (x y : α) : (L ++ [x]).set L.length y = L ++ [y] := by simp
theorem pure_bad (j : Nat) : pureW (bad j) = true := rfl
section
variable {ws : List (List Nat)} (H : Wd ws) (o : O) (L : Gs)
include H
theorem names_loop {m : Nat} (hm : m ≤ 100) : ∀ (n k fuel : Nat) (acc : List (List Nat)), acc.length + n = m → n < fuel →
    whileL T1_Words_take_names L1_Words_take_names fuel [some (.ref 1), some (.int m), some (.ref (L.length + 1 + 1))] (o :: st ws k :: (L ++ [.lst (acc.map .str)])) = .nx [some (.ref 1), some (.int m), some (.ref (L.length + 1 + 1))] (o :: st ws (nEnd ws n k) :: (L ++ [.lst ((acc ++ nmL ws n k).map .str)]))
  | 0, k, f + 1, acc, hl, hf => by
    have h1 : ¬ (acc.length : Int) < (m : Int) := by omega
    have lz : acc.length ≤ 16777216 := by omega
    simp [whileL, T1_Words_take_names, h1, lz, nEnd, nmL]
  | n + 1, k, f + 1, acc, hl, hf => by
    have h1 : (acc.length : Int) < (m : Int) := by omega
    have lz : acc.length ≤ 16777216 := by omega
    have lz' : acc.length < 16777216 := by omega
    obtain ⟨w, e1, e2⟩ := is_nm (k := k) H o (L ++ [.lst (acc.map .str)])
    cases q : nm ws k with
    | false =>
      rw [q] at e2
      simp [whileL, T1_Words_take_names, h1, lz, cls_st, -clsOf_ref, List.lookup_cons, e1, e2, nEnd, nmL, q]
    | true =>
      rw [q] at e2
      have t := take_yes H o (L ++ [.lst (acc.map .str)]) (nm_some q).1
      have ih := names_loop hm n (k + 1) f (acc ++ [wd ws k]) (by simp; omega) (by omega)
      rw [whileL]
      simp only [T1_Words_take_names, L1_Words_take_names]
      simp [h1, lz, lz', cls_st, -clsOf_ref, List.lookup_cons, e1, e2, t]
      simp at ih
      simp only [nEnd, nmL, q, if_true, List.map_cons]
      exact ih
  | _, _, 0, _, _, hf => absurd hf (Nat.not_lt_zero _)
theorem take_names {m k : Nat} (hm : m ≤ 100) (ho : ∀ n, lowO n o = true) (hL : LowL L) :
    F_Words_take_names [.ref 1, .int m] (o :: st ws k :: L) = .ok (.tup ((nmL ws m k).map .str)) (o :: st ws (nEnd ws m k) :: L) := by
  have e := names_loop H o L hm m k 1000000 [] (by simp) (by omega)
  refine pur_st (M := [.lst ((nmL ws m k).map .str)]) ?_ ho hL (pure_strs _)
  simp only [List.map_nil, List.nil_append] at e
  have lz : (nmL ws m k).length ≤ 16777216 := by have := nmL_le ws m k; omega
  simp [B_Words_take_names, e, R1_Words_take_names, lz]
end
/-! ### the terms of a mix -/
def tsL (ws : List (List Nat)) : Nat → List W → Nat → Except Nat (List W × Nat)
  | 0, acc, k => .ok (acc, k)
  | n + 1, acc, k => if ws[k]? = some [44] then (match tmR ws (k + 1) with
    | .error j => .error j
    | .ok (t, j) => tsL ws n (acc ++ [t]) j) else .ok (acc, k)
def tsR (ws : List (List Nat)) (k : Nat) : Except Nat (List W × Nat) := match numAt ws k (-99) 99 with
  | none => .ok ([], k)
  | some _ => (match tmR ws k with
    | .error j => .error j
    | .ok (t, j) => tsL ws 5 [t] j)
def tupR : Except Nat (List W × Nat) → Except Nat (W × Nat)
  | .error j => .error j
  | .ok (ts, j) => .ok (.tup ts, j)
@[simp] theorem tupR_e1 (j : Nat) : tupR (.error j) = .error j := rfl
@[simp] theorem tupR_e2 (ts : List W) (j : Nat) : tupR (.ok (ts, j)) = .ok (.tup ts, j) := rfl
theorem tm_pure {ws : List (List Nat)} {k j : Nat} {t : W} (h : tmR ws k = .ok (t, j)) : pureW t = true := by
  unfold tmR at h
  split at h
  · cases h
  · split at h
    · split at h
      · split at h
        · cases h
        · cases h; rfl
      · cases h; rfl
    · cases h
/-- the loop's ways out -/
inductive TsOut (o : O) (ws : List (List Nat)) (L : Gs) : SRes → Except Nat (List W × Nat) → Prop
  | ok (ts : List W) (j : Nat) : pureW.pureWs ts = true → ts.length ≤ 6 → TsOut o ws L (.nx [some (.ref 1), some (.ref (L.length + 1 + 1))] (o :: st ws j :: (L ++ [.lst ts]))) (.ok (ts, j))
  | err (acc : List W) (j : Nat) (ls : Ls) : TsOut o ws L (.exc (bad j) ls (o :: st ws j :: (L ++ [.lst acc]))) (.error j)
section
variable {ws : List (List Nat)} (H : Wd ws) (o : O) (L : Gs)
include H
theorem terms_loop : ∀ (n k fuel : Nat) (acc : List W), acc.length + n = 6 → n < fuel → pureW.pureWs acc = true →
    TsOut o ws L (whileL T1_Words_take_terms L1_Words_take_terms fuel [some (.ref 1), some (.ref (L.length + 1 + 1))] (o :: st ws k :: (L ++ [.lst acc]))) (tsL ws n acc k)
  | 0, k, f + 1, acc, hl, hf, hp => by
    obtain ⟨w, e1, e2⟩ := here_is (k := k) H o (L ++ [.lst acc]) [44]
    have h1 : ¬ (acc.length : Int) < 6 := by omega
    have lz : acc.length ≤ 16777216 := by omega
    have r : whileL T1_Words_take_terms L1_Words_take_terms (f + 1) [some (.ref 1), some (.ref (L.length + 1 + 1))] (o :: st ws k :: (L ++ [.lst acc])) = .nx [some (.ref 1), some (.ref (L.length + 1 + 1))] (o :: st ws k :: (L ++ [.lst acc])) := by
      by_cases q : ws[k]? = some [44]
      · simp [whileL, T1_Words_take_terms, cls_st, -clsOf_ref, List.lookup_cons, e1, -eqB, e2, q, h1, lz]
      · simp [whileL, T1_Words_take_terms, cls_st, -clsOf_ref, List.lookup_cons, e1, -eqB, e2, q]
    rw [r]
    exact .ok acc k hp (by omega)
  | n + 1, k, f + 1, acc, hl, hf, hp => by
    obtain ⟨w, e1, e2⟩ := here_is (k := k) H o (L ++ [.lst acc]) [44]
    have h1 : (acc.length : Int) < 6 := by omega
    have lz : acc.length ≤ 16777216 := by omega
    have lz' : acc.length < 16777216 := by omega
    unfold tsL
    by_cases q : ws[k]? = some [44]
    · rw [if_pos q]
      have t := take_yes H o (L ++ [.lst acc]) q
      have tm := take_term (k := k + 1) H o (L ++ [.lst acc])
      rw [whileL]
      cases e : tmR ws (k + 1) with
      | error j =>
        rw [e] at tm
        simp only [T1_Words_take_terms, L1_Words_take_terms]
        simp [cls_st, -clsOf_ref, List.lookup_cons, e1, -eqB, e2, q, h1, lz, t, tm]
        exact .err acc j _
      | ok p =>
        obtain ⟨v, j⟩ := p
        rw [e] at tm
        have ih := terms_loop n j f (acc ++ [v]) (by simp; omega) (by omega) (by rw [pureWs_all] at hp ⊢; simp [hp, tm_pure e])
        simp only [T1_Words_take_terms, L1_Words_take_terms]
        simp [cls_st, -clsOf_ref, List.lookup_cons, e1, -eqB, e2, q, h1, lz, lz', t, tm]
        exact ih
    · rw [if_neg q]
      have r : whileL T1_Words_take_terms L1_Words_take_terms (f + 1) [some (.ref 1), some (.ref (L.length + 1 + 1))] (o :: st ws k :: (L ++ [.lst acc])) = .nx [some (.ref 1), some (.ref (L.length + 1 + 1))] (o :: st ws k :: (L ++ [.lst acc])) := by
        simp [whileL, T1_Words_take_terms, cls_st, -clsOf_ref, List.lookup_cons, e1, -eqB, e2, q]
      rw [r]
      exact .ok acc k hp (by omega)
  | _, _, 0, _, _, hf, _ => absurd hf (Nat.not_lt_zero _)
theorem take_terms {k : Nat} (ho : ∀ n, lowO n o = true) (hL : LowL L) : F_Words_take_terms [.ref 1] (o :: st ws k :: L) = out o ws L (tupR (tsR ws k)) := by
  unfold tsR
  cases e : ws[k]? with
  | none =>
    have h := here_none H o L e
    have : numAt ws k (-99) 99 = none := by unfold numAt; rw [e]
    rw [this]
    refine pur_st (M := []) ?_ ho hL rfl
    simp [B_Words_take_terms, cls_st, -clsOf_ref, List.lookup_cons, h]
  | some x =>
    have h := here_some H o L e
    have n := num_read H (-99) 99 (o :: st ws k :: L) e
    cases q : numAt ws k (-99) 99 with
    | none =>
      rw [q] at n
      refine pur_st (M := []) ?_ ho hL rfl
      simp [B_Words_take_terms, cls_st, -clsOf_ref, List.lookup_cons, h, n]
    | some f =>
      rw [q] at n
      have tm := take_term (k := k) H o L
      cases et : tmR ws k with
      | error j =>
        rw [et] at tm
        refine pur_ex (M := []) ?_ ho hL (pure_bad j)
        simp [B_Words_take_terms, cls_st, -clsOf_ref, List.lookup_cons, h, n, tm]
      | ok p =>
        obtain ⟨t, j⟩ := p
        rw [et] at tm
        have lp := terms_loop H o L 5 j 1000000 [t] rfl (by omega) (by rw [pureWs_all]; simp [tm_pure et])
        dsimp only
        generalize hr : tsL ws 5 [t] j = r at lp
        generalize hw : whileL T1_Words_take_terms L1_Words_take_terms 1000000 [some (.ref 1), some (.ref (L.length + 1 + 1))] (o :: st ws j :: (L ++ [.lst [t]])) = z at lp
        cases lp with
        | ok ts i hp hl =>
          have z : ts.length ≤ 16777216 := by omega
          refine pur_st (M := [.lst ts]) ?_ ho hL hp
          simp [B_Words_take_terms, cls_st, -clsOf_ref, List.lookup_cons, h, n, tm, hw, R1_Words_take_terms, z]
        | err acc i ls =>
          refine pur_ex (M := [.lst acc]) ?_ ho hL (pure_bad i)
          simp [B_Words_take_terms, cls_st, -clsOf_ref, List.lookup_cons, h, n, tm, hw]
end
/-! ### a part -/
def kindAt (ws : List (List Nat)) (k : Nat) : Option (List Nat) := match ws[k]? with
  | some x => if x ∈ KINDS then some x else none
  | none => none
def ptR (ws : List (List Nat)) (k : Nat) : Except Nat (W × Nat) :=
  if nm ws k then
    (if ws[k + 1]? = some sSOURCE then .ok (.tup [.str sSOURCE, .str (wd ws k)], k + 2)
    else if ws[k + 1]? = some sMIX then (match tsR ws (k + 2) with
      | .error j => .error j
      | .ok (ts, j) => .ok (.tup [.str sMIX, .str (wd ws k), .tup ts], j))
    else if ws[k + 1]? = some sUSE then (if nm ws (k + 2) then .ok (.tup [.str sUSE, .str (wd ws k), .str (wd ws (k + 2)), .tup ((nmL ws 4 (k + 3)).map .str)], nEnd ws 4 (k + 3)) else .error (k + 2))
    else match kindAt ws (k + 1) with
      | none => .error (k + 1)
      | some x => if nm ws (k + 2) then
          (if (nmL ws (cntK x) (k + 3)).length = cntK x then .ok (.tup (.str x :: .str (wd ws k) :: .str (wd ws (k + 2)) :: (nmL ws (cntK x) (k + 3)).map .str), nEnd ws (cntK x) (k + 3)) else .error (nEnd ws (cntK x) (k + 3)))
        else .error (k + 2))
  else .error k
section
variable {ws : List (List Nat)} (H : Wd ws) (o : O) (L : Gs)
include H
theorem ends_comp (x1 x2 x3 x4 x5 : Option W) : ∀ (items acc : List W) (k : Nat), acc.length + items.length ≤ 100 →
    compX (gN 5) C1_Words_take_part [some (.ref 1), x1, x2, x3, x4, x5] items acc (o :: st ws k :: L) =
      if (nmL ws items.length k).length = items.length then .ok (.lst (acc ++ (nmL ws items.length k).map .str)) (o :: st ws (nEnd ws items.length k) :: L) else .exc (bad (nEnd ws items.length k)) (o :: st ws (nEnd ws items.length k) :: L)
  | [], acc, k, hz => by simp [compX, nmL, nEnd]
  | w :: r, acc, k, hz => by
    have t := take_name (k := k) H o L
    have lz : acc.length < 16777216 := by simp at hz; omega
    cases q : nm ws k with
    | false =>
      rw [q] at t
      simp at t
      simp [compX, C1_Words_take_part, cls_st, -clsOf_ref, List.lookup_cons, t, nmL, nEnd, q]
    | true =>
      rw [q] at t
      simp at t
      have ih := ends_comp x1 x2 x3 x4 x5 r (acc ++ [.str (wd ws k)]) (k + 1) (by simp at hz ⊢; omega)
      rw [compX]
      simp [C1_Words_take_part, cls_st, -clsOf_ref, List.lookup_cons, t, lz, SZ]
      simp [C1_Words_take_part] at ih
      rw [ih]
      simp [nmL, nEnd, q]
theorem take_part {k : Nat} (ho : ∀ n, lowO n o = true) (hL : LowL L) : F_Words_take_part [.ref 1] (o :: st ws k :: L) = out o ws L (ptR ws k) := by
  unfold ptR
  have e1 := take_name (k := k) H o L
  cases q1 : nm ws k with
  | false =>
    rw [q1] at e1
    simp at e1
    simp [F_Words_take_part, B_Words_take_part, cls_st, -clsOf_ref, List.lookup_cons, e1]
  | true =>
    rw [q1] at e1
    simp at e1
    cases e : ws[k + 1]? with
    | none =>
      have h := here_none H o L e
      have t := take_no (k := k + 1) H o L
      have z : ∀ s, eqF (.str s) .non = false := fun _ => rfl
      simp [z, F_Words_take_part, B_Words_take_part, cls_st, -clsOf_ref, List.lookup_cons, e1, h, t, kindAt, e]
    | some x =>
      have h := here_some H o L e
      have ty := take_yes H o L e
      have tn := take_no (k := k + 1) H o L
      have e2 := take_name (k := k + 2) H o L
      by_cases k1 : x = sSOURCE
      · subst k1
        simp [F_Words_take_part, B_Words_take_part, cls_st, -clsOf_ref, List.lookup_cons, e1, h, ty, dOf]
      by_cases k2 : x = sMIX
      · subst k2
        have e3 := take_terms (k := k + 2) H o L ho hL
        cases et : tsR ws (k + 2) with
        | error j =>
          rw [et] at e3
          simp at e3
          simp [F_Words_take_part, B_Words_take_part, cls_st, -clsOf_ref, List.lookup_cons, e1, h, ty, dOf, e3]
        | ok p =>
          obtain ⟨ts, j⟩ := p
          rw [et] at e3
          simp at e3
          simp [F_Words_take_part, B_Words_take_part, cls_st, -clsOf_ref, List.lookup_cons, e1, h, ty, dOf, e3]
      by_cases k3 : x = sUSE
      · subst k3
        have e3 := take_names (m := 4) (k := k + 3) H o L (by decide) ho hL
        cases q2 : nm ws (k + 2) with
        | false =>
          rw [q2] at e2
          simp at e2
          simp [F_Words_take_part, B_Words_take_part, cls_st, -clsOf_ref, List.lookup_cons, e1, h, ty, dOf, e2]
        | true =>
          rw [q2] at e2
          simp at e2 e3
          simp [F_Words_take_part, B_Words_take_part, cls_st, -clsOf_ref, List.lookup_cons, e1, h, ty, dOf, e2, e3]
      by_cases k4 : x ∈ KINDS
      · have kk : kindAt ws (k + 1) = some x := by unfold kindAt; rw [e]; simp [k4]
        have kl : kLook [([112, 108, 97, 105, 110], 1), ([111, 100, 100], 1), ([107, 101, 101, 112], 1), ([112, 97, 105, 114], 2)] x = some ((cntK x : Nat) : Int) := by
          simp only [KINDS, List.mem_cons, List.not_mem_nil, or_false] at k4
          rcases k4 with rfl | rfl | rfl | rfl <;> decide
        have kb : bigI ((cntK x : Nat) : Int) = true := by unfold cntK; split <;> rfl
        have kc : cntK x ≤ 2 := by unfold cntK; split <;> omega
        have kz : cntK x ≤ 16777213 := by omega
        have kl' : (rngL 0 (cntK x)).length = cntK x := rngL_len _ _
        cases q2 : nm ws (k + 2) with
        | false =>
          rw [q2] at e2
          simp at e2
          simp [F_Words_take_part, B_Words_take_part, cls_st, -clsOf_ref, List.lookup_cons, e1, h, ty, dOf, k1, k2, k3, kl, e2, kk]
        | true =>
          rw [q2] at e2
          simp at e2
          have ec := ends_comp H o L (some (.str (wd ws k))) (some (.str x)) (some (.str (wd ws (k + 2)))) none none (rngL 0 (cntK x)) [] (k + 3) (by rw [kl']; simp; omega)
          rw [kl'] at ec
          by_cases q3 : (nmL ws (cntK x) (k + 3)).length = cntK x
          · rw [if_pos q3] at ec
            simp [F_Words_take_part, B_Words_take_part, cls_st, -clsOf_ref, List.lookup_cons, e1, h, ty, dOf, k1, k2, k3, kl, e2, kk, kb, ec, q3, kz]
          · rw [if_neg q3] at ec
            simp [F_Words_take_part, B_Words_take_part, cls_st, -clsOf_ref, List.lookup_cons, e1, h, ty, dOf, k1, k2, k3, kl, e2, kk, kb, ec, q3]
      · have kk : kindAt ws (k + 1) = none := by unfold kindAt; rw [e]; simp [k4]
        have kl : kLook [([112, 108, 97, 105, 110], 1), ([111, 100, 100], 1), ([107, 101, 101, 112], 1), ([112, 97, 105, 114], 2)] x = none := by
          simp only [KINDS, List.mem_cons, List.not_mem_nil, or_false, not_or] at k4
          obtain ⟨a1, a2, a3, a4⟩ := k4
          simp [kLook, Ne.symm a1, Ne.symm a2, Ne.symm a3, Ne.symm a4]
        have b1 : (sSOURCE == x) = false := beq_eq_false_iff_ne.mpr (Ne.symm k1)
        have b2 : (sMIX == x) = false := beq_eq_false_iff_ne.mpr (Ne.symm k2)
        have b3 : (sUSE == x) = false := beq_eq_false_iff_ne.mpr (Ne.symm k3)
        simp [b1, b2, b3, F_Words_take_part, B_Words_take_part, cls_st, -clsOf_ref, List.lookup_cons, e1, h, tn, dOf, k1, k2, k3, kl, kk]
end
/-! ### what is read is a part, and says the words that were read -/
theorem nEnd_le (ws : List (List Nat)) (m k : Nat) : k ≤ nEnd ws m k := by rw [nmL_len]; omega
theorem tm_ok {ws : List (List Nat)} {k j : Nat} {t : W} (h : tmR ws k = .ok (t, j)) : TermW t ∧ k < j ∧ ws.drop k = twW t ++ ws.drop j := by
  unfold tmR at h
  split at h
  · cases h
  · rename_i f e
    obtain ⟨w1, f0, f1, _, _⟩ := numAt_some e
    split at h
    · rename_i q
      obtain ⟨w2, hn⟩ := nm_some q
      split at h
      · rename_i q3
        split at h
        · cases h
        · rename_i d ed
          cases h
          obtain ⟨w3, _, _, d0, d1⟩ := numAt_some ed
          have hd : 0 < d := by omega
          refine ⟨.mk f d _ f0 f1 (by omega) d1 hn, by omega, ?_⟩
          rw [drop_nm w1, drop_nm w2, drop_nm q3, drop_nm w3]
          simp [twW, hd]
      · cases h
        refine ⟨.mk f 0 _ f0 f1 (by omega) (by omega) hn, by omega, ?_⟩
        rw [drop_nm w1, drop_nm w2]
        simp [twW]
    · cases h
def tailW : List W → List (List Nat)
  | [] => []
  | t :: ts => [44] :: (twW t ++ tailW ts)
def mixW : List W → List (List Nat)
  | [] => []
  | t :: ts => twW t ++ tailW ts
theorem tailW_snoc : ∀ (ts : List W) (t : W), tailW (ts ++ [t]) = tailW ts ++ [44] :: twW t
  | [], t => by simp [tailW]
  | a :: r, t => by simp [tailW, tailW_snoc r t]
theorem mixW_snoc {ts : List W} (hne : ts ≠ []) (t : W) : mixW (ts ++ [t]) = mixW ts ++ [44] :: twW t := by
  cases ts with
  | nil => exact absurd rfl hne
  | cons a r => simp [mixW, tailW_snoc]
theorem tsL_ok {ws : List (List Nat)} {k0 : Nat} : ∀ (n : Nat) {acc : List W} {k j : Nat} {ts : List W}, tsL ws n acc k = .ok (ts, j) → acc ≠ [] → (∀ t ∈ acc, TermW t) → k0 ≤ k → ws.drop k0 = mixW acc ++ ws.drop k → (∀ t ∈ ts, TermW t) ∧ ts.length ≤ acc.length + n ∧ k0 ≤ j ∧ ws.drop k0 = mixW ts ++ ws.drop j
  | 0, acc, k, j, ts, h, hne, ha, hk, hd => by
    cases h
    exact ⟨ha, Nat.le_refl _, hk, hd⟩
  | n + 1, acc, k, j, ts, h, hne, ha, hk, hd => by
    unfold tsL at h
    split at h
    · rename_i q
      split at h
      · cases h
      · rename_i t i e
        obtain ⟨ht, hi, hd'⟩ := tm_ok e
        obtain ⟨r1, r2, r3, r4⟩ := tsL_ok (k0 := k0) (k := i) n h (by simp) (fun x hx => by
          rcases List.mem_append.mp hx with hx | hx
          · exact ha x hx
          · rw [List.mem_singleton.mp hx]; exact ht) (by omega) (by rw [mixW_snoc hne, hd, drop_nm q, hd']; simp)
        exact ⟨r1, by simp at r2; omega, r3, r4⟩
    · cases h
      exact ⟨ha, by omega, hk, hd⟩
theorem ts_ok {ws : List (List Nat)} {k j : Nat} {ts : List W} (h : tsR ws k = .ok (ts, j)) : (∀ t ∈ ts, TermW t) ∧ ts.length ≤ 6 ∧ k ≤ j ∧ ws.drop k = mixW ts ++ ws.drop j := by
  unfold tsR at h
  split at h
  · cases h
    exact ⟨fun _ h => absurd h List.not_mem_nil, by simp, Nat.le_refl _, rfl⟩
  · split at h
    · cases h
    · rename_i t i e
      obtain ⟨ht, hi, hd⟩ := tm_ok e
      obtain ⟨r1, r2, r3, r4⟩ := tsL_ok (k0 := k) (k := i) 5 h (by simp) (fun x hx => by rw [List.mem_singleton.mp hx]; exact ht) (by omega) (by rw [hd]; simp [mixW, tailW])
      exact ⟨r1, by simpa using r2, r3, r4⟩
theorem accW_mix (w : List Nat) (ts : List W) : accW w ts ts.length = [w, sMIX] ++ mixW ts := by
  have snocM : ∀ (ts : List W) (t : W), mixW (ts ++ [t]) = mixW ts ++ ((if 0 < ts.length then [[44]] else []) ++ twW t) := by
    intro ts t
    cases ts with
    | nil => simp [mixW, tailW]
    | cons a b => simp [mixW, tailW_snoc]
  have go : ∀ k ≤ ts.length, accW w ts k = [w, sMIX] ++ mixW (ts.take k) := by
    intro k
    induction k with
    | zero => intro _; simp [accW, mixW]
    | succ k ih =>
      intro hk
      have hk' : k < ts.length := hk
      have e := List.getElem?_eq_getElem hk'
      rw [accW, ih (by omega), e, List.take_succ, e, Option.toList_some, snocM, List.length_take, Nat.min_eq_left (by omega)]
      simp
  have := go ts.length (Nat.le_refl _)
  rwa [List.take_length] at this
theorem wOf_of {p : W} {ws : List (List Nat)} (e : F_part_words [p] [] = .ok (.lst (ws.map .str)) []) : wOf p = ws := by
  unfold wOf
  rw [e]
  simp [strs_map]
theorem wOf_src (w : List Nat) : wOf (.tup [.str sSOURCE, .str w]) = [w, sSOURCE] := wOf_of (by simp [F_part_words, B_part_words])
theorem wOf_box {k w n : List Nat} {ends : List (List Nat)} (hk : k ∈ KINDS) (hl : ends.length ≤ 50) : wOf (.tup (.str k :: .str w :: .str n :: ends.map .str)) = w :: k :: n :: ends := by
  have k1 : ¬ k = [117, 115, 101] := fun e => by subst e; revert hk; decide
  have k2 : ¬ k = [109, 105, 120] := fun e => by subst e; revert hk; decide
  have z1 : ends.length + 1 + 1 + 1 ≤ 16777216 := by omega
  exact wOf_of (by simp [F_part_words, B_part_words, k1, k2, z1])
theorem wOf_mix {w : List Nat} {ts : List W} (hw : NameW w) (hl : ts.length ≤ 6) (ht : ∀ t ∈ ts, TermW t) : wOf (.tup [.str sMIX, .str w, .tup ts]) = [w, sMIX] ++ mixW ts := by
  rw [← accW_mix]
  refine wOf_of ?_
  obtain ⟨x5, x6, e⟩ := mix_loop1 hw ht (by omega) (some (.tup [.str sMIX, .str w, .tup ts])) (some (.str sMIX)) (some (.str w)) (some (.lst [.tup ts])) []
  have e0 : accW w ts 0 = [w, sMIX] := rfl
  rw [e0] at e
  simp only [List.map_cons, List.map_nil] at e
  simp [F_part_words, B_part_words, atI, ixN, e, R1_part_words]
theorem wOf_use {w n : List Nat} {ends : List (List Nat)} (hl : ends.length ≤ 50) : wOf (.tup [.str sUSE, .str w, .str n, .tup (ends.map .str)]) = w :: sUSE :: n :: ends := by
  have z1 : ends.length + 1 + 1 + 1 ≤ 16777216 := by omega
  exact wOf_of (by simp [F_part_words, B_part_words, atI, ixN, z1])
theorem pt_ok {ws : List (List Nat)} {k j : Nat} {p : W} (h : ptR ws k = .ok (p, j)) : PartW p ∧ k + 2 ≤ j ∧ ws.drop k = wOf p ++ ws.drop j := by
  unfold ptR at h
  split at h
  · rename_i q
    obtain ⟨w1, hn⟩ := nm_some q
    split at h
    · rename_i q1
      cases h
      refine ⟨.src _ hn, by omega, ?_⟩
      rw [wOf_src, drop_nm w1, drop_nm q1]
      rfl
    · split at h
      · rename_i q1
        split at h
        · cases h
        · rename_i ts i e
          cases h
          obtain ⟨r1, r2, r3, r4⟩ := ts_ok e
          refine ⟨.mix _ ts hn r2 r1, by omega, ?_⟩
          rw [wOf_mix hn r2 r1, drop_nm w1, drop_nm q1, r4]
          simp
      · split at h
        · rename_i q1
          split at h
          · rename_i q2
            obtain ⟨w2, hn2⟩ := nm_some q2
            cases h
            have l4 := nmL_le ws 4 (k + 3)
            refine ⟨.use _ _ _ hn hn2 ⟨by omega, nmL_nm ws 4 (k + 3)⟩ l4, by have := nEnd_le ws 4 (k + 3); omega, ?_⟩
            rw [wOf_use (by omega), drop_nm w1, drop_nm q1, drop_nm w2, nmL_drop ws 4 (k + 3)]
            simp
          · cases h
        · split at h
          · cases h
          · rename_i x e
            have hx : ws[k + 1]? = some x ∧ x ∈ KINDS := by
              unfold kindAt at e
              split at e
              · rename_i y e1
                split at e
                · rename_i hy
                  cases e
                  exact ⟨e1, hy⟩
                · cases e
              · cases e
            split at h
            · rename_i q2
              obtain ⟨w2, hn2⟩ := nm_some q2
              split at h
              · rename_i q3
                cases h
                have l4 := nmL_le ws (cntK x) (k + 3)
                have c2 : cntK x ≤ 2 := by unfold cntK; split <;> omega
                refine ⟨.box x _ _ _ hx.2 hn hn2 ⟨by omega, nmL_nm ws _ (k + 3)⟩ q3, by have := nEnd_le ws (cntK x) (k + 3); omega, ?_⟩
                rw [wOf_box hx.2 (by omega), drop_nm w1, drop_nm hx.1, drop_nm w2, nmL_drop ws (cntK x) (k + 3)]
                simp
              · cases h
            · cases h
  · cases h
/-! ### the net -/
def lpR (ws : List (List Nat)) : Nat → List W → Nat → Except Nat (List W × Nat)
  | 0, _, k => .error k
  | n + 1, acc, k => if ws[k]? = some [62] then .ok (acc, k) else match ptR ws k with
    | .error j => .error j
    | .ok (p, j) => if ws[j]? = some [59] then lpR ws n (acc ++ [p]) (j + 1) else .error j
def ouR (ws : List (List Nat)) (k : Nat) : Except Nat (List (List Nat)) :=
  if nm ws (k + 1) then (if ws[nEnd ws 3 (k + 2)]? = none then .ok (wd ws (k + 1) :: nmL ws 3 (k + 2)) else .error (nEnd ws 3 (k + 2))) else .error (k + 1)
def ntR (ws : List (List Nat)) : Except Nat (List W × List (List Nat)) := match lpR ws (ws.length + 1) [] 0 with
  | .error j => .error j
  | .ok (ts, k) => (match ouR ws k with
    | .error j => .error j
    | .ok outs => .ok (ts, outs))
theorem low_lst {ps : List W} (h : ∀ p ∈ ps, PartW p) (n : Nat) : lowO n (.lst ps) = true := by
  unfold lowO
  refine low_pures _ ?_
  rw [pureWs_all]
  exact List.all_eq_true.mpr fun p hp => pure_part (h p hp)
theorem LowL.snoc {L : Gs} (hL : LowL L) {ps : List W} (h : ∀ p ∈ ps, PartW p) : LowL (L ++ [.lst ps]) := fun x hx n => by
  rcases List.mem_append.mp hx with hx | hx
  · exact hL x hx n
  · rw [List.mem_singleton.mp hx]; exact low_lst h n
theorem all_snoc {α : Type} {P : α → Prop} {ps : List α} {p : α} (h : ∀ x ∈ ps, P x) (hp : P p) : ∀ x ∈ ps ++ [p], P x := fun x hx => by
  rcases List.mem_append.mp hx with hx | hx
  · exact h x hx
  · rw [List.mem_singleton.mp hx]; exact hp
inductive LpOut (o : O) (ws : List (List Nat)) (L : Gs) (x2 : Option W) : SRes → Except Nat (List W × Nat) → Prop
  | ok (ts : List W) (j : Nat) : (∀ p ∈ ts, PartW p) → ts.length ≤ 1000000 → LpOut o ws L x2 (.nx [some (.ref 1), some (.ref (L.length + 1 + 1)), x2] (o :: st ws j :: (L ++ [.lst ts]))) (.ok (ts, j))
  | err (acc : List W) (j : Nat) (ls : Ls) : LpOut o ws L x2 (.exc (bad j) ls (o :: st ws j :: (L ++ [.lst acc]))) (.error j)
section
variable {ws : List (List Nat)} (H : Wd ws) (o : O) (L : Gs)
include H
theorem net_loop (ho : ∀ n, lowO n o = true) (hL : LowL L) (x2 : Option W) : ∀ (n k fuel : Nat) (acc : List W), ws.length < k + n → n < fuel → acc.length + n ≤ 1000000 → (∀ p ∈ acc, PartW p) →
    LpOut o ws L x2 (whileL T1_Words_take_net L1_Words_take_net fuel [some (.ref 1), some (.ref (L.length + 1 + 1)), x2] (o :: st ws k :: (L ++ [.lst acc]))) (lpR ws n acc k)
  | 0, k, f + 1, acc, hk, hf, hz, ha => by
    have e : ws[k]? = none := List.getElem?_eq_none (by omega)
    have h := here_none H o (L ++ [.lst acc]) e
    have hn : nm ws k = false := by unfold nm; rw [e]
    have t := take_part (k := k) H o (L ++ [.lst acc]) ho (hL.snoc ha)
    have hp : ptR ws k = .error k := by unfold ptR; rw [hn]; rfl
    rw [hp] at t
    rw [whileL]
    simp only [T1_Words_take_net, L1_Words_take_net]
    simp [cls_st, -clsOf_ref, List.lookup_cons, h, t]
    exact .err acc k _
  | n + 1, k, f + 1, acc, hk, hf, hz, ha => by
    obtain ⟨w, e1, e2⟩ := here_is (k := k) H o (L ++ [.lst acc]) [62]
    unfold lpR
    by_cases q : ws[k]? = some [62]
    · rw [if_pos q]
      have r : whileL T1_Words_take_net L1_Words_take_net (f + 1) [some (.ref 1), some (.ref (L.length + 1 + 1)), x2] (o :: st ws k :: (L ++ [.lst acc])) = .nx [some (.ref 1), some (.ref (L.length + 1 + 1)), x2] (o :: st ws k :: (L ++ [.lst acc])) := by
        simp [whileL, T1_Words_take_net, cls_st, -clsOf_ref, List.lookup_cons, e1, -eqB, e2, q]
      rw [r]
      exact .ok acc k ha (by omega)
    · rw [if_neg q]
      have t := take_part (k := k) H o (L ++ [.lst acc]) ho (hL.snoc ha)
      have lz : acc.length < 16777216 := by omega
      cases ep : ptR ws k with
      | error j =>
        rw [ep] at t
        rw [whileL]
        simp only [T1_Words_take_net, L1_Words_take_net]
        simp [cls_st, -clsOf_ref, List.lookup_cons, e1, -eqB, e2, q, t]
        exact .err acc j _
      | ok v =>
        obtain ⟨p, j⟩ := v
        rw [ep] at t
        obtain ⟨hp, hj, _⟩ := pt_ok ep
        obtain ⟨w', e3, e4⟩ := here_is (k := j) H o (L ++ [.lst (acc ++ [p])]) [59]
        by_cases q2 : ws[j]? = some [59]
        · have ty := take_yes H o (L ++ [.lst (acc ++ [p])]) q2
          have ih := net_loop ho hL x2 n (j + 1) f (acc ++ [p]) (by omega) (by omega) (by simp; omega) (all_snoc ha hp)
          rw [whileL]
          simp only [T1_Words_take_net, L1_Words_take_net]
          simp [cls_st, -clsOf_ref, List.lookup_cons, e1, -eqB, e2, q, t, lz, e3, e4, q2, ty]
          exact ih
        · have tn := take_no (k := j) H o (L ++ [.lst (acc ++ [p])])
          rw [whileL]
          simp only [T1_Words_take_net, L1_Words_take_net]
          simp [cls_st, -clsOf_ref, List.lookup_cons, e1, -eqB, e2, q, t, lz, e3, e4, q2, tn]
          exact .err (acc ++ [p]) j _
  | _, _, 0, _, _, hf, _, _ => absurd hf (Nat.not_lt_zero _)
end
theorem pure_net {ps : List W} (outs : List (List Nat)) (h : ∀ p ∈ ps, PartW p) : pureW (.tup [.tup ps, .tup (outs.map .str)]) = true := by
  show (pureW.pureWs ps && (pureW.pureWs (outs.map .str) && true)) = true
  rw [pure_strs, pureWs_all, List.all_eq_true.mpr fun p hp => pure_part (h p hp)]
  rfl
theorem lp_at {ws : List (List Nat)} : ∀ (n : Nat) {acc ts : List W} {k j : Nat}, lpR ws n acc k = .ok (ts, j) → ws[j]? = some [62]
  | n + 1, acc, ts, k, j, h => by
    unfold lpR at h
    split at h
    · rename_i q; cases h; exact q
    · split at h
      · cases h
      · split at h
        · exact lp_at n h
        · cases h
/-- what take_net gives -/
def netRes (o : O) (ws : List (List Nat)) (r : Res) : Except Nat (List W × List (List Nat)) → Prop
  | .error j => ∃ k, r = .exc (bad j) [o, st ws k]
  | .ok (ts, outs) => ∃ k, r = .ok (.tup [.tup ts, .tup (outs.map .str)]) [o, st ws k] ∧ (∀ p ∈ ts, PartW p)
theorem take_net {ws : List (List Nat)} (H : Wd ws) {o : O} (ho : ∀ n, lowO n o = true) : netRes o ws (F_Words_take_net [.ref 1] [o, st ws 0]) (ntR ws) := by
  have lp := net_loop H o [] ho (fun _ h => absurd h List.not_mem_nil) none (ws.length + 1) 0 1000000 [] (by omega) (by have := H.z; omega) (by have := H.z; simp; omega) (fun _ h => absurd h List.not_mem_nil)
  unfold ntR
  generalize hr : lpR ws (ws.length + 1) [] 0 = r at lp
  generalize hw : whileL T1_Words_take_net L1_Words_take_net 1000000 [some (.ref 1), some (.ref (([] : Gs).length + 1 + 1)), none] (o :: st ws 0 :: ([] ++ [.lst []])) = z at lp
  have hw' : whileL T1_Words_take_net L1_Words_take_net 1000000 [some (.ref 1), some (.ref 2), none] [o, st ws 0, .lst []] = z := hw
  cases lp with
  | err acc j ls =>
    refine ⟨j, pur_ex (L := []) (M := [.lst acc]) ?_ ho (fun _ h => absurd h List.not_mem_nil) (pure_bad j)⟩
    simp [B_Words_take_net, hw']
  | ok ts k hts hl =>
    have q := lp_at _ hr
    have hL : LowL [.lst ts] := fun y hy n => by rw [List.mem_singleton.mp hy]; exact low_lst hts n
    have e1 := take_yes H o [.lst ts] q
    have e2 := take_name (k := k + 1) H o [.lst ts]
    have e3 := take_names (m := 3) (k := k + 2) H o [.lst ts] (by decide) ho hL
    have z1 : ts.length ≤ 16777216 := by omega
    dsimp only
    unfold ouR
    cases q1 : nm ws (k + 1) with
    | false =>
      rw [q1] at e2
      simp at e2
      refine ⟨k + 1, pur_ex (L := []) (M := [.lst ts]) ?_ ho (fun _ h => absurd h List.not_mem_nil) (pure_bad _)⟩
      simp [B_Words_take_net, hw', R1_Words_take_net, cls_st, -clsOf_ref, List.lookup_cons, e1, e2]
    | true =>
      rw [q1] at e2
      simp at e2 e3
      have z2 : (nmL ws 3 (k + 2)).length + 1 ≤ 16777216 := by have := nmL_le ws 3 (k + 2); omega
      cases q2 : ws[nEnd ws 3 (k + 2)]? with
      | none =>
        have e4 := here_none H o [.lst ts] q2
        refine ⟨nEnd ws 3 (k + 2), pur_st (L := []) (M := [.lst ts]) ?_ ho (fun _ h => absurd h List.not_mem_nil) (pure_net _ hts), hts⟩
        simp [B_Words_take_net, hw', R1_Words_take_net, cls_st, -clsOf_ref, List.lookup_cons, e1, e2, e3, e4, z1, z2]
      | some x =>
        have e4 := here_some H o [.lst ts] q2
        refine ⟨nEnd ws 3 (k + 2), pur_ex (L := []) (M := [.lst ts]) ?_ ho (fun _ h => absurd h List.not_mem_nil) (pure_bad _)⟩
        simp [B_Words_take_net, hw', R1_Words_take_net, cls_st, -clsOf_ref, List.lookup_cons, e1, e2, e3, e4, z1, z2]
        simp [st, fldsOf, bad]
/-! ### no word has a space -/
def NoSp (w : List Nat) : Prop := 32 ∉ w
theorem NameW.noSp {w : List Nat} (h : NameW w) : NoSp w := fun m => by have := h.sp.2.2 32 m; omega
theorem kind_noSp {k : List Nat} (h : k ∈ KINDS) : NoSp k := by
  have : ∀ k ∈ KINDS, 32 ∉ k := by decide
  exact this k h
theorem num_noSp : ∀ n < 100, 32 ∉ strI (n : Nat) ∧ 32 ∉ strI (-(n : Nat)) := by decide +kernel
theorem strI_noSp {i : Int} (h1 : -99 ≤ i) (h2 : i ≤ 99) : NoSp (strI i) := by
  rcases Int.le_total 0 i with h | h
  · have := (num_noSp i.toNat (by omega)).1
    rwa [show ((i.toNat : Nat) : Int) = i by omega] at this
  · have := (num_noSp (-i).toNat (by omega)).2
    rwa [show -(((-i).toNat : Nat) : Int) = i by omega] at this
theorem split_joinL {ws : List (List Nat)} (hne : ws ≠ []) (h : ∀ w ∈ ws, NoSp w) : splitL (TL.joinL [32] ws) [32] = ws.map .str := by
  have tlS : ∀ x : List Nat, TL.tl ⟨x.toArray⟩ = x := fun x => TL.tl_mk x
  have e := TL.split_join (y := ⟨[32].toArray⟩) (s := 32) (S := []) rfl (by decide +kernel) (parts := ws.map fun x => ⟨x.toArray⟩) (by simpa using hne) (fun p hp => by
    obtain ⟨x, hx, rfl⟩ := List.mem_map.mp hp
    rw [tlS]
    exact h x hx)
  have j : Txt.join ⟨[32].toArray⟩ (ws.map fun x => (⟨x.toArray⟩ : Str)) = ⟨(TL.joinL [32] ws).toArray⟩ := by
    refine TL.ext_tl ?_
    rw [TL.join_eq, TL.tl_join, tlS, tlS, List.map_map]
    congr 1
    exact (List.map_congr_left fun x _ => tlS x).trans (List.map_id _)
  rw [j] at e
  unfold splitL
  rw [e, List.map_map]
  rfl
theorem joinL_len : ∀ {ws : List (List Nat)}, (∀ w ∈ ws, w.length ≤ 30) → (TL.joinL [32] ws).length ≤ 31 * ws.length
  | [], _ => by simp [TL.joinL]
  | [x], h => by have := h x (by simp); simp [TL.joinL]; omega
  | x :: y :: r, h => by
    have ih := joinL_len (ws := y :: r) fun w hw => h w (List.mem_cons_of_mem _ hw)
    have := h x (by simp)
    simp only [TL.joinL, List.length_append, List.length_cons, List.length_nil] at ih ⊢
    omega
theorem pur_o {F : Fn} {args : List W} {o : O} {M : Gs} {w : W} (e : F args [o] = .ok w (o :: M)) (ho : ∀ n, lowO n o = true) (hw : pureW w = true) : purF F args [o] = .ok w [o] := by
  unfold purF
  rw [e]
  have hm : mixG [o].length [o] (o :: M) = true := by
    show ((beqO _ _ || lowO _ _) && true) = true
    rw [ho]
    simp
  simp only [hm, if_true, rs_pure w hw]
  simp
theorem pur_oe {F : Fn} {args : List W} {o : O} {M : Gs} {w : W} (e : F args [o] = .exc w (o :: M)) (ho : ∀ n, lowO n o = true) (hw : pureW w = true) : purF F args [o] = .exc w [o] := by
  unfold purF
  rw [e]
  have hm : mixG [o].length [o] (o :: M) = true := by
    show ((beqO _ _ || lowO _ _) && true) = true
    rw [ho]
    simp
  simp only [hm, if_true, rs_pure w hw]
  simp
/-- what reading gives -/
def readR (o : O) : Except Nat (List W × List (List Nat)) → Res
  | .error j => .exc (bad j) [o]
  | .ok (ts, outs) => .ok (.tup [.tup ts, .tup (outs.map .str)]) [o]
structure Sw (x : List Nat) : Prop where
  l : x.length ≤ 30
  s : NoSp x
theorem read_any {ws : List (List Nat)} (hne : ws ≠ []) (h : ∀ x ∈ ws, Sw x) (hz : ws.length ≤ 10000) {o : O} (ho : ∀ n, lowO n o = true) : F_read_net [.str (TL.joinL [32] ws)] [o] = readR o (ntR ws) := by
  have H : Wd ws := ⟨by omega, fun x hx => (h x hx).l⟩
  have sl := joinL_len (ws := ws) fun x hx => (h x hx).l
  have hs : splitL (TL.joinL [32] ws) [32] = ws.map .str := split_joinL hne fun x hx => (h x hx).s
  have z' : (TL.joinL [32] ws).length ≤ 16777214 := by omega
  have ini : F_Words___init [.ref 1, .str (TL.joinL [32] ws)] [o, .ins 0 []] = .ok .non [o, st ws 0] := by
    simp [F_Words___init, B_Words___init, List.lookup_cons, hs, z', st]
  have e := take_net H ho
  generalize hr : ntR ws = r at e
  match r, e with
  | .error j, ⟨k, e⟩ =>
    refine pur_oe (M := [st ws k]) ?_ ho (pure_bad j)
    simp [B_read_net, mkI, ini, cls_st, -clsOf_ref, List.lookup_cons, e]
  | .ok (ts, outs), ⟨k, e, hts⟩ =>
    refine pur_o (M := [st ws k]) ?_ ho (pure_net outs hts)
    simp [B_read_net, mkI, ini, cls_st, -clsOf_ref, List.lookup_cons, e]
/-! ### what is read says the text -/
def netP : List W → List (List Nat)
  | [] => []
  | p :: ps => wOf p ++ [59] :: netP ps
theorem netP_snoc : ∀ (ps : List W) (p : W), netP (ps ++ [p]) = netP ps ++ (wOf p ++ [[59]])
  | [], p => by simp [netP]
  | a :: r, p => by simp [netP, netP_snoc r p]
theorem accT_net (ps : List W) : accT ps ps.length = netP ps := by
  have go : ∀ k ≤ ps.length, accT ps k = netP (ps.take k) := by
    intro k
    induction k with
    | zero => intro _; simp [accT, netP]
    | succ k ih =>
      intro hk
      have hk' : k < ps.length := hk
      have e := List.getElem?_eq_getElem hk'
      rw [accT, ih (by omega), e, List.take_succ, e, Option.toList_some, netP_snoc]
      simp
  have := go ps.length (Nat.le_refl _)
  rwa [List.take_length] at this
theorem lp_ok {ws : List (List Nat)} : ∀ (n : Nat) {acc ts : List W} {k j : Nat}, lpR ws n acc k = .ok (ts, j) → (∀ p ∈ acc, PartW p) → 3 * acc.length ≤ k → ws = netP acc ++ ws.drop k → (∀ p ∈ ts, PartW p) ∧ 3 * ts.length ≤ j ∧ ws = netP ts ++ ws.drop j
  | n + 1, acc, ts, k, j, h, ha, hk, hd => by
    unfold lpR at h
    split at h
    · cases h
      exact ⟨ha, hk, hd⟩
    · split at h
      · cases h
      · rename_i p i e
        obtain ⟨hp, hi, hd'⟩ := pt_ok e
        split at h
        · rename_i q
          refine lp_ok n h (all_snoc ha hp) (by simp; omega) ?_
          rw [netP_snoc, List.append_assoc, List.append_assoc]
          refine hd.trans ?_
          rw [hd', drop_nm q]
          rfl
        · cases h
theorem nt_ok {ws : List (List Nat)} {ts : List W} {outs : List (List Nat)} (h : ntR ws = .ok (ts, outs)) : (∀ p ∈ ts, PartW p) ∧ 3 * ts.length ≤ ws.length ∧ ShortL outs ∧ netW ts outs = ws := by
  unfold ntR at h
  split at h
  · cases h
  · rename_i us k e
    obtain ⟨r1, r2, r3⟩ := lp_ok _ e (fun _ h => absurd h List.not_mem_nil) (Nat.le_refl _) rfl
    have q := lp_at _ e
    split at h
    · cases h
    · rename_i ou eo
      cases h
      unfold ouR at eo
      split at eo
      · rename_i q1
        obtain ⟨w1, hn⟩ := nm_some q1
        split at eo
        · rename_i q2
          cases eo
          have l3 := nmL_le ws 3 (k + 2)
          have hk : k < ws.length := (List.getElem?_eq_some_iff.mp q).1
          refine ⟨r1, by omega, ⟨by simp; omega, fun x hx => ?_⟩, ?_⟩
          · rcases List.mem_cons.mp hx with rfl | hx
            · exact hn
            · exact nmL_nm ws 3 (k + 2) x hx
          · have d3 := nmL_drop ws 3 (k + 2)
            rw [List.drop_eq_nil_of_le (List.getElem?_eq_none_iff.mp q2), List.append_nil] at d3
            unfold netW
            rw [accT_net]
            conv => rhs; rw [r3, drop_nm q, drop_nm w1, show k + 1 + 1 = k + 2 from rfl, d3]
            simp
        · cases eo
      · cases eo
/-! ### the law's own search for the wrong word -/
theorem law_name (s : List Nat) (hz : s.length ≤ 1000) (G : Gs) : F_law_is_name [.str s] G = .ok (.bl (nameB s)) G := by
  have comp : compL (gN 1) (eC (.bl true)) C1_law_is_name [some (.str s), none] (s.map fun c => W.str [c]) [] G = .ok (.lst (s.map fun c => .bl (isLet c))) G := by
    have := compL_map (gN 1) (eC (.bl true)) C1_law_is_name [some (.str s), none] (fun w => match w with | .str [c] => .bl (isLet c) | _ => .non) G (s.map fun c => .str [c]) [] (fun x hx => by
      obtain ⟨c, hc, rfl⟩ := List.mem_map.mp hx
      exact ⟨[some (.str s), some (.str [c])], by simp, by simp, by simp [C1_law_is_name, isLet, LET, dOf]⟩) (by simp [SZ]; omega)
    rw [this]
    simp [List.map_map, Function.comp_def]
  have hb := bls_map isLet s
  have hall : (s.map isLet).all id = s.all isLet := all_bl _ _
  have z : s.length ≤ 16777216 := by omega
  unfold nameB
  by_cases h1 : 1 ≤ s.length
  · by_cases h2 : s.length ≤ 4
    · have h1' : (1 : Int) ≤ (s.length : Int) := by omega
      have h2' : (s.length : Int) ≤ 4 := by omega
      simp [F_law_is_name, B_law_is_name, z, h1', h2', comp, hb, hall, h1, h2]
    · have h1' : (1 : Int) ≤ (s.length : Int) := by omega
      have h2' : ¬ (s.length : Int) ≤ 4 := by omega
      simp [F_law_is_name, B_law_is_name, z, h1', h2', h1, h2]
  · have h1' : ¬ (1 : Int) ≤ (s.length : Int) := by omega
    have h0 : s = [] := List.eq_nil_of_length_eq_zero (by omega)
    subst h0
    simp [F_law_is_name, B_law_is_name]
theorem rngL_succ (i : Int) (n : Nat) : rngL i (n + 1) = .int i :: rngL (i + 1) n := by
  simp [rngL, List.range_succ_eq_map, Function.comp_def]
  intro a _
  omega
abbrev wsW (ws : List (List Nat)) : W := .lst (ws.map .str)
section
variable {ws : List (List Nat)} (H : Wd ws)
include H
theorem ix_ws {k : Nat} {x : List Nat} (e : ws[k]? = some x) {i : Int} (hi : i = (k : Int)) (G : Gs) : ixD (wsW ws) (.int i) G = .ok (.str x) G := by
  subst hi
  obtain ⟨hk, hx⟩ := List.getElem?_eq_some_iff.mp e
  simp [dOf, atI, ixN, hk]
  exact hx
theorem law_names_loop (m : Nat) : ∀ (n : Nat) (k : Nat) (i : Int) (x3 : Option W) (G : Gs), ∃ x3', forL (gN 3) L1_law_names_end (rngL i n) [some (wsW ws), some (.int k), some (.int m), x3] G = .nx [some (wsW ws), some (.int (nEnd ws n k : Nat)), some (.int m), x3'] G
  | 0, k, i, x3, G => ⟨x3, by simp [rngL, forL, nEnd]⟩
  | n + 1, k, i, x3, G => by
    have hz : ws.length ≤ 16777216 := by have := H.z; omega
    rw [rngL_succ]
    cases e : ws[k]? with
    | none =>
      have hk : ws.length ≤ k := List.getElem?_eq_none_iff.mp e
      have h1 : ¬ (k : Int) < (ws.length : Int) := by omega
      have hn : nm ws k = false := by unfold nm; rw [e]
      have st : nEnd ws n k = k := by cases n with
        | zero => rfl
        | succ n => unfold nEnd; rw [hn]; rfl
      obtain ⟨y, ih⟩ := law_names_loop m n k (i + 1) (some (.int i)) G
      rw [st] at ih
      refine ⟨y, ?_⟩
      simp [forL, L1_law_names_end, h1, hz, nEnd, hn]
      simpa [L1_law_names_end] using ih
    | some x =>
      have hk := (List.getElem?_eq_some_iff.mp e).1
      have h1 : (k : Int) < (ws.length : Int) := by omega
      have hix := ix_ws H e (i := (k : Int)) rfl
      have nmx := fun G => law_name x (by have := H.at e; omega) G
      have hn : nm ws k = nameB x := by unfold nm; rw [e]
      cases q : nameB x with
      | false =>
        rw [q] at nmx hn
        have st : nEnd ws n k = k := by cases n with
          | zero => rfl
          | succ n => unfold nEnd; rw [hn]; rfl
        obtain ⟨y, ih⟩ := law_names_loop m n k (i + 1) (some (.int i)) G
        rw [st] at ih
        refine ⟨y, ?_⟩
        simp [forL, L1_law_names_end, h1, hz, nEnd, hn, -ixD_e, hix, nmx]
        simpa [L1_law_names_end] using ih
      | true =>
        rw [q] at nmx hn
        obtain ⟨y, ih⟩ := law_names_loop m n (k + 1) (i + 1) (some (.int i)) G
        refine ⟨y, ?_⟩
        simp [forL, L1_law_names_end, h1, hz, nEnd, hn, -ixD_e, hix, nmx]
        simpa [L1_law_names_end] using ih
theorem names_end (k : Nat) (m : Nat) (hm : m ≤ 100) (G : Gs) : F_law_names_end [wsW ws, .int k, .int m] G = .ok (.int (nEnd ws m k : Nat)) G := by
  obtain ⟨y, e⟩ := law_names_loop H m m k 0 none G
  have hb : bigI (m : Int) = true := decide_eq_true (by omega)
  simp [F_law_names_end, B_law_names_end, hb, e, R1_law_names_end]
end
def FAC : List (List Nat) := (List.range 199).map fun (i : Nat) => strI (-99 + (i : Int))
theorem fac_comp (x0 x1 x2 x3 : Option W) (G : Gs) : compL (gN 4) (eC (.bl true)) C1_law_mix_end [x0, x1, x2, x3, none] (rngL (-99) 199) [] G = .ok (.lst (FAC.map .str)) G := by
  have := compL_map (gN 4) (eC (.bl true)) C1_law_mix_end [x0, x1, x2, x3, none] (fun w => match w with | .int v => .str (strI v) | _ => .non) G (rngL (-99) 199) [] (fun x hx => by
    obtain ⟨j, hj, rfl⟩ := List.mem_map.mp hx
    have hj := List.mem_range.mp hj
    have hc : cStr (-99 + (j : Int)) = true := cStr_ok (by omega)
    exact ⟨[x0, x1, x2, x3, some (.int (-99 + (j : Int)))], by simp, by simp, by simp [C1_law_mix_end, hc]⟩) (by rw [rngL_len]; decide)
  rw [this]
  simp [rngL, FAC, Function.comp_def]
theorem fac_mem {x : List Nat} : x ∈ FAC ↔ (numOf x).isSome = true := by
  constructor
  · intro h
    obtain ⟨j, hj, rfl⟩ := List.mem_map.mp h
    have hj := List.mem_range.mp hj
    rw [numOf_str (by omega) (by omega)]
    rfl
  · intro h
    obtain ⟨v, e⟩ := Option.isSome_iff_exists.mp h
    obtain ⟨h0, h1, rfl⟩ := numOf_some e
    exact List.mem_map.mpr ⟨(v + 99).toNat, List.mem_range.mpr (by omega), by congr 1; omega⟩
theorem any_str_eq (x : List Nat) : ∀ l : List (List Nat), ((l.map W.str).any fun y => eqF y (.str x)) = decide (x ∈ l)
  | [] => by simp
  | a :: r => by
    rw [List.map_cons, List.any_cons, any_str_eq x r]
    have : eqF (.str a) (.str x) = decide (a = x) := by
      simp only [eqF]
      exact Bool.eq_iff_iff.mpr (by simp)
    rw [this]
    by_cases h : a = x
    · subst h; simp
    · simp [h, Ne.symm h]
theorem flat_strs (l : List (List Nat)) : (l.map W.str).all isFlat = true := by simp
theorem nin_strs (x : List Nat) (l : List (List Nat)) (G : Gs) : ninD (.str x) (.lst (l.map .str)) G = .ok (.bl (!decide (x ∈ l))) G := by
  have h : inB (.str x) (.lst (l.map .str)) = some (decide (x ∈ l)) := by
    rw [inB_lst, flat_strs, any_str_eq]
    simp
  rw [ninD_e]
  simp only [dOf]
  show ninW _ _ _ = _
  unfold ninW
  rw [h]
theorem nin_fac (x : List Nat) (G : Gs) : ninD (.str x) (.lst (FAC.map .str)) G = .ok (.bl (!(numOf x).isSome)) G := by
  rw [nin_strs]
  congr 2
  by_cases h : x ∈ FAC
  · rw [decide_eq_true h, fac_mem.mp h]
  · rw [decide_eq_false h]
    cases q : (numOf x).isSome with
    | false => rfl
    | true => exact absurd (fac_mem.mpr q) h
def mixS (k : Nat) (ws : List (List Nat)) (i : Int) (x4 : Option W) : Ls := [some (wsW ws), some (.int k), some (.lst (FAC.map .str)), some (.int i), x4]
abbrev pairW (b : Bool) (j : Nat) : W := .tup [.bl b, .int j]
theorem one4 (x : List Nat) (G : Gs) : ninD (.str x) (.lst [.str [49], .str [50], .str [51], .str [52]]) G = .ok (.bl (!(match numOf x with | some v => if 1 ≤ v ∧ v ≤ 4 then some v else none | none => none).isSome)) G := by
  have e := nin_strs x [[49], [50], [51], [52]] G
  rw [show ([W.str [49], .str [50], .str [51], .str [52]] : List W) = ([[49], [50], [51], [52]] : List (List Nat)).map .str from rfl, e]
  congr 2
  have k1 : strI 1 = [49] := by decide +kernel
  have k2 : strI 2 = [50] := by decide +kernel
  have k3 : strI 3 = [51] := by decide +kernel
  have k4 : strI 4 = [52] := by decide +kernel
  by_cases h : x ∈ ([[49], [50], [51], [52]] : List (List Nat))
  · rw [decide_eq_true h]
    simp only [List.mem_cons, List.not_mem_nil, or_false] at h
    rcases h with rfl | rfl | rfl | rfl
    · rw [← k1, numOf_str (by decide) (by decide)]; rfl
    · rw [← k2, numOf_str (by decide) (by decide)]; rfl
    · rw [← k3, numOf_str (by decide) (by decide)]; rfl
    · rw [← k4, numOf_str (by decide) (by decide)]; rfl
  · rw [decide_eq_false h]
    cases q : numOf x with
    | none => rfl
    | some v =>
      by_cases r : 1 ≤ v ∧ v ≤ 4
      · obtain ⟨_, _, e⟩ := numOf_some q
        refine absurd ?_ h
        have : v = 1 ∨ v = 2 ∨ v = 3 ∨ v = 4 := by omega
        rcases this with rfl | rfl | rfl | rfl
        · rw [e, k1]; simp
        · rw [e, k2]; simp
        · rw [e, k3]; simp
        · rw [e, k4]; simp
      · simp [r]
theorem numAt_isSome {ws : List (List Nat)} {k : Nat} {x : List Nat} (e : ws[k]? = some x) : (numAt ws k (-99) 99).isSome = (numOf x).isSome := by
  unfold numAt
  rw [e]
  dsimp only
  cases q : numOf x with
  | none => rfl
  | some v =>
    obtain ⟨h0, h1, _⟩ := numOf_some q
    simp [h0, h1]
def mixRes (ws : List (List Nat)) (i : Int) (x4 : Option W) (G : Gs) : Except Nat (W × Nat) → SRes
  | .error j => .rt (pairW false j) G
  | .ok (_, j) => if ws[j]? = some [44] ∧ i ≠ 5 then .nx (mixS (j + 1) ws i x4) G else .rt (pairW true j) G
section
variable {ws : List (List Nat)} (H : Wd ws)
include H
theorem nm_test {k : Nat} {x : List Nat} (e : ws[k]? = some x) (G : Gs) : F_law_is_name [.str x] G = .ok (.bl (nm ws k)) G := by
  rw [law_name x (by have := H.at e; omega)]
  unfold nm
  rw [e]
theorem mix_tail (i : Int) (x4 : Option W) (G : Gs) (j : Nat) (ji : Int) (hj : ji = (j : Int)) :
    (sSeq (sIf (eOr (eOp geW (eVar 1) (eCall lenW (aCons (eVar 0) aNil))) (eOr (eOp neW (eOp ixD (eVar 0) (eVar 1)) (eC (.str [44]))) (eOp eqW (eVar 3) (eC (.int 5))))) (sRet (eTup (aCons (eC (.bl true)) (aCons (eVar 1) aNil)))) sNil)
      (sAsg (eOp addW (eVar 1) (eC (.int 1))) (gN 1))) [some (wsW ws), some (.int ji), some (.lst (FAC.map .str)), some (.int i), x4] G = if ws[j]? = some [44] ∧ i ≠ 5 then .nx (mixS (j + 1) ws i x4) G else .rt (pairW true j) G := by
  subst hj
  have hz : ws.length ≤ 16777216 := by have := H.z; omega
  cases e : ws[j]? with
  | none =>
    have hk : ws.length ≤ j := List.getElem?_eq_none_iff.mp e
    have h1 : (ws.length : Int) ≤ (j : Int) := by omega
    simp [h1, hz]
  | some x =>
    have hk := (List.getElem?_eq_some_iff.mp e).1
    have h1 : ¬ (ws.length : Int) ≤ (j : Int) := by omega
    have hix := ix_ws H e (i := (j : Int)) rfl
    by_cases q : x = [44]
    · subst q
      by_cases q5 : i = 5
      · subst q5
        simp [h1, hz, -ixD_e, hix]
      · simp [h1, hz, -ixD_e, hix, q5, mixS]
    · simp [h1, hz, -ixD_e, hix, q]
theorem mix_body (k : Nat) (i : Int) (x4 : Option W) (G : Gs) : L1_law_mix_end (mixS k ws i x4) G = mixRes ws i x4 G (tmR ws k) := by
  have hz : ws.length ≤ 16777216 := by have := H.z; omega
  unfold tmR
  cases q1 : numAt ws k (-99) 99 with
  | none =>
    cases e : ws[k]? with
    | none =>
      have hk : ws.length ≤ k := List.getElem?_eq_none_iff.mp e
      have h1 : (ws.length : Int) ≤ (k : Int) := by omega
      simp [L1_law_mix_end, mixS, h1, hz, mixRes]
    | some x =>
      have hk := (List.getElem?_eq_some_iff.mp e).1
      have h1 : ¬ (ws.length : Int) ≤ (k : Int) := by omega
      have hix := ix_ws H e (i := (k : Int)) rfl
      have nf := nin_fac x
      rw [← numAt_isSome e, q1] at nf
      simp [L1_law_mix_end, mixS, h1, hz, mixRes, -ixD_e, hix, -ninD_e, nf]
  | some f =>
    have e := (numAt_some q1).1
    have hk := (List.getElem?_eq_some_iff.mp e).1
    have h1 : ¬ (ws.length : Int) ≤ (k : Int) := by omega
    have hix := ix_ws H e (i := (k : Int)) rfl
    have nf := nin_fac (strI f)
    rw [← numAt_isSome e, q1] at nf
    dsimp only
    cases q2 : nm ws (k + 1) with
    | false =>
      cases e2 : ws[k + 1]? with
      | none =>
        have hk2 : ws.length ≤ k + 1 := List.getElem?_eq_none_iff.mp e2
        have h2 : (ws.length : Int) ≤ (k : Int) + 1 := by omega
        simp [L1_law_mix_end, mixS, h1, hz, mixRes, -ixD_e, hix, -ninD_e, nf, h2]
      | some y =>
        have hk2 := (List.getElem?_eq_some_iff.mp e2).1
        have h2 : ¬ (ws.length : Int) ≤ (k : Int) + 1 := by omega
        have hix2 := ix_ws H e2 (i := (k : Int) + 1) (by omega)
        have nt := nm_test H e2
        rw [q2] at nt
        simp [L1_law_mix_end, mixS, h1, hz, mixRes, -ixD_e, hix, -ninD_e, nf, h2, hix2, nt]
    | true =>
      obtain ⟨e2, _⟩ := nm_some q2
      have hk2 := (List.getElem?_eq_some_iff.mp e2).1
      have h2 : ¬ (ws.length : Int) ≤ (k : Int) + 1 := by omega
      have hix2 := ix_ws H e2 (i := (k : Int) + 1) (by omega)
      have nt := nm_test H e2
      rw [q2] at nt
      by_cases q3 : ws[k + 2]? = some sLATE
      · have hk3 := (List.getElem?_eq_some_iff.mp q3).1
        have h3 : (k : Int) + 2 < (ws.length : Int) := by omega
        have hix3 := ix_ws H q3 (i := (k : Int) + 2) (by omega)
        cases q4 : numAt ws (k + 3) 1 4 with
        | none =>
          cases e4 : ws[k + 3]? with
          | none =>
            have hk4 : ws.length ≤ k + 3 := List.getElem?_eq_none_iff.mp e4
            have h4 : (ws.length : Int) ≤ (k : Int) + 2 + 1 := by omega
            simp [L1_law_mix_end, mixS, h1, hz, mixRes, -ixD_e, hix, -ninD_e, nf, h2, hix2, nt, h3, hix3, h4, q3, q4]
            omega
          | some y =>
            have hk4 := (List.getElem?_eq_some_iff.mp e4).1
            have h4 : ¬ (ws.length : Int) ≤ (k : Int) + 2 + 1 := by omega
            have hix4 := ix_ws H e4 (i := (k : Int) + 2 + 1) (by omega)
            have n4 := one4 y
            have hn : (match numOf y with | some v => if 1 ≤ v ∧ v ≤ 4 then some v else none | none => none) = none := by
              have := q4
              unfold numAt at this
              rw [e4] at this
              exact this
            rw [hn] at n4
            simp [L1_law_mix_end, mixS, h1, hz, mixRes, -ixD_e, hix, -ninD_e, nf, h2, hix2, nt, h3, hix3, h4, q3, q4, hix4, n4]
            omega
        | some d =>
          have e4 := (numAt_some q4).1
          have hk4 := (List.getElem?_eq_some_iff.mp e4).1
          have h4 : ¬ (ws.length : Int) ≤ (k : Int) + 2 + 1 := by omega
          have hix4 := ix_ws H e4 (i := (k : Int) + 2 + 1) (by omega)
          have n4 := one4 (strI d)
          have hn : (match numOf (strI d) with | some v => if 1 ≤ v ∧ v ≤ 4 then some v else none | none => none) = some d := by
            have := q4
            unfold numAt at this
            rw [e4] at this
            exact this
          rw [hn] at n4
          have tl := mix_tail H i x4 G (k + 4) ((k : Int) + 2 + 2) (by omega)
          simp only [mixRes, q3, if_true]
          rw [← tl]
          simp [L1_law_mix_end, mixS, h1, hz, -ixD_e, hix, -ninD_e, nf, h2, hix2, nt, h3, hix3, h4, q3, q4, hix4, n4]
      · have tl := mix_tail H i x4 G (k + 2) ((k : Int) + 2) (by omega)
        simp only [mixRes, q3, if_true, if_false]
        rw [← tl]
        cases e3 : ws[k + 2]? with
        | none =>
          have hk3 : ws.length ≤ k + 2 := List.getElem?_eq_none_iff.mp e3
          have h3 : ¬ (k : Int) + 2 < (ws.length : Int) := by omega
          simp [L1_law_mix_end, mixS, h1, hz, -ixD_e, hix, -ninD_e, nf, h2, hix2, nt, h3]
        | some y =>
          have hk3 := (List.getElem?_eq_some_iff.mp e3).1
          have h3 : (k : Int) + 2 < (ws.length : Int) := by omega
          have hix3 := ix_ws H e3 (i := (k : Int) + 2) (by omega)
          have hy : ¬ y = [108, 97, 116, 101] := fun z => q3 (by rw [e3, z])
          simp [L1_law_mix_end, mixS, h1, hz, -ixD_e, hix, -ninD_e, nf, h2, hix2, nt, h3, hix3, hy]
end
def posB {α : Type} : Except Nat (α × Nat) → Bool × Nat
  | .error j => (false, j)
  | .ok (_, j) => (true, j)
theorem posB_ts (ws : List (List Nat)) : ∀ (n : Nat) (a b : List W) (k : Nat), posB (tsL ws n a k) = posB (tsL ws n b k)
  | 0, a, b, k => rfl
  | n + 1, a, b, k => by
    unfold tsL
    split
    · cases tmR ws (k + 1) with
      | error j => rfl
      | ok p => exact posB_ts ws n _ _ _
    · rfl
theorem posB_lp (ws : List (List Nat)) : ∀ (n : Nat) (a b : List W) (k : Nat), posB (lpR ws n a k) = posB (lpR ws n b k)
  | 0, a, b, k => rfl
  | n + 1, a, b, k => by
    unfold lpR
    split
    · rfl
    · cases ptR ws k with
      | error j => rfl
      | ok p =>
        obtain ⟨p, j⟩ := p
        dsimp only
        split
        · exact posB_lp ws n _ _ _
        · rfl
def tmTs (ws : List (List Nat)) (n k : Nat) : Except Nat (List W × Nat) := match tmR ws k with
  | .error j => .error j
  | .ok (t, j) => tsL ws n [t] j
section
variable {ws : List (List Nat)} (H : Wd ws)
include H
theorem mix_loop : ∀ (n k : Nat) (i : Int) (x3 : Option W) (x4 : Option W) (G : Gs), i + n = 5 →
    forL (gN 3) L1_law_mix_end (rngL i (n + 1)) [some (wsW ws), some (.int k), some (.lst (FAC.map .str)), x3, x4] G = .rt (pairW (posB (tmTs ws n k)).1 (posB (tmTs ws n k)).2) G
  | n, k, i, x3, x4, G, hi => by
    have b := mix_body H k i x4 G
    rw [rngL_succ, forL]
    have g : gN 3 (.int i) [some (wsW ws), some (.int k), some (.lst (FAC.map .str)), x3, x4] G = .nx (mixS k ws i x4) G := rfl
    rw [g]
    simp only [b]
    unfold tmTs
    cases e : tmR ws k with
    | error j => rfl
    | ok p =>
      obtain ⟨t, j⟩ := p
      simp only [mixRes]
      match n, hi with
      | 0, hi =>
        have h5 : i = 5 := by omega
        rw [if_neg (fun z => z.2 h5)]
        rfl
      | n + 1, hi =>
        have h5 : i ≠ 5 := by omega
        unfold tsL
        by_cases q : ws[j]? = some [44]
        · rw [if_pos ⟨q, h5⟩, if_pos q]
          have ih := mix_loop n (j + 1) (i + 1) (some (.int i)) x4 G (by omega)
          have e2 : mixS (j + 1) ws i x4 = [some (wsW ws), some (.int ((j + 1 : Nat) : Int)), some (.lst (FAC.map .str)), some (.int i), x4] := rfl
          simp only [e2, ih]
          unfold tmTs
          cases tmR ws (j + 1) with
          | error j' => rfl
          | ok p' =>
            obtain ⟨t', j'⟩ := p'
            dsimp only
            rw [posB_ts ws n ([t] ++ [t']) [t'] j']
        · rw [if_neg (fun z => q z.1), if_neg q]
          rfl
theorem mix_end (k : Nat) (G : Gs) : F_law_mix_end [wsW ws, .int k] G = .ok (pairW (posB (tsR ws k)).1 (posB (tsR ws k)).2) G := by
  have hz : ws.length ≤ 16777216 := by have := H.z; omega
  have fc := fac_comp (some (wsW ws)) (some (.int k)) none none G
  have b1 : bigI (-99) = true := rfl
  have b2 : bigI 100 = true := rfl
  have b6 : bigI 6 = true := rfl
  unfold tsR
  cases q1 : numAt ws k (-99) 99 with
  | none =>
    cases e : ws[k]? with
    | none =>
      have hk : ws.length ≤ k := List.getElem?_eq_none_iff.mp e
      have h1 : (ws.length : Int) ≤ (k : Int) := by omega
      simp [F_law_mix_end, B_law_mix_end, b1, b2, fc, h1, hz, posB]
    | some x =>
      have hk := (List.getElem?_eq_some_iff.mp e).1
      have h1 : ¬ (ws.length : Int) ≤ (k : Int) := by omega
      have hix := ix_ws H e (i := (k : Int)) rfl
      have nf := nin_fac x
      rw [← numAt_isSome e, q1] at nf
      simp [F_law_mix_end, B_law_mix_end, b1, b2, fc, h1, hz, posB, -ixD_e, hix, -ninD_e, nf]
  | some f =>
    have e := (numAt_some q1).1
    have hk := (List.getElem?_eq_some_iff.mp e).1
    have h1 : ¬ (ws.length : Int) ≤ (k : Int) := by omega
    have hix := ix_ws H e (i := (k : Int)) rfl
    have nf := nin_fac (strI f)
    rw [← numAt_isSome e, q1] at nf
    have ml := mix_loop H 5 k 0 none none G rfl
    simp [F_law_mix_end, B_law_mix_end, b1, b2, b6, fc, h1, hz, -ixD_e, hix, -ninD_e, nf, ml]
    constructor <;> rfl
theorem part_end (k : Nat) (G : Gs) : F_law_part_end [wsW ws, .int k] G = .ok (pairW (posB (ptR ws k)).1 (posB (ptR ws k)).2) G := by
  have hz : ws.length ≤ 16777216 := by have := H.z; omega
  unfold ptR
  cases q1 : nm ws k with
  | false =>
    cases e : ws[k]? with
    | none =>
      have hk : ws.length ≤ k := List.getElem?_eq_none_iff.mp e
      have h1 : (ws.length : Int) ≤ (k : Int) := by omega
      simp [F_law_part_end, B_law_part_end, h1, hz, posB]
    | some x =>
      have hk := (List.getElem?_eq_some_iff.mp e).1
      have h1 : ¬ (ws.length : Int) ≤ (k : Int) := by omega
      have hix := ix_ws H e (i := (k : Int)) rfl
      have nt := nm_test H e
      rw [q1] at nt
      simp [F_law_part_end, B_law_part_end, h1, hz, posB, -ixD_e, hix, nt]
  | true =>
    have e := (nm_some q1).1
    have hk := (List.getElem?_eq_some_iff.mp e).1
    have h1 : ¬ (ws.length : Int) ≤ (k : Int) := by omega
    have hix := ix_ws H e (i := (k : Int)) rfl
    have nt := nm_test H e
    rw [q1] at nt
    cases e2 : ws[k + 1]? with
    | none =>
      have hk2 : ws.length ≤ k + 1 := List.getElem?_eq_none_iff.mp e2
      have h2 : ¬ (k : Int) + 1 < (ws.length : Int) := by omega
      simp [F_law_part_end, B_law_part_end, h1, hz, posB, -ixD_e, hix, nt, h2, kindAt, e2, dOf]
    | some x =>
      have hk2 := (List.getElem?_eq_some_iff.mp e2).1
      have h2 : (k : Int) + 1 < (ws.length : Int) := by omega
      have hix2 := ix_ws H e2 (i := (k : Int) + 1) (by omega)
      by_cases k1 : x = sSOURCE
      · subst k1
        simp [F_law_part_end, B_law_part_end, h1, hz, posB, -ixD_e, hix, nt, h2, hix2, dOf]
      by_cases k2 : x = sMIX
      · subst k2
        have me := mix_end H (k + 2) G
        simp at me
        simp [F_law_part_end, B_law_part_end, h1, hz, -ixD_e, hix, nt, h2, hix2, dOf, me]
        cases tsR ws (k + 2) with
        | error j => exact ⟨rfl, rfl⟩
        | ok p => exact ⟨rfl, rfl⟩
      have ne := fun (m : Nat) (hm : m ≤ 100) => names_end H (k + 2) m hm G
      by_cases k3 : x = sUSE
      · subst k3
        have n5 := ne 5 (by decide)
        simp at n5
        cases q2 : nm ws (k + 2) with
        | false =>
          have r : nEnd ws 5 (k + 2) = k + 2 := by unfold nEnd; rw [q2]; rfl
          rw [r] at n5
          simp [F_law_part_end, B_law_part_end, h1, hz, posB, -ixD_e, hix, nt, h2, hix2, dOf, n5]
          omega
        | true =>
          have r : nEnd ws 5 (k + 2) = nEnd ws 4 (k + 3) := by
            conv => lhs; unfold nEnd
            rw [q2]; rfl
          have le := nEnd_le ws 4 (k + 3)
          have h3 : (k : Int) + 2 + 1 ≤ ((nEnd ws 4 (k + 3) : Nat) : Int) := by omega
          rw [r] at n5
          simp [F_law_part_end, B_law_part_end, h1, hz, posB, -ixD_e, hix, nt, h2, hix2, dOf, n5, h3]
      by_cases k4 : x ∈ KINDS
      · have kk : kindAt ws (k + 1) = some x := by unfold kindAt; rw [e2]; simp [k4]
        have kin : x ∈ ([[115, 111, 117, 114, 99, 101], [109, 105, 120], [112, 108, 97, 105, 110], [111, 100, 100], [107, 101, 101, 112], [112, 97, 105, 114], [117, 115, 101]] : List (List Nat)) := by
          simp only [KINDS, List.mem_cons, List.not_mem_nil, or_false] at k4
          simp only [List.mem_cons, List.not_mem_nil, or_false]
          rcases k4 with h | h | h | h <;> simp [h]
        have ni := nin_strs x [[115, 111, 117, 114, 99, 101], [109, 105, 120], [112, 108, 97, 105, 110], [111, 100, 100], [107, 101, 101, 112], [112, 97, 105, 114], [117, 115, 101]]
        rw [decide_eq_true kin] at ni
        simp only [List.map_cons, List.map_nil] at ni
        by_cases kp : x = sPAIR
        · subst kp
          have c2 : cntK sPAIR = 2 := rfl
          have n3 := ne 3 (by decide)
          simp at n3
          cases q2 : nm ws (k + 2) with
          | false =>
            have r : nEnd ws 3 (k + 2) = k + 2 := by unfold nEnd; rw [q2]; rfl
            rw [r] at n3
            simp [F_law_part_end, B_law_part_end, h1, hz, posB, -ixD_e, hix, nt, h2, hix2, -ninD_e, ni, n3, kk]
            omega
          | true =>
            have r : nEnd ws 3 (k + 2) = nEnd ws 2 (k + 3) := by
              conv => lhs; unfold nEnd
              rw [q2]; rfl
            rw [r] at n3
            have l2 := nmL_len ws 2 (k + 3)
            have le := nmL_le ws 2 (k + 3)
            by_cases q3 : (nmL ws 2 (k + 3)).length = 2
            · have h3 : (k : Int) + 2 + 3 ≤ ((nEnd ws 2 (k + 3) : Nat) : Int) := by omega
              simp [F_law_part_end, B_law_part_end, h1, hz, posB, -ixD_e, hix, nt, h2, hix2, -ninD_e, ni, n3, kk, c2, q3, h3]
            · have h3 : ¬ (k : Int) + 2 + 3 ≤ ((nEnd ws 2 (k + 3) : Nat) : Int) := by omega
              simp [F_law_part_end, B_law_part_end, h1, hz, posB, -ixD_e, hix, nt, h2, hix2, -ninD_e, ni, n3, kk, c2, q3, h3]
        · have c1 : cntK x = 1 := by unfold cntK; rw [if_neg kp]
          have n3 := ne 2 (by decide)
          simp at n3
          cases q2 : nm ws (k + 2) with
          | false =>
            have r : nEnd ws 2 (k + 2) = k + 2 := by unfold nEnd; rw [q2]; rfl
            rw [r] at n3
            simp [F_law_part_end, B_law_part_end, h1, hz, posB, -ixD_e, hix, nt, h2, hix2, -ninD_e, ni, n3, kk, k1, k2, k3, kp]
            omega
          | true =>
            have r : nEnd ws 2 (k + 2) = nEnd ws 1 (k + 3) := by
              conv => lhs; unfold nEnd
              rw [q2]; rfl
            rw [r] at n3
            have l2 := nmL_len ws 1 (k + 3)
            have le := nmL_le ws 1 (k + 3)
            by_cases q3 : (nmL ws 1 (k + 3)).length = 1
            · have h3 : (k : Int) + 2 + 2 ≤ ((nEnd ws 1 (k + 3) : Nat) : Int) := by omega
              simp [F_law_part_end, B_law_part_end, h1, hz, posB, -ixD_e, hix, nt, h2, hix2, -ninD_e, ni, n3, kk, k1, k2, k3, kp, c1, q3, h3]
            · have h3 : ¬ (k : Int) + 2 + 2 ≤ ((nEnd ws 1 (k + 3) : Nat) : Int) := by omega
              simp [F_law_part_end, B_law_part_end, h1, hz, posB, -ixD_e, hix, nt, h2, hix2, -ninD_e, ni, n3, kk, k1, k2, k3, kp, c1, q3, h3]
      · have kk : kindAt ws (k + 1) = none := by unfold kindAt; rw [e2]; simp [k4]
        have kin : ¬ x ∈ ([[115, 111, 117, 114, 99, 101], [109, 105, 120], [112, 108, 97, 105, 110], [111, 100, 100], [107, 101, 101, 112], [112, 97, 105, 114], [117, 115, 101]] : List (List Nat)) := by
          simp only [KINDS, List.mem_cons, List.not_mem_nil, or_false, not_or] at k4
          simp only [List.mem_cons, List.not_mem_nil, or_false, not_or]
          exact ⟨k1, k2, k4.1, k4.2.1, k4.2.2.1, k4.2.2.2, k3⟩
        have ni := nin_strs x [[115, 111, 117, 114, 99, 101], [109, 105, 120], [112, 108, 97, 105, 110], [111, 100, 100], [107, 101, 101, 112], [112, 97, 105, 114], [117, 115, 101]]
        rw [decide_eq_false kin] at ni
        simp only [List.map_cons, List.map_nil] at ni
        simp [F_law_part_end, B_law_part_end, h1, hz, posB, -ixD_e, hix, nt, h2, hix2, -ninD_e, ni, kk, k1, k2, k3]
theorem wrong_loop (w0 : W) : ∀ (n k : Nat) (i : Int) (x2 x3 x4 : Option W) (G : Gs), ws.length < k + n →
    ∃ v : Int, (SRes.seq (forL (gN 2) L1_law_wrong_word (rngL i n) [some (wsW ws), some (.int k), x2, x3, x4] G) R1_law_wrong_word) = .rt (.int v) G ∧
      v = match lpR ws n [] k with
        | .error j => (j : Int)
        | .ok (_, j) => (match ouR ws j with
          | .error e => (e : Int)
          | .ok _ => -1)
  | 0, k, i, x2, x3, x4, G, hk => ⟨k, by simp [rngL, forL, R1_law_wrong_word], rfl⟩
  | n + 1, k, i, x2, x3, x4, G, hk => by
    have hz : ws.length ≤ 16777216 := by have := H.z; omega
    have pe := part_end H k G
    rw [rngL_succ]
    unfold lpR
    by_cases q : ws[k]? = some [62]
    · rw [if_pos q]
      have hk2 := (List.getElem?_eq_some_iff.mp q).1
      have h1 : (k : Int) < (ws.length : Int) := by omega
      have hix := ix_ws H q (i := (k : Int)) rfl
      have n4 := names_end H (k + 1) 4 (by decide) G
      simp at n4
      simp only
      unfold ouR
      cases q1 : nm ws (k + 1) with
      | false =>
        have r : nEnd ws 4 (k + 1) = k + 1 := by unfold nEnd; rw [q1]; rfl
        rw [r] at n4
        refine ⟨((k + 1 : Nat) : Int), ?_, rfl⟩
        by_cases hl : k + 1 = ws.length
        · have hl' : (k : Int) + 1 = (ws.length : Int) := by omega
          simp [forL, L1_law_wrong_word, h1, hz, -ixD_e, hix, n4]
        · have hl' : ¬ (k : Int) + 1 = (ws.length : Int) := by omega
          simp [forL, L1_law_wrong_word, h1, hz, -ixD_e, hix, n4]
      | true =>
        have r : nEnd ws 4 (k + 1) = nEnd ws 3 (k + 2) := by
          conv => lhs; unfold nEnd
          rw [q1]; rfl
        rw [r] at n4
        have le := nEnd_le ws 3 (k + 2)
        have hgt : (k : Int) + 1 < ((nEnd ws 3 (k + 2) : Nat) : Int) := by omega
        cases q2 : ws[nEnd ws 3 (k + 2)]? with
        | none =>
          have h5 : ws.length ≤ nEnd ws 3 (k + 2) := List.getElem?_eq_none_iff.mp q2
          have d3 := nmL_drop ws 3 (k + 2)
          have l3 := nmL_len ws 3 (k + 2)
          have hd : (ws.drop (k + 2)).length = (nmL ws 3 (k + 2)).length := by
            conv => lhs; rw [d3]
            rw [List.length_append, List.length_drop]
            omega
          rw [List.length_drop] at hd
          have k1 := (List.getElem?_eq_some_iff.mp (nm_some q1).1).1
          have he : nEnd ws 3 (k + 2) = ws.length := by omega
          refine ⟨-1, ?_, rfl⟩
          rw [he] at n4 hgt
          simp [forL, L1_law_wrong_word, h1, hz, -ixD_e, hix, n4, hgt]
        | some y =>
          have h5 := (List.getElem?_eq_some_iff.mp q2).1
          have he : ¬ ((nEnd ws 3 (k + 2) : Nat) : Int) = (ws.length : Int) := by omega
          refine ⟨((nEnd ws 3 (k + 2) : Nat) : Int), ?_, by simp⟩
          have he' : ¬ nEnd ws 3 (k + 2) = ws.length := by omega
          simp [forL, L1_law_wrong_word, h1, hz, -ixD_e, hix, n4, hgt, he']
          exact he
    · rw [if_neg q]
      have tst : ∀ {α : Type} (a b : α), True := fun _ _ => trivial
      cases ep : ptR ws k with
      | error j =>
        rw [ep] at pe
        refine ⟨(j : Int), ?_, rfl⟩
        cases e : ws[k]? with
        | none =>
          have hk2 : ws.length ≤ k := List.getElem?_eq_none_iff.mp e
          have h1 : ¬ (k : Int) < (ws.length : Int) := by omega
          simp [forL, L1_law_wrong_word, h1, hz, pe, posB]
        | some x =>
          have hk2 := (List.getElem?_eq_some_iff.mp e).1
          have h1 : (k : Int) < (ws.length : Int) := by omega
          have hix := ix_ws H e (i := (k : Int)) rfl
          have hx : ¬ x = [62] := fun z => q (by rw [e, z])
          simp [forL, L1_law_wrong_word, h1, hz, -ixD_e, hix, hx, pe, posB]
      | ok p =>
        obtain ⟨p, j⟩ := p
        rw [ep] at pe
        obtain ⟨_, hj, _⟩ := pt_ok ep
        have hnm : nm ws k = true := by
          cases z : nm ws k with
          | true => rfl
          | false => unfold ptR at ep; rw [z] at ep; cases ep
        have e := (nm_some hnm).1
        have hk2 := (List.getElem?_eq_some_iff.mp e).1
        have h1 : (k : Int) < (ws.length : Int) := by omega
        have hix := ix_ws H e (i := (k : Int)) rfl
        have hx : ¬ wd ws k = [62] := fun z => q (by rw [e, z])
        dsimp only
        by_cases q2 : ws[j]? = some [59]
        · rw [if_pos q2]
          have hk3 := (List.getElem?_eq_some_iff.mp q2).1
          have h3 : ¬ (ws.length : Int) ≤ (j : Int) := by omega
          have hix3 := ix_ws H q2 (i := (j : Int)) rfl
          obtain ⟨v, ih, hv⟩ := wrong_loop w0 n (j + 1) (i + 1) (some (.int i)) x3 (some (.bl true)) G (by omega)
          refine ⟨v, ?_, ?_⟩
          · simp [forL, L1_law_wrong_word, h1, hz, -ixD_e, hix, hx, pe, posB, h3, hix3]
            simpa [L1_law_wrong_word] using ih
          · rw [hv]
            have pb := posB_lp ws n [] ([] ++ [p]) (j + 1)
            generalize lpR ws n [] (j + 1) = a at pb
            generalize lpR ws n ([] ++ [p]) (j + 1) = b at pb
            match a, b, pb with
            | .error x, .error y, pb => simp [posB] at pb; simp [pb]
            | .ok (_, x), .ok (_, y), pb => simp [posB] at pb; simp [pb]
            | .error x, .ok (_, y), pb => simp [posB] at pb
            | .ok (_, x), .error y, pb => simp [posB] at pb
        · rw [if_neg q2]
          refine ⟨(j : Int), ?_, rfl⟩
          cases e3 : ws[j]? with
          | none =>
            have hk3 : ws.length ≤ j := List.getElem?_eq_none_iff.mp e3
            have h3 : (ws.length : Int) ≤ (j : Int) := by omega
            simp [forL, L1_law_wrong_word, h1, hz, -ixD_e, hix, hx, pe, posB, h3]
          | some y =>
            have hk3 := (List.getElem?_eq_some_iff.mp e3).1
            have h3 : ¬ (ws.length : Int) ≤ (j : Int) := by omega
            have hix3 := ix_ws H e3 (i := (j : Int)) rfl
            have hy : ¬ y = [59] := fun z => q2 (by rw [e3, z])
            simp [forL, L1_law_wrong_word, h1, hz, -ixD_e, hix, hx, pe, posB, h3, hix3, hy]
def wrongI (ws : List (List Nat)) : Int := match ntR ws with
  | .error j => (j : Int)
  | .ok _ => -1
theorem wrong_word (G : Gs) : F_law_wrong_word [wsW ws] G = .ok (.int (wrongI ws)) G := by
  obtain ⟨v, e, hv⟩ := wrong_loop H .non (ws.length + 1) 0 0 none none none G (by omega)
  have hz : ws.length ≤ 16777216 := by have := H.z; omega
  have hb : bigI ((ws.length : Int) + 1) = true := decide_eq_true (by omega)
  have ht : ((ws.length : Int) + 1).toNat = ws.length + 1 := by omega
  have hw : wrongI ws = v := by
    rw [hv]
    unfold wrongI ntR
    cases lpR ws (ws.length + 1) [] 0 with
    | error j => rfl
    | ok p =>
      obtain ⟨ts, j⟩ := p
      dsimp only
      cases ouR ws j <;> rfl
  rw [hw]
  have e' : (forL (gN 2) L1_law_wrong_word (rngL 0 (ws.length + 1)) [some (wsW ws), some (.int 0), none, none, none] G).seq R1_law_wrong_word = .rt (.int v) G := e
  simp [F_law_wrong_word, B_law_wrong_word, hz, hb, ht, e']
end
/-! ### the words bent -/
theorem cut_map {α β : Type} (f : α → β) (xs : List α) (lo hi : Option Int) : cut (xs.map f) lo hi = (cut xs lo hi).map f := by
  unfold cut
  rw [List.length_map, List.map_take, List.map_drop]
theorem cut_mem {α : Type} {xs : List α} {lo hi : Option Int} {x : α} (h : x ∈ cut xs lo hi) : x ∈ xs := List.mem_of_mem_drop (List.mem_of_mem_take h)
theorem cut_mid {α : Type} (xs : List α) (n : Nat) : (cut xs (some (n : Int)) (some ((n + 1 : Nat) : Int))).length ≤ 1 := by
  unfold cut
  rw [HT.sIx_nat, HT.sIx_nat, List.length_take]
  omega
def FIX : List (List Nat) := [[59], [44], [62], [108, 97, 116, 101], [109, 105, 120], [117, 115, 101], [115, 111, 117, 114, 99, 101], [112, 97, 105, 114], [], [48], [45, 48], [53], [45, 55], [57, 57], [49, 48, 48], [45, 49, 48, 48], [48, 55], [43, 49], [49, 45], [97, 49], [65], [97, 98, 99, 100, 101], [97, 47, 98]]
theorem fix_sw : ∀ x ∈ FIX, Sw x := by
  have : ∀ x ∈ FIX, x.length ≤ 30 ∧ 32 ∉ x := by decide
  exact fun x hx => ⟨(this x hx).1, (this x hx).2⟩
theorem nameSw {w : List Nat} (h : NameW w) : Sw w := ⟨h.l30, NameW.noSp h⟩
theorem bent_ok {c : Nat} {o : O} (h : BagOk c o) (hc : c ≤ 900000) {ws ns : List (List Nat)} (hw : ∀ x ∈ ws, Sw x) (hl : ws.length ≤ 1000) (hn : ShortL ns) (R : Gs) :
    ∃ (vs : List (List Nat)) (o' : O), F_law_bent [.ref 0, wsW ws, .lst (ns.map .str)] (o :: R) = .ok (wsW vs) (o' :: R) ∧ BagOk (c + 3) o' ∧ (∀ x ∈ vs, Sw x) ∧ vs.length ≤ ws.length + 1 := by
  obtain ⟨a, o1, e1, b1, a0, a1⟩ := pull_ok h (by omega) (many := (ws.length : Int) + 1) (by omega) (by omega) R
  obtain ⟨w, o2, e2, b2, w0, w1⟩ := pull_ok b1 (by omega) (many := 5) (by decide) (by decide) R
  have hF : FIX.length = 23 := rfl
  obtain ⟨x, o3, e3, b3, hx⟩ := any_strs b2 (by omega) (FIX ++ ns) (by simp [hF]; omega) (by have := hn.1; simp [hF]; omega) R
  obtain ⟨n, rfl⟩ := Int.eq_ofNat_of_zero_le a0
  have hz : ws.length ≤ 16777216 := by omega
  have hn50 := hn.1
  have zn : ns.length + 23 ≤ 16777216 := by omega
  have zn' : 23 + ns.length ≤ 16777216 := by omega
  have sx : Sw x := by
    rcases List.mem_append.mp hx with hx | hx
    · exact fix_sw x hx
    · exact nameSw (hn.2 x hx)
  have c1 : cut (ws.map W.str) none (some (n : Int)) = (ws.take n).map .str := by rw [cut_map, cut_take]
  have c2 : cut (ws.map W.str) (some ((n : Int) + 1)) none = (ws.drop (n + 1)).map .str := by rw [cut_map, show (n : Int) + 1 = ((n + 1 : Nat) : Int) by omega, cut_drop]
  have c3 : cut (ws.map W.str) (some (n : Int)) none = (ws.drop n).map .str := by rw [cut_map, cut_drop]
  have l1 : (ws.take n).length ≤ n := by rw [List.length_take]; omega
  have l2 : (ws.drop (n + 1)).length = ws.length - (n + 1) := List.length_drop
  have l3 : (ws.drop n).length = ws.length - n := List.length_drop
  have l4 := cut_mid ws n
  have s1 : ∀ y ∈ ws.take n, Sw y := fun y hy => hw y (List.mem_of_mem_take hy)
  have s2 : ∀ y ∈ ws.drop (n + 1), Sw y := fun y hy => hw y (List.mem_of_mem_drop hy)
  have s3 : ∀ y ∈ ws.drop n, Sw y := fun y hy => hw y (List.mem_of_mem_drop hy)
  have app : ∀ {p q : List (List Nat)}, (∀ y ∈ p, Sw y) → (∀ y ∈ q, Sw y) → ∀ y ∈ p ++ q, Sw y := fun {p q} hp hq y hy => (List.mem_append.mp hy).elim (hp y) (hq y)
  have one : ∀ y ∈ [x], Sw y := fun y hy => by rw [List.mem_singleton.mp hy]; exact sx
  have e3' : F_law_any [.ref 0, .lst (([.str [59], .str [44], .str [62], .str [108, 97, 116, 101], .str [109, 105, 120], .str [117, 115, 101], .str [115, 111, 117, 114, 99, 101], .str [112, 97, 105, 114], .str [], .str [48], .str [45, 48], .str [53], .str [45, 55], .str [57, 57], .str [49, 48, 48], .str [45, 49, 48, 48], .str [48, 55], .str [43, 49], .str [49, 45], .str [97, 49], .str [65], .str [97, 98, 99, 100, 101], .str [97, 47, 98]] : List W) ++ ns.map .str)] (o2 :: R) = .ok (.str x) (o3 :: R) := by
    have : ((FIX ++ ns).map W.str) = ([.str [59], .str [44], .str [62], .str [108, 97, 116, 101], .str [109, 105, 120], .str [117, 115, 101], .str [115, 111, 117, 114, 99, 101], .str [112, 97, 105, 114], .str [], .str [48], .str [45, 48], .str [53], .str [45, 55], .str [57, 57], .str [49, 48, 48], .str [45, 49, 48, 48], .str [48, 55], .str [43, 49], .str [49, 45], .str [97, 49], .str [65], .str [97, 98, 99, 100, 101], .str [97, 47, 98]] : List W) ++ ns.map .str := by rw [List.map_append]; rfl
    rw [← this]
    exact e3
  simp only [List.cons_append, List.nil_append] at e3'
  have fin : ∀ vs : List (List Nat), F_law_bent [.ref 0, wsW ws, .lst (ns.map .str)] (o :: R) = .ok (wsW vs) (o3 :: R) → (∀ y ∈ vs, Sw y) → vs.length ≤ ws.length + 1 →
      ∃ (vs : List (List Nat)) (o' : O), F_law_bent [.ref 0, wsW ws, .lst (ns.map .str)] (o :: R) = .ok (wsW vs) (o' :: R) ∧ BagOk (c + 3) o' ∧ (∀ x ∈ vs, Sw x) ∧ vs.length ≤ ws.length + 1 := fun vs e s l => ⟨vs, o3, e, b3.le, s, l⟩
  have hw5 : w = 0 ∨ w = 1 ∨ w = 2 ∨ w = 3 ∨ w = 4 := by omega
  rcases hw5 with rfl | rfl | rfl | rfl | rfl
  · refine fin (ws.take n ++ ws.drop (n + 1)) ?_ (app s1 s2) (by rw [List.length_append]; omega)
    have z : (ws.take n).length + (ws.drop (n + 1)).length ≤ 16777216 := by omega
    simp [F_law_bent, B_law_bent, hz, e1, e2, zn, zn', e3', c1, c2, -List.map_take, -List.map_drop, -List.length_take, -List.length_drop, z]
  · refine fin (ws.take n) ?_ s1 (by omega)
    simp [F_law_bent, B_law_bent, hz, e1, e2, zn, zn', e3', c1, c2, -List.map_take, -List.map_drop, -List.length_take, -List.length_drop]
  · refine fin (ws.take n ++ [x] ++ ws.drop n) ?_ (app (app s1 one) s3) (by simp only [List.length_append, List.length_singleton]; rw [List.length_take]; omega)
    have z : (ws.take n).length + 1 ≤ 16777216 := by omega
    have z2 : (ws.take n).length + 1 + (ws.drop n).length ≤ 16777216 := by omega
    have z3 : (ws.take n).length + ((ws.drop n).length + 1) ≤ 16777216 := by omega
    simp [F_law_bent, B_law_bent, hz, e1, e2, zn, zn', e3', c1, c2, c3, -List.map_take, -List.map_drop, -List.length_take, -List.length_drop, z, z2, z3]
  · refine fin (ws.take n ++ [x] ++ ws.drop (n + 1)) ?_ (app (app s1 one) s2) (by simp only [List.length_append, List.length_singleton]; omega)
    have z : (ws.take n).length + 1 ≤ 16777216 := by omega
    have z2 : (ws.take n).length + 1 + (ws.drop (n + 1)).length ≤ 16777216 := by omega
    have z3 : (ws.take n).length + ((ws.drop (n + 1)).length + 1) ≤ 16777216 := by omega
    simp [F_law_bent, B_law_bent, hz, e1, e2, zn, zn', e3', c1, c2, c3, -List.map_take, -List.map_drop, -List.length_take, -List.length_drop, z, z2, z3]
  · have c4 : cut (ws.map W.str) (some (n : Int)) (some ((n : Int) + 1)) = (cut ws (some (n : Int)) (some ((n + 1 : Nat) : Int))).map .str := by rw [cut_map, show (n : Int) + 1 = ((n + 1 : Nat) : Int) by omega]
    generalize hm : cut ws (some (n : Int)) (some ((n + 1 : Nat) : Int)) = mid at l4 c4
    have sm : ∀ y ∈ mid, Sw y := fun y hy => hw y (cut_mem (by rw [hm]; exact hy))
    have hn1 : n ≤ ws.length := by omega
    refine fin (ws.take n ++ (mid ++ mid) ++ ws.drop (n + 1)) ?_ (app (app s1 (app sm sm)) s2) ?_
    · have z : mid.length * 2 ≤ 16777216 := by omega
      have z2 : (ws.take n).length + (mid.length + mid.length) ≤ 16777216 := by omega
      have z3 : (ws.take n).length + (mid.length + mid.length) + (ws.drop (n + 1)).length ≤ 16777216 := by omega
      have z4 : (ws.take n).length + (mid.length + (mid.length + (ws.drop (n + 1)).length)) ≤ 16777216 := by omega
      simp [F_law_bent, B_law_bent, hz, e1, e2, zn, zn', e3', c1, c2, c3, c4, -List.map_take, -List.map_drop, -List.length_take, -List.length_drop, z, z2, z3, z4, List.replicate_succ]
    · simp only [List.length_append]
      by_cases hlt : n < ws.length
      · omega
      · have : mid = [] := by
          rw [← hm]
          unfold cut
          rw [HT.sIx_nat, HT.sIx_nat, show min n ws.length = ws.length by omega, List.drop_length]
          simp
        rw [this]
        simp only [List.length_nil]
        omega
/-! ### drawn nets -/
theorem parts_ok2 {c : Nat} {o : O} (h : BagOk c o) (hc : c ≤ 500000) {ws : List (List Nat)} {bs : List (List Nat × List Nat)} (hws : ShortL ws) (hbs : BoxL bs) (s : Int) (hs0 : 0 ≤ s) (hs1 : s ≤ 50) :
    ∃ (ps : List W) (o' : O), F_law_parts [.ref 0, .lst (ws.map .str), .int s, .lst (bs.map boxW)] [o] = .ok (.lst ps) [o'] ∧ BagOk (c + 5000) o' ∧ ps.length ≤ ws.length ∧ ∀ p ∈ ps, PartW p := by
  have hlen := hws.1
  have first : ∀ ls0 : Ls, ls0.length = 7 → ∀ G, compL (gN 6) (eC (.bl true)) C1_law_parts ls0 ((ws.take s.toNat).map .str) [] G = .ok (.lst ((ws.take s.toNat).map fun w => .tup [.str sSOURCE, .str w])) G := fun ls0 hl G => by
    match ls0, hl with
    | [x0, x1, x2, x3, x4, x5, x6], _ =>
      have := compL_map (gN 6) (eC (.bl true)) C1_law_parts [x0, x1, x2, x3, x4, x5, x6] (fun w => .tup [.str sSOURCE, w]) G ((ws.take s.toNat).map .str) [] (fun w hw => ⟨[x0, x1, x2, x3, x4, x5, some w], by simp, by simp, by simp [C1_law_parts]⟩) (by simp [SZ]; omega)
      rw [this]
      simp [List.map_map, Function.comp_def]
  have srcs : ∀ p ∈ ((ws.take s.toNat).map fun w => W.tup [.str sSOURCE, .str w]), PartW p := fun p hp => by
    obtain ⟨w, hw, rfl⟩ := List.mem_map.mp hp
    exact .src w (hws.2 w (List.mem_of_mem_take hw))
  have hb1 : bigI s = true := decide_eq_true (by omega)
  have hb2 : bigI (ws.length : Int) = true := decide_eq_true (by omega)
  obtain ⟨ls', G', e, x5, x6, ps, o', rfl, rfl, hb, hl, hP⟩ := forL_inv (gN 5) L1_law_parts (fun k ls G => ∃ (x5 x6 : Option W) (ps : List W) (o' : O), ls = [some (.ref 0), some (.lst (ws.map .str)), some (.int s), some (.lst (bs.map boxW)), some (.ref 1), x5, x6] ∧ G = [o', .lst ps] ∧ BagOk (c + 50 * k) o' ∧ ps.length ≤ min s.toNat ws.length + k ∧ ∀ p ∈ ps, PartW p) (rngL s ((ws.length : Int) - s).toNat) 0
    [some (.ref 0), some (.lst (ws.map .str)), some (.int s), some (.lst (bs.map boxW)), some (.ref 1), none, none] [o, .lst ((ws.take s.toNat).map fun w => W.tup [.str sSOURCE, .str w])] (fun j w ls G hw hI => by
      obtain ⟨x5, x6, ps, o1, rfl, rfl, hb, hl, hP⟩ := hI
      obtain ⟨hj, rfl⟩ := rngL_at hw
      obtain ⟨k, hk⟩ : ∃ k : Nat, s + (j : Int) = k := ⟨(s + j).toNat, by omega⟩
      have hkl : k < ws.length := by omega
      have hwk : NameW ws[k] := hws.2 _ (List.getElem_mem hkl)
      obtain ⟨t, o2, e, b2, p⟩ := part_ok hb (by omega) hwk (hws.take k) hws (by omega) hbs [.lst ps]
      rw [hk]
      have hz : ps.length < 16777216 := by omega
      refine ⟨_, _, [some (.ref 0), some (.lst (ws.map .str)), some (.int s), some (.lst (bs.map boxW)), some (.ref 1), some (.int k), x6], [o2, .lst (ps ++ [t])], by simp; exact ⟨rfl, rfl⟩, .inl ?_, some (.int k), x6, _, o2, rfl, rfl, b2.le, by simp; omega, fun x hx => ?_⟩
      · simp [L1_law_parts, atI, ixN, hkl, cut_strs, -List.map_take, e, hz]
      · rcases List.mem_append.mp hx with hx | hx
        · exact hP x hx
        · rw [List.mem_singleton.mp hx]; exact p) ⟨none, none, _, o, rfl, rfl, h, by simp, srcs⟩
  rw [rngL_len] at hb hl
  have hpp : pureW.pureWs ps = true := by
    rw [pureWs_all]
    exact List.all_eq_true.mpr fun p hp => pure_part (hP p hp)
  refine ⟨ps, o', ?_, hb.le, by omega, hP⟩
  refine pur_bag (w := .ref 1) (L := [.lst ps]) ?_ hb ?_
  · have first' := first [some (.ref 0), some (.lst (ws.map .str)), some (.int s), some (.lst (bs.map boxW)), none, none, none] rfl [o]
    simp [B_law_parts, cut_strs_i ws s hs0, -List.map_take, first', hb1, hb2, e, R1_law_parts]
  · simp only [rsW]
    show (rsWs _ ps).map W.lst = _
    rw [rs_pures ps hpp]
    rfl
theorem tw_noSp {t : W} (h : TermW t) : ∀ x ∈ twW t, NoSp x := by
  cases h with
  | mk f d w f0 f1 d0 d1 hw =>
    have l1 := strI_noSp f0 f1
    have l2 := strI_noSp (i := d) (by omega) (by omega)
    have l3 : NoSp sLATE := by unfold NoSp; decide
    intro x hx
    simp only [twW] at hx
    rcases List.mem_append.mp hx with hx | hx
    · simp at hx
      rcases hx with rfl | rfl
      · exact l1
      · exact NameW.noSp hw
    · split at hx
      · simp at hx
        rcases hx with rfl | rfl
        · exact l3
        · exact l2
      · simp at hx
theorem tail_noSp : ∀ {ts : List W}, (∀ t ∈ ts, TermW t) → ∀ x ∈ tailW ts, NoSp x
  | [], _, _, h => absurd h List.not_mem_nil
  | t :: ts, ht, x, h => by
    simp only [tailW, List.mem_cons, List.mem_append] at h
    rcases h with rfl | h | h
    · unfold NoSp; decide
    · exact tw_noSp (ht t List.mem_cons_self) x h
    · exact tail_noSp (fun y hy => ht y (List.mem_cons_of_mem _ hy)) x h
theorem mix_noSp {ts : List W} (ht : ∀ t ∈ ts, TermW t) : ∀ x ∈ mixW ts, NoSp x := by
  cases ts with
  | nil => exact fun _ h => absurd h List.not_mem_nil
  | cons t ts =>
    intro x h
    simp only [mixW, List.mem_append] at h
    rcases h with h | h
    · exact tw_noSp (ht t List.mem_cons_self) x h
    · exact tail_noSp (fun y hy => ht y (List.mem_cons_of_mem _ hy)) x h
theorem part_noSp {p : W} (hp : PartW p) : ∀ x ∈ wOf p, NoSp x := by
  cases hp with
  | src w hw =>
    rw [wOf_src]
    intro x h
    simp at h
    rcases h with rfl | rfl
    · exact NameW.noSp hw
    · unfold NoSp; decide
  | box k w n ends hk hw hn he hc =>
    rw [wOf_box hk he.1]
    intro x h
    simp at h
    rcases h with rfl | rfl | rfl | h
    · exact NameW.noSp hw
    · exact kind_noSp hk
    · exact NameW.noSp hn
    · exact NameW.noSp (he.2 x h)
  | mix w ts hw hl ht =>
    rw [wOf_mix hw hl ht]
    intro x h
    simp at h
    rcases h with rfl | rfl | h
    · exact NameW.noSp hw
    · unfold NoSp; decide
    · exact mix_noSp ht x h
  | use w n ends hw hn he hu =>
    rw [wOf_use he.1]
    intro x h
    simp at h
    rcases h with rfl | rfl | rfl | h
    · exact NameW.noSp hw
    · unfold NoSp; decide
    · exact NameW.noSp hn
    · exact NameW.noSp (he.2 x h)
theorem netP_noSp : ∀ {ps : List W}, (∀ p ∈ ps, PartW p) → ∀ x ∈ netP ps, NoSp x
  | [], _, _, h => absurd h List.not_mem_nil
  | p :: ps, hp, x, h => by
    simp only [netP, List.mem_append, List.mem_cons] at h
    rcases h with h | rfl | h
    · exact part_noSp (hp p List.mem_cons_self) x h
    · unfold NoSp; decide
    · exact netP_noSp (fun y hy => hp y (List.mem_cons_of_mem _ hy)) x h
theorem netW_noSp {ps : List W} {outs : List (List Nat)} (hp : ∀ p ∈ ps, PartW p) (ho : ∀ w ∈ outs, NameW w) : ∀ x ∈ netW ps outs, NoSp x := by
  intro x h
  simp only [netW, accT_net, List.mem_append, List.mem_singleton] at h
  rcases h with (h | rfl) | h
  · exact netP_noSp hp x h
  · unfold NoSp; decide
  · exact NameW.noSp (ho x h)
theorem name_at {stem : List Nat} {p q k : Nat} (hl : stem.length ≤ 3) (hs : ∀ x ∈ stem, isLet x = true) : NameW (nmAt stem p q k) := by
  have l : (nmAt stem p q k).length = stem.length + 1 := by simp [nmAt]; omega
  unfold NameW nameB
  simp only [Bool.and_eq_true, decide_eq_true_eq, List.all_eq_true]
  refine ⟨⟨by omega, by omega⟩, fun c hc => ?_⟩
  simp only [nmAt] at hc
  rcases List.mem_append.mp hc with hc | hc
  · exact hs c (List.mem_of_mem_take hc)
  · rcases List.mem_append.mp hc with hc | hc
    · rw [List.mem_singleton.mp hc]
      exact decide_eq_true ((let_mem _).mpr (by omega))
    · exact hs c (List.mem_of_mem_drop hc)
theorem dat_strs (n : Nat) (ss : List (List Nat)) : (ss.map W.str).all (datW (n + 1)) = true := by
  rw [List.all_map]
  exact List.all_eq_true.mpr fun _ _ => rfl
/-- seven shuffled names -/
theorem words7 {c : Nat} {o : O} (h : BagOk c o) (hc : c ≤ 400000) : ∃ (ws : List (List Nat)) (o1 o2 : O) (xs : List W), F_law_names [.ref 0, .int 7] [o] = .ok (.lst xs) [o1] ∧ F_law_mixed [.ref 0, .lst xs] [o1] = .ok (.lst (ws.map .str)) [o2] ∧ BagOk (c + 20) o2 ∧ ShortL ws ∧ ws.length = 7 := by
  obtain ⟨stem, p, q, o1, e1, b1, hl, hs, hp, hq⟩ := names_ok h (by omega) 7 (by decide) []
  have e1 : F_law_names [.ref 0, .int 7] [o] = _ := e1
  have hx : ((List.range 7).map fun k => W.str (nmAt stem p q k)) = ((List.range 7).map fun k => nmAt stem p q k).map .str := by simp [List.map_map, Function.comp_def]
  rw [hx] at e1
  obtain ⟨ys, o2, e2, b2, hperm⟩ := mixed_ok b1 (((List.range 7).map fun k => nmAt stem p q k).map .str) (pure_strs _) (by simp) (by simp; omega)
  obtain ⟨ws, rfl, hws⟩ := strs_of (ts := ys) (vs := (List.range 7).map fun k => nmAt stem p q k) (fun t ht => by
    obtain ⟨s, hs, rfl⟩ := List.mem_map.mp (hperm.mem_iff.mp ht)
    exact ⟨s, rfl, hs⟩)
  have hlen : ws.length = 7 := by have := hperm.length_eq; simpa using this
  refine ⟨ws, o1, o2, _, e1, e2, b2.mono (by simp), ⟨by omega, fun w hw => ?_⟩, hlen⟩
  obtain ⟨k, _, rfl⟩ := List.mem_map.mp (hws w hw)
  exact name_at hl hs
theorem tail_len : ∀ {ts : List W}, (∀ t ∈ ts, TermW t) → (tailW ts).length ≤ 5 * ts.length
  | [], _ => by simp [tailW]
  | t :: r, h => by
    have := (tw_ok (h t List.mem_cons_self)).2.1
    have ih := tail_len (ts := r) fun y hy => h y (List.mem_cons_of_mem _ hy)
    simp only [tailW, List.length_cons, List.length_append]
    omega
theorem mix_len {ts : List W} (h : ∀ t ∈ ts, TermW t) : (mixW ts).length ≤ 5 * ts.length := by
  cases ts with
  | nil => simp [mixW]
  | cons t r =>
    have := (tw_ok (h t List.mem_cons_self)).2.1
    have ih := tail_len (ts := r) fun y hy => h y (List.mem_cons_of_mem _ hy)
    simp only [mixW, List.length_cons, List.length_append]
    omega
theorem part_len {p : W} (hp : PartW p) : (wOf p).length ≤ 32 := by
  cases hp with
  | src w hw => rw [wOf_src]; simp
  | box k w n ends hk hw hn he hc =>
    rw [wOf_box hk he.1]
    have : cntK k ≤ 2 := by unfold cntK; split <;> omega
    simp
    omega
  | mix w ts hw hl ht =>
    rw [wOf_mix hw hl ht]
    have := mix_len ht
    simp
    omega
  | use w n ends hw hn he hu =>
    rw [wOf_use he.1]
    simp
    omega
theorem netP_len : ∀ {ps : List W}, (∀ p ∈ ps, PartW p) → (netP ps).length ≤ 33 * ps.length
  | [], _ => by simp [netP]
  | p :: r, h => by
    have := part_len (h p List.mem_cons_self)
    have ih := netP_len (ps := r) fun y hy => h y (List.mem_cons_of_mem _ hy)
    simp only [netP, List.length_cons, List.length_append]
    omega
theorem net_sw {ps : List W} {outs : List (List Nat)} (h : ∀ p ∈ ps, PartW p) (hl : ps.length ≤ 8) (ho : ShortL outs) (h4 : outs.length ≤ 4) : (∀ x ∈ netW ps outs, Sw x) ∧ (netW ps outs).length ≤ 269 := by
  obtain ⟨_, l2⟩ := netW_ok h (by omega) ho
  refine ⟨fun x hx => ⟨l2 x hx, netW_noSp h ho.2 x hx⟩, ?_⟩
  have := netP_len h
  unfold netW
  rw [accT_net]
  simp only [List.length_append, List.length_singleton]
  omega
/-! ### one text -/
def fin1 (vs : List (List Nat)) : List (List Nat) := if vs = [] then [[]] else vs
theorem fin1_ne (vs : List (List Nat)) : fin1 vs ≠ [] := by unfold fin1; split <;> simp_all
theorem fin1_sw {vs : List (List Nat)} (h : ∀ x ∈ vs, Sw x) : ∀ x ∈ fin1 vs, Sw x := by
  unfold fin1
  split
  · intro x hx
    rw [List.mem_singleton.mp hx]
    exact ⟨by decide, List.not_mem_nil⟩
  · exact h
theorem fin1_len {vs : List (List Nat)} : (fin1 vs).length ≤ vs.length + 1 := by unfold fin1; split <;> simp
theorem join_any {vs : List (List Nat)} (h : ∀ x ∈ vs, Sw x) (hz : vs.length ≤ 1000) (G : Gs) : joinW [32] (wsW vs) G = .ok (.str (TL.joinL [32] (fin1 vs))) G := by
  have := sum_le (ss := vs) fun w hw => (h w hw).l
  have z : (vs.map (·.length)).sum + vs.length * ([32] : List Nat).length ≤ SZ := by unfold SZ; simp only [List.length_cons, List.length_nil]; omega
  unfold joinW
  simp only [itemsW_e1, Option.bind_some, strs_map]
  rw [if_pos z]
  unfold fin1
  split
  · rename_i e; rw [e]; rfl
  · rfl
theorem why_read {o : O} (r : Except Nat (List W × List (List Nat))) (F : Fn) (args : List W) (fa : EF) (ls : Ls) (ha : fa ls [o] = .ok (.tup args) [o]) (hF : F args [o] = readR o r) :
    eWhy X_law_field [(1, 1)] (eFn F [] fa) ls [o] = .ok (match r with | .error j => .tup [.str sCODE, .tup [.int j]] | .ok (ts, outs) => .tup [.str [], .tup [.tup ts, .tup (outs.map .str)]]) [o] := by
  cases r with
  | error j =>
    have hF : F args [o] = .exc (bad j) [o] := hF
    simp [ha, hF, bad, List.lookup_cons, X_law_field]
    rfl
  | ok p =>
    obtain ⟨ts, outs⟩ := p
    have hF : F args [o] = .ok (.tup [.tup ts, .tup (outs.map .str)]) [o] := hF
    simp [ha, hF]
theorem seq_R {f g : SF} {ls : Ls} {G : Gs} {P R : Ls → Gs → Prop} (h : ∃ ls1 G1, f ls G = .nx ls1 G1 ∧ R ls1 G1) (k : ∀ ls1 G1, R ls1 G1 → ∃ ls' G', g ls1 G1 = .nx ls' G' ∧ P ls' G') : ∃ ls' G', sSeq f g ls G = .nx ls' G' ∧ P ls' G' := by
  obtain ⟨ls1, G1, e, r⟩ := h
  obtain ⟨ls', G', e', p⟩ := k ls1 G1 r
  refine ⟨ls', G', ?_, p⟩
  show (f ls G).seq g = _
  rw [e]
  exact e'
theorem words_v : F_law_words_v = F_law_words := rfl
structure NamesOk (ws : List (List Nat)) : Prop where
  sh : ShortL ws
  len : ws.length = 7
theorem NamesOk.at {ws : List (List Nat)} (h : NamesOk ws) {k : Nat} (hk : k < 7) : ∃ x, ws[k]? = some x ∧ NameW x ∧ ∀ G, ixD (wsW ws) (.int k) G = .ok (.str x) G := by
  have hk' : k < ws.length := by rw [h.len]; exact hk
  have e := List.getElem?_eq_getElem hk'
  exact ⟨ws[k], e, h.sh.2 _ (List.getElem_mem hk'), fun G => ix_ws ⟨by have := h.len; omega, fun x hx => (h.sh.2 x hx).l30⟩ e rfl G⟩
theorem parts_step {c : Nat} {o : O} (h : BagOk c o) (hc : c ≤ 300000) {ws : List (List Nat)} (hw : NamesOk ws) : ∃ (ps : List W) (oa ob oc od : O) (n s : Int) (bs : List (List Nat × List Nat)),
    F_law_pull [.ref 0, .int 6] [o] = .ok (.int n) [oa] ∧ F_law_pull [.ref 0, .int 2] [oa] = .ok (.int s) [ob] ∧ F_law_boxes [.ref 0, .lst ((ws.take 2).map .str)] [ob] = .ok (.lst (bs.map boxW)) [oc] ∧
    F_law_parts [.ref 0, .lst ((ws.take (1 + n).toNat).map .str), .int s, .lst (bs.map boxW)] [oc] = .ok (.lst ps) [od] ∧ 0 ≤ n ∧ BagOk (c + 6000) od ∧ ps.length ≤ 6 ∧ ∀ p ∈ ps, PartW p := by
  obtain ⟨n, oa, e1, b1, n0, n1⟩ := pull_ok h (by omega) (many := 6) (by decide) (by decide) []
  obtain ⟨s, ob, e2, b2, s0, s1⟩ := pull_ok b1 (by omega) (many := 2) (by decide) (by decide) []
  obtain ⟨bs, oc, e3, b3, hbs⟩ := boxes_ok b2 (by omega) (hw.sh.take 2) []
  obtain ⟨ps, od, e4, b4, lps, hps⟩ := parts_ok2 b3 (by omega) (hw.sh.take (1 + n).toNat) hbs s s0 (by omega)
  rw [List.length_take] at lps
  exact ⟨ps, oa, ob, oc, od, n, s, bs, e1, e2, e3, e4, n0, b4.le, by omega, hps⟩
theorem turn_ok {c : Nat} {ls : Ls} {G : Gs} (hc : c ≤ 200000) (hI : Inv 12 c ls G) : ∃ ls' G', L1_law ls G = .nx ls' G' ∧ Inv 12 (c + 10000) ls' G' := by
  obtain ⟨o, rfl, h, hlen, h1⟩ := hI
  match ls, hlen, h1 with
  | [x0, some (.ref 0), x2, x3, x4, x5, x6, x7, x8, x9, x10, x11], _, rfl => ?_
  -- the names
  refine seq_R (R := fun ls G => ∃ (ws : List (List Nat)) (o' : O), ls = [x0, some (.ref 0), x2, some (wsW ws), x4, x5, x6, x7, x8, x9, x10, x11] ∧ G = [o'] ∧ BagOk (c + 20) o' ∧ NamesOk ws) ?_ ?_
  · obtain ⟨ws, o1, o2, xs, e1, e2, b2, hs, hl⟩ := words7 h (by omega)
    refine ⟨_, _, ?_, ws, o2, rfl, rfl, b2, ⟨hs, hl⟩⟩
    simp [e1, e2]
  rintro _ _ ⟨ws, o2, rfl, rfl, b2, hw⟩
  -- the parts
  refine seq_R (R := fun ls G => ∃ (ps : List W) (o' : O), ls = [x0, some (.ref 0), x2, some (wsW ws), some (.lst ps), x5, x6, x7, x8, x9, x10, x11] ∧ G = [o'] ∧ BagOk (c + 6020) o' ∧ ps.length ≤ 6 ∧ ∀ p ∈ ps, PartW p) ?_ ?_
  · obtain ⟨ps, oa, ob, oc, od, n, s, bs, e1, e2, e3, e4, n0, b4, lps, hps⟩ := parts_step b2 (by omega) hw
    have c1 := cut_strs_i ws (1 + n) (by omega)
    have c2 := cut_strs_i ws 2 (by decide)
    refine ⟨_, _, ?_, ps, od, rfl, rfl, b4.le, lps, hps⟩
    simp [e1, c1, c2, e2, -List.map_take, e3, e4]
  rintro _ _ ⟨ps, o3, rfl, rfl, b3, lps, hps⟩
  obtain ⟨n6, e6, hn6, ix6⟩ := hw.at (k := 6) (by decide)
  obtain ⟨n0, e0, hn0, ix0⟩ := hw.at (k := 0) (by decide)
  have ix6 : ∀ G, ixD (wsW ws) (.int 6) G = .ok (.str n6) G := ix6
  have ix0 : ∀ G, ixD (wsW ws) (.int 0) G = .ok (.str n0) G := ix0
  -- a use
  refine seq_R (R := fun ls G => ∃ (ps : List W) (o' : O), ls = [x0, some (.ref 0), x2, some (wsW ws), some (.lst ps), x5, x6, x7, x8, x9, x10, x11] ∧ G = [o'] ∧ BagOk (c + 6022) o' ∧ ps.length ≤ 7 ∧ ∀ p ∈ ps, PartW p) ?_ ?_
  · obtain ⟨r, oa, e1, b4, r0, r1⟩ := pull_ok b3 (by omega) (many := 3) (by decide) (by decide) []
    by_cases hr : r = 0
    · subst hr
      obtain ⟨q, ob, e2, b5, q0, q1⟩ := pull_ok b4 (by omega) (many := 5) (by decide) (by decide) []
      have c1 := cut_strs_i ws q q0
      have hl : (ws.take q.toNat).length ≤ 4 := by rw [List.length_take]; omega
      have hz : (ws.take q.toNat).length ≤ 16777216 := by omega
      have hz2 : ps.length + 1 ≤ 16777216 := by omega
      refine ⟨_, _, ?_, ps ++ [.tup [.str sUSE, .str n6, .str n0, .tup ((ws.take q.toNat).map .str)]], ob, rfl, rfl, b5.le, by simp; omega, all_snoc hps (.use n6 n0 _ hn6 hn0 (hw.sh.take q.toNat) hl)⟩
      simp [e1, -ixD_e, ix6, ix0, e2, c1, -List.map_take, -List.length_take, hz, hz2]
    · refine ⟨_, _, ?_, ps, oa, rfl, rfl, b4.le, by omega, hps⟩
      simp [e1, hr]
  rintro _ _ ⟨ps, o4, rfl, rfl, b4, lps, hps⟩
  -- a long mix
  refine seq_R (R := fun ls G => ∃ (ps : List W) (o' : O), ls = [x0, some (.ref 0), x2, some (wsW ws), some (.lst ps), x5, x6, x7, x8, x9, x10, x11] ∧ G = [o'] ∧ BagOk (c + 6024) o' ∧ ps.length ≤ 8 ∧ ∀ p ∈ ps, PartW p) ?_ ?_
  · obtain ⟨r, oa, e1, b5, r0, r1⟩ := pull_ok b4 (by omega) (many := 4) (by decide) (by decide) []
    by_cases hr : r = 0
    · subst hr
      have hz2 : ps.length + 1 ≤ 16777216 := by omega
      have tm : TermW (.tup [.int 1, .int 1, .str n0]) := .mk 1 1 n0 (by decide) (by decide) (by decide) (by decide) hn0
      refine ⟨_, _, ?_, ps ++ [.tup [.str sMIX, .str n6, .tup (List.replicate 6 (.tup [.int 1, .int 1, .str n0]))]], oa, rfl, rfl, b5.le, by simp; omega, all_snoc hps (.mix n6 _ hn6 (by simp) fun t ht => by rw [List.eq_of_mem_replicate ht]; exact tm)⟩
      simp [e1, -ixD_e, ix6, ix0, hz2, List.replicate_succ]
    · refine ⟨_, _, ?_, ps, oa, rfl, rfl, b5.le, by omega, hps⟩
      simp [e1, hr]
  rintro _ _ ⟨ps, o5, rfl, rfl, b5, lps, hps⟩
  -- bent once
  refine seq_R (R := fun ls G => ∃ (vs : List (List Nat)) (o' : O), ls = [x0, some (.ref 0), x2, some (wsW ws), some (.lst ps), some (wsW vs), x6, x7, x8, x9, x10, x11] ∧ G = [o'] ∧ BagOk (c + 6030) o' ∧ vs.length ≤ 270 ∧ ∀ x ∈ vs, Sw x) ?_ ?_
  · obtain ⟨r, oa, e1, b6, r0, r1⟩ := pull_ok b5 (by omega) (many := 4) (by decide) (by decide) []
    have c1 := cut_strs_i ws (1 + r) (by omega)
    have so := hw.sh.take (1 + r).toNat
    have e2 := law_words_ok hps (by omega) so [oa]
    obtain ⟨sw, nl⟩ := net_sw hps lps so (by rw [List.length_take]; omega)
    obtain ⟨vs, ob, e3, b7, hvs, lvs⟩ := bent_ok b6 (by omega) sw (by omega) hw.sh []
    rw [← words_v] at e2
    refine ⟨_, _, ?_, vs, ob, rfl, rfl, b7.le, by omega, hvs⟩
    simp [e1, c1, -List.map_take, e2, e3]
  rintro _ _ ⟨vs, o6, rfl, rfl, b6, lvs, hvs⟩
  -- bent again
  refine seq_R (R := fun ls G => ∃ (vs : List (List Nat)) (o' : O), ls = [x0, some (.ref 0), x2, some (wsW ws), some (.lst ps), some (wsW vs), x6, x7, x8, x9, x10, x11] ∧ G = [o'] ∧ BagOk (c + 6040) o' ∧ vs.length ≤ 271 ∧ ∀ x ∈ vs, Sw x) ?_ ?_
  · obtain ⟨r, oa, e1, b7, r0, r1⟩ := pull_ok b6 (by omega) (many := 3) (by decide) (by decide) []
    by_cases hr : r = 0
    · subst hr
      obtain ⟨us, ob, e2, b8, hus, lus⟩ := bent_ok b7 (by omega) hvs (by omega) hw.sh []
      refine ⟨_, _, ?_, us, ob, rfl, rfl, b8.le, by omega, hus⟩
      simp [e1, e2]
    · refine ⟨_, _, ?_, vs, oa, rfl, rfl, b7.le, by omega, hvs⟩
      simp [e1, hr]
  clear b6 lvs hvs
  rintro _ _ ⟨us, o7, rfl, rfl, b7, lus, hus⟩
  -- the text, cut again
  have j := join_any hus (by omega)
  have sf := fin1_sw hus
  have nf := fin1_ne us
  have lf := fin1_len (vs := us)
  generalize fin1 us = fs at j sf nf lf
  have H : Wd fs := ⟨by omega, fun x hx => (sf x hx).l⟩
  have sl := joinL_len (ws := fs) fun x hx => (sf x hx).l
  have zt : (TL.joinL [32] fs).length ≤ 16777214 := by omega
  have hsp : splitL (TL.joinL [32] fs) [32] = fs.map .str := split_joinL nf fun x hx => (sf x hx).s
  have rd := read_any nf sf (by omega) (fun n => b7.low (n := n))
  have ww := fun G => wrong_word H G
  refine seq_R (R := fun ls G => ls = [x0, some (.ref 0), x2, some (wsW ws), some (.lst ps), some (wsW us), some (.str (TL.joinL [32] fs)), x7, x8, x9, x10, x11] ∧ G = [o7]) ?_ ?_
  · refine ⟨_, _, ?_, rfl, rfl⟩
    simp [-joinW, j]
  rintro _ _ ⟨rfl, rfl⟩
  refine seq_R (R := fun ls G => ls = [x0, some (.ref 0), x2, some (wsW ws), some (.lst ps), some (wsW fs), some (.str (TL.joinL [32] fs)), x7, x8, x9, x10, x11] ∧ G = [o7]) ?_ ?_
  · refine ⟨_, _, ?_, rfl, rfl⟩
    simp [hsp, zt]
  rintro _ _ ⟨rfl, rfl⟩
  refine seq_R (R := fun ls G => ls = [x0, some (.ref 0), x2, some (wsW ws), some (.lst ps), some (wsW fs), some (.str (TL.joinL [32] fs)), some (.int (wrongI fs)), x8, x9, x10, x11] ∧ G = [o7]) ?_ ?_
  · refine ⟨_, _, ?_, rfl, rfl⟩
    simp [ww]
  rintro _ _ ⟨rfl, rfl⟩
  cases hr : ntR fs with
  | error j =>
    rw [hr] at rd
    have hw : wrongI fs = (j : Int) := by unfold wrongI; rw [hr]
    rw [hw]
    have rd : F_read_net [.str (TL.joinL [32] fs)] [o7] = .exc (bad j) [o7] := rd
    have hX : X_law_field (.obj 1 [.int j, .str sCODE]) = some (.tup [.int j]) := rfl
    have hk : okW (.tup [.int (j : Int)]) = true := rfl
    have nr : F_Net_read [.str (TL.joinL [32] fs), .non] [o7] = .exc (bad j) [o7] := by
      simp [F_Net_read, B_Net_read, rd]
    have h0 : (0 : Int) ≤ (j : Int) := by omega
    have h0' : ¬ (j : Int) < 0 := by omega
    have sm := same_refl 8 (.lst [.tup [.str sCODE, .tup [.int j]], .tup [.str sCODE, .tup [.int j]]]) [o7] rfl
    refine ⟨[x0, some (.ref 0), x2, some (wsW ws), some (.lst ps), some (wsW fs), some (.str (TL.joinL [32] fs)), some (.int j), some (.tup [.str sCODE, .tup [.int j]]), some (.tup [.str sCODE, .tup [.int j]]), x10, x11], [o7], ?_, o7, rfl, b7.le, rfl, rfl⟩
    simp [rd, bad, List.lookup_cons, hX, hk, nr, perm, h0, h0', List.replicate_succ, sm]
  | ok p =>
    obtain ⟨ts, outs⟩ := p
    rw [hr] at rd
    have hw : wrongI fs = -1 := by unfold wrongI; rw [hr]
    rw [hw]
    obtain ⟨hts, lts, ho, hn⟩ := nt_ok hr
    have rd : F_read_net [.str (TL.joinL [32] fs)] [o7] = .ok (.tup [.tup ts, .tup (outs.map .str)]) [o7] := rd
    have tx := (text_of_ok hts (by omega) ho [o7]).2
    have ht : netT ts outs = TL.joinL [32] fs := by unfold netT; rw [hn]
    rw [ht] at tx
    have sm1 := same_refl 8 (.str []) [o7] rfl
    have sm2 := same_refl 8 (.str (TL.joinL [32] fs)) [o7] rfl
    refine ⟨[x0, some (.ref 0), x2, some (wsW ws), some (.lst ps), some (wsW fs), some (.str (TL.joinL [32] fs)), some (.int (-1)), some (.tup [.str [], .tup [.tup ts, .tup (outs.map .str)]]), some (.tup [.str [], .tup [.tup ts, .tup (outs.map .str)]]), x10, x11], [o7], ?_, o7, rfl, b7.le, rfl, rfl⟩
    simp [rd, dOf, atI, ixN, tx, sm1, sm2]
/-! ### what is no text -/
theorem odd_read (w : W) (hw : isStr w = false) {o : O} (ho : ∀ n, lowO n o = true) (hs : ∀ G, isiW [w, .ty .str] G = .ok (.bl false) G) : F_read_net [w] [o] = .exc (bad 0) [o] := by
  refine pur_oe (M := []) ?_ ho (pure_bad 0)
  simp only [B_read_net, mkFn]
  simp [hs, bad]
def ODDS : List W := [.non, .int 3, .bl true, .lst [.str [97]], .tup [.str [62, 32, 97]]]
abbrev badT : W := .tup [.str sCODE, .tup [.int 0]]
theorem odds_read {o : O} (ho : ∀ n, lowO n o = true) : ∀ w ∈ ODDS, F_read_net [w] [o] = .exc (bad 0) [o] := by
  intro w hw
  simp only [ODDS, List.mem_cons, List.not_mem_nil, or_false] at hw
  rcases hw with rfl | rfl | rfl | rfl | rfl
  · exact odd_read _ rfl ho fun G => rfl
  · exact odd_read _ rfl ho fun G => rfl
  · exact odd_read _ rfl ho fun G => rfl
  · exact odd_read _ rfl ho fun G => rfl
  · exact odd_read _ rfl ho fun G => rfl
theorem empty_read {o : O} (ho : ∀ n, lowO n o = true) : F_read_net [.str []] [o] = .exc (bad 0) [o] := by
  have e := read_any (ws := [[]]) (by simp) (fun x hx => by rw [List.mem_singleton.mp hx]; exact ⟨by decide, List.not_mem_nil⟩) (by simp) ho
  exact e
theorem rest_ok {o : O} (ho : ∀ n, lowO n o = true) (x0 x2 x3 x4 x5 x6 x7 x8 x9 x10 x11 : Option W) : R1_law [x0, some (.ref 0), x2, x3, x4, x5, x6, x7, x8, x9, x10, x11] [o] = .rt (.bl true) [o] := by
  have hX : X_law_field (.obj 1 [.int 0, .str sCODE]) = some (.tup [.int 0]) := rfl
  have hk : okW (.tup [.int 0]) = true := rfl
  have er := empty_read ho
  have c1 : ∀ x8, compL (gN 11) (eC (.bl true)) C1_law [x0, some (.ref 0), x2, x3, x4, x5, x6, x7, x8, x9, some (.lst ODDS), none] ODDS [] [o] = .ok (.lst (List.replicate 5 badT)) [o] := fun x8 => by
    have := compL_map (gN 11) (eC (.bl true)) C1_law [x0, some (.ref 0), x2, x3, x4, x5, x6, x7, x8, x9, some (.lst ODDS), none] (fun _ => badT) [o] ODDS [] (fun w hw => by
      have r := odds_read ho w hw
      exact ⟨[x0, some (.ref 0), x2, x3, x4, x5, x6, x7, x8, x9, some (.lst ODDS), some w], by simp, by simp, by simp [C1_law, r, bad, List.lookup_cons, hX, hk]⟩) (by decide)
    rw [this]
    rfl
  have c2 : ∀ x8, compL (gN 11) (eC (.bl true)) C2_law [x0, some (.ref 0), x2, x3, x4, x5, x6, x7, x8, x9, some (.lst ODDS), none] ODDS [] [o] = .ok (.lst (List.replicate 5 badT)) [o] := fun x8 => by
    have := compL_map (gN 11) (eC (.bl true)) C2_law [x0, some (.ref 0), x2, x3, x4, x5, x6, x7, x8, x9, some (.lst ODDS), none] (fun _ => badT) [o] ODDS [] (fun w hw => by
      have r := odds_read ho w hw
      have nr : F_Net_read [w, .non] [o] = .exc (bad 0) [o] := by simp [F_Net_read, B_Net_read, r]
      exact ⟨[x0, some (.ref 0), x2, x3, x4, x5, x6, x7, x8, x9, some (.lst ODDS), some w], by simp, by simp, by simp [C2_law, nr, perm, bad, List.lookup_cons, hX, hk]⟩) (by decide)
    rw [this]
    rfl
  have sm1 := same_refl 8 (.lst (List.replicate 10 badT)) [o] rfl
  have sm2 := same_refl 8 badT [o] rfl
  simp only [ODDS] at c1 c2
  simp only [List.replicate_succ, List.replicate_zero] at c1 c2 sm1
  simp [R1_law, c1, c2, er, bad, List.lookup_cons, hX, hk, List.replicate_succ, sm1, sm2]
theorem law_ok (ns : List Int) (hl : ns.length ≤ 63) : ∃ G, F_law [.fz (ns.map .int)] [] = .ok (.bl true) G := by
  obtain ⟨o, e0, b0⟩ := bag_ok ns hl
  obtain ⟨ls', G', e1, hI⟩ := forL_inv (gN 2) L1_law (fun k ls G => Inv 12 (10000 * k) ls G) (rngL 0 5) 0 [some (.fz (ns.map .int)), some (.ref 0), none, none, none, none, none, none, none, none, none, none] [o] (fun j w ls G hw hI => by
    obtain ⟨hj, rfl⟩ := rngL_get hw
    obtain ⟨o, rfl, h, hlen, h1⟩ := hI
    match ls, hlen, h1 with
    | [x0, some (.ref 0), x2, x3, x4, x5, x6, x7, x8, x9, x10, x11], _, rfl =>
      obtain ⟨ls2, G2, e, i2⟩ := turn_ok (c := 10000 * (0 + j)) (ls := [x0, some (.ref 0), some (.int j), x3, x4, x5, x6, x7, x8, x9, x10, x11]) (G := [o]) (by omega) ⟨o, rfl, h, rfl, rfl⟩
      exact ⟨_, _, ls2, G2, by simp, .inl e, i2⟩) ⟨o, rfl, b0, rfl, rfl⟩
  obtain ⟨o', rfl, h', hlen, h1⟩ := hI
  match ls', hlen, h1 with
  | [x0, some (.ref 0), x2, x3, x4, x5, x6, x7, x8, x9, x10, x11], _, rfl =>
    have r := rest_ok (fun n => h'.low (n := n)) x0 x2 x3 x4 x5 x6 x7 x8 x9 x10 x11
    simp [F_law, B_law, e0, e1, show bigI 5 = true from rfl]
    rw [r]
    simp
end K10

namespace K10
open PySem
open L2
open U
def topS (i : Nat) : Stmt := PySem.Challenge.pw_unopened_k10_wrong_texts.main.body.getD i (.Pass ⟨0, 0, 0, 0⟩)
abbrev s_Words___init : Stmt := inClass (topS 26) 0
theorem sc_Words___init : FnScope ["self", "text"] ["self", "text"] (defScope s_Words___init) := ⟨rfl, rfl, rfl, by decide +kernel, rfl, by decide +kernel, by decide +kernel⟩
abbrev s_Words_here : Stmt := inClass (topS 26) 1
theorem sc_Words_here : FnScope ["self"] ["self"] (defScope s_Words_here) := ⟨rfl, rfl, rfl, by decide +kernel, rfl, by decide +kernel, by decide +kernel⟩
abbrev s_Words_take : Stmt := inClass (topS 26) 2
theorem sc_Words_take : FnScope ["self", "good", "word"] ["self", "good"] (defScope s_Words_take) := ⟨rfl, rfl, rfl, by decide +kernel, rfl, by decide +kernel, by decide +kernel⟩
abbrev s_is_name : Stmt := topS 17
theorem sc_is_name : FnScope ["value", "letter"] ["value"] (defScope s_is_name) := ⟨rfl, rfl, rfl, by decide +kernel, rfl, by decide +kernel, by decide +kernel⟩
abbrev s_Words_take_name : Stmt := inClass (topS 26) 3
theorem sc_Words_take_name : FnScope ["self"] ["self"] (defScope s_Words_take_name) := ⟨rfl, rfl, rfl, by decide +kernel, rfl, by decide +kernel, by decide +kernel⟩
abbrev s_Words_take_names : Stmt := inClass (topS 26) 4
theorem sc_Words_take_names : FnScope ["self", "most", "found"] ["self", "most"] (defScope s_Words_take_names) := ⟨rfl, rfl, rfl, by decide +kernel, rfl, by decide +kernel, by decide +kernel⟩
abbrev s_number_in : Stmt := topS 25
theorem sc_number_in : FnScope ["word", "least", "most", "digits", "number", "digit"] ["word", "least", "most"] (defScope s_number_in) := ⟨rfl, rfl, rfl, by decide +kernel, rfl, by decide +kernel, by decide +kernel⟩
abbrev s_Words_take_number : Stmt := inClass (topS 26) 5
theorem sc_Words_take_number : FnScope ["self", "least", "most", "word", "number"] ["self", "least", "most"] (defScope s_Words_take_number) := ⟨rfl, rfl, rfl, by decide +kernel, rfl, by decide +kernel, by decide +kernel⟩
abbrev s_Words_take_term : Stmt := inClass (topS 26) 6
theorem sc_Words_take_term : FnScope ["self", "factor", "wire"] ["self"] (defScope s_Words_take_term) := ⟨rfl, rfl, rfl, by decide +kernel, rfl, by decide +kernel, by decide +kernel⟩
abbrev s_Words_take_terms : Stmt := inClass (topS 26) 7
theorem sc_Words_take_terms : FnScope ["self", "found"] ["self"] (defScope s_Words_take_terms) := ⟨rfl, rfl, rfl, by decide +kernel, rfl, by decide +kernel, by decide +kernel⟩
abbrev s_Words_take_part : Stmt := inClass (topS 26) 8
theorem sc_Words_take_part : FnScope ["self", "wire", "word", "name", "ends", "_"] ["self"] (defScope s_Words_take_part) := ⟨rfl, rfl, rfl, by decide +kernel, rfl, by decide +kernel, by decide +kernel⟩
abbrev s_Words_take_net : Stmt := inClass (topS 26) 9
theorem sc_Words_take_net : FnScope ["self", "parts", "outs"] ["self"] (defScope s_Words_take_net) := ⟨rfl, rfl, rfl, by decide +kernel, rfl, by decide +kernel, by decide +kernel⟩
abbrev s_read_net : Stmt := topS 27
theorem sc_read_net : FnScope ["text"] ["text"] (defScope s_read_net) := ⟨rfl, rfl, rfl, by decide +kernel, rfl, by decide +kernel, by decide +kernel⟩
abbrev s_Net_read : Stmt := inClass (topS 46) 3
theorem sc_Net_read : FnScope ["text", "pieces", "parts", "outs"] ["text", "pieces"] (defScope s_Net_read) := ⟨rfl, rfl, rfl, by decide +kernel, rfl, by decide +kernel, by decide +kernel⟩
abbrev s_law_bag : Stmt := topS 48
theorem sc_law_bag : FnScope ["_law_script"] ["_law_script"] (defScope s_law_bag) := ⟨rfl, rfl, rfl, by decide +kernel, rfl, by decide +kernel, by decide +kernel⟩
abbrev s_law_pull : Stmt := topS 49
theorem sc_law_pull : FnScope ["_law_bag_here", "_law_many", "_law_cell", "_law_digit", "_law_seed"] ["_law_bag_here", "_law_many"] (defScope s_law_pull) := ⟨rfl, rfl, rfl, by decide +kernel, rfl, by decide +kernel, by decide +kernel⟩
abbrev s_law_any : Stmt := topS 50
theorem sc_law_any : FnScope ["_law_bag_here", "_law_things"] ["_law_bag_here", "_law_things"] (defScope s_law_any) := ⟨rfl, rfl, rfl, by decide +kernel, rfl, by decide +kernel, by decide +kernel⟩
abbrev s_law_bent : Stmt := topS 67
theorem sc_law_bent : FnScope ["_law_bag_here", "_law_words_here", "_law_more", "_law_at", "_law_way", "_law_word"] ["_law_bag_here", "_law_words_here", "_law_more"] (defScope s_law_bent) := ⟨rfl, rfl, rfl, by decide +kernel, rfl, by decide +kernel, by decide +kernel⟩
abbrev s_law_boxes : Stmt := topS 59
theorem sc_law_boxes : FnScope ["_law_bag_here", "_law_words_here", "_law_word"] ["_law_bag_here", "_law_words_here"] (defScope s_law_boxes) := ⟨rfl, rfl, rfl, by decide +kernel, rfl, by decide +kernel, by decide +kernel⟩
abbrev s_law_mixed : Stmt := topS 54
theorem sc_law_mixed : FnScope ["_law_bag_here", "_law_things", "_law_found", "_law_thing"] ["_law_bag_here", "_law_things"] (defScope s_law_mixed) := ⟨rfl, rfl, rfl, by decide +kernel, rfl, by decide +kernel, by decide +kernel⟩
abbrev s_law_names : Stmt := topS 53
theorem sc_law_names : FnScope ["_law_bag_here", "_law_many", "_law_letters", "_law_stem", "_law_at", "_law_first", "_law_k"] ["_law_bag_here", "_law_many"] (defScope s_law_names) := ⟨rfl, rfl, rfl, by decide +kernel, rfl, by decide +kernel, by decide +kernel⟩
abbrev s_law_term : Stmt := topS 56
theorem sc_law_term : FnScope ["_law_bag_here", "_law_earlier", "_law_every", "_law_factor", "_law_delay"] ["_law_bag_here", "_law_earlier", "_law_every"] (defScope s_law_term) := ⟨rfl, rfl, rfl, by decide +kernel, rfl, by decide +kernel, by decide +kernel⟩
abbrev s_law_part : Stmt := topS 57
theorem sc_law_part : FnScope ["_law_bag_here", "_law_wire", "_law_earlier", "_law_every", "_law_boxes_here", "_law_kind", "_law_name", "_law_ends", "_law_k"] ["_law_bag_here", "_law_wire", "_law_earlier", "_law_every", "_law_boxes_here"] (defScope s_law_part) := ⟨rfl, rfl, rfl, by decide +kernel, rfl, by decide +kernel, by decide +kernel⟩
abbrev s_law_parts : Stmt := topS 58
theorem sc_law_parts : FnScope ["_law_bag_here", "_law_wires", "_law_sources", "_law_boxes_here", "_law_found", "_law_k", "_law_wire"] ["_law_bag_here", "_law_wires", "_law_sources", "_law_boxes_here"] (defScope s_law_parts) := ⟨rfl, rfl, rfl, by decide +kernel, rfl, by decide +kernel, by decide +kernel⟩
abbrev s_law_same : Stmt := topS 51
theorem sc_law_same : FnScope ["_law_found", "_law_due", "_law_one", "_law_two"] ["_law_found", "_law_due"] (defScope s_law_same) := ⟨rfl, rfl, rfl, by decide +kernel, rfl, by decide +kernel, by decide +kernel⟩
abbrev s_law_part_words : Stmt := topS 60
theorem sc_law_part_words : FnScope ["_law_part_here", "_law_found", "_law_at", "_law_term_here"] ["_law_part_here"] (defScope s_law_part_words) := ⟨rfl, rfl, rfl, by decide +kernel, rfl, by decide +kernel, by decide +kernel⟩
abbrev s_law_words_v : Stmt := topS 61
theorem sc_law_words_v : FnScope ["_law_parts_here", "_law_outs", "_law_found", "_law_part_here"] ["_law_parts_here", "_law_outs"] (defScope s_law_words_v) := ⟨rfl, rfl, rfl, by decide +kernel, rfl, by decide +kernel, by decide +kernel⟩
abbrev s_law_is_name : Stmt := topS 62
theorem sc_law_is_name : FnScope ["_law_word", "_law_sign"] ["_law_word"] (defScope s_law_is_name) := ⟨rfl, rfl, rfl, by decide +kernel, rfl, by decide +kernel, by decide +kernel⟩
abbrev s_law_names_end : Stmt := topS 63
theorem sc_law_names_end : FnScope ["_law_words_here", "_law_at", "_law_most", "_law_k"] ["_law_words_here", "_law_at", "_law_most"] (defScope s_law_names_end) := ⟨rfl, rfl, rfl, by decide +kernel, rfl, by decide +kernel, by decide +kernel⟩
abbrev s_law_mix_end : Stmt := topS 64
theorem sc_law_mix_end : FnScope ["_law_words_here", "_law_at", "_law_factors", "_law_k", "_law_number"] ["_law_words_here", "_law_at"] (defScope s_law_mix_end) := ⟨rfl, rfl, rfl, by decide +kernel, rfl, by decide +kernel, by decide +kernel⟩
abbrev s_law_part_end : Stmt := topS 65
theorem sc_law_part_end : FnScope ["_law_words_here", "_law_at", "_law_word", "_law_least", "_law_most", "_law_end"] ["_law_words_here", "_law_at"] (defScope s_law_part_end) := ⟨rfl, rfl, rfl, by decide +kernel, rfl, by decide +kernel, by decide +kernel⟩
abbrev s_law_wrong_word : Stmt := topS 66
theorem sc_law_wrong_word : FnScope ["_law_words_here", "_law_at", "_law_k", "_law_end", "_law_good"] ["_law_words_here"] (defScope s_law_wrong_word) := ⟨rfl, rfl, rfl, by decide +kernel, rfl, by decide +kernel, by decide +kernel⟩
abbrev s_term_words : Stmt := topS 28
theorem sc_term_words : FnScope ["term", "factor", "delay", "wire"] ["term"] (defScope s_term_words) := ⟨rfl, rfl, rfl, by decide +kernel, rfl, by decide +kernel, by decide +kernel⟩
abbrev s_part_words : Stmt := topS 29
theorem sc_part_words : FnScope ["part", "word", "wire", "rest", "found", "at", "term"] ["part"] (defScope s_part_words) := ⟨rfl, rfl, rfl, by decide +kernel, rfl, by decide +kernel, by decide +kernel⟩
abbrev s_text_of : Stmt := topS 30
theorem sc_text_of : FnScope ["parts", "outs", "found", "part"] ["parts", "outs"] (defScope s_text_of) := ⟨rfl, rfl, rfl, by decide +kernel, rfl, by decide +kernel, by decide +kernel⟩
abbrev s_law : Stmt := topS 68
theorem sc_law : FnScope ["_law_script", "_law_bag_here", "_law_turn", "_law_names_here", "_law_parts_here", "_law_words_here", "_law_text", "_law_wrong", "_law_found", "_law_late", "_law_odds", "_law_odd"] ["_law_script"] (defScope s_law) := ⟨rfl, rfl, rfl, by decide +kernel, rfl, by decide +kernel, by decide +kernel⟩
abbrev s_law_field : Stmt := topS 55
theorem sc_law_field : FnScope ["_law_e", "_law_code"] ["_law_e"] (defScope s_law_field) := ⟨rfl, rfl, rfl, by decide +kernel, rfl, by decide +kernel, by decide +kernel⟩
abbrev s_law_why : Stmt := topS 52
theorem sc_law_why : FnScope ["_law_ask", "_law_e"] ["_law_ask"] (defScope s_law_why) := ⟨rfl, rfl, rfl, by decide +kernel, rfl, by decide +kernel, by decide +kernel⟩
abbrev s_InvalidText___init : Stmt := inClass (topS 7) 0
theorem sc_InvalidText___init : SupScope ["self", "word"] ["self", "word"] (defScope s_InvalidText___init) := ⟨rfl, rfl, rfl, by decide +kernel, rfl, by decide +kernel, by decide +kernel, by decide +kernel⟩
section
variable {P : Program} {w : World} {mg : Str → Option Value} {base : Heap} {T : Tx}
theorem ok_law_field {f : Addr} {fd : FuncData} (F : Fun T.K "_law_field" "_law_field" s_law_field f fd) (xf_at : ∀ p ∈ ([] : List (Nat × Nat)), XfOk T "at" p.1 p.2) (xf_code : ∀ p ∈ ([(1, 1)] : List (Nat × Nat)), XfOk T "code" p.1 p.2) (xf_key : ∀ p ∈ ([] : List (Nat × Nat)), XfOk T "key" p.1 p.2) (xf_limit : ∀ p ∈ ([] : List (Nat × Nat)), XfOk T "limit" p.1 p.2) (xf_line : ∀ p ∈ ([] : List (Nat × Nat)), XfOk T "line" p.1 p.2) (xf_most : ∀ p ∈ ([] : List (Nat × Nat)), XfOk T "most" p.1 p.2) (xf_name : ∀ p ∈ ([] : List (Nat × Nat)), XfOk T "name" p.1 p.2) (xf_order : ∀ p ∈ ([] : List (Nat × Nat)), XfOk T "order" p.1 p.2) (xf_piece : ∀ p ∈ ([] : List (Nat × Nat)), XfOk T "piece" p.1 p.2) (xf_place : ∀ p ∈ ([] : List (Nat × Nat)), XfOk T "place" p.1 p.2) (xf_subject : ∀ p ∈ ([] : List (Nat × Nat)), XfOk T "subject" p.1 p.2) (xf_user : ∀ p ∈ ([] : List (Nat × Nat)), XfOk T "user" p.1 p.2) (xf_value : ∀ p ∈ ([] : List (Nat × Nat)), XfOk T "value" p.1 p.2) (xf_word : ∀ p ∈ ([(1, 0)] : List (Nat × Nat)), XfOk T "word" p.1 p.2) : XCall T P w mg base f fd "_law_e" F_law_field := by
  refine xcall_of F sc_law_field fun cdv A outer s H a dd C oe c ws y => ?_
  unfold B_law_field
  exact (fss_cons (fs_setQ 1 y.nd (fe_xf y xf_code (fe_var 0)))
    (fss_cons (fs_if (ft_cmp (or_inD y.hu) io_inD (fe_var 1) (fe_tup (fa_cons (fe_str [73, 110, 118, 97, 108, 105, 100, 78, 97, 109, 101]) (fa_cons (fe_str [73, 110, 118, 97, 108, 105, 100, 78, 117, 109, 98, 101, 114]) (fa_cons (fe_str [73, 110, 118, 97, 108, 105, 100, 76, 105, 109, 105, 116]) fa_nil))))) (fss_one (fs_ret (fe_tup (fa_cons (fe_xf y xf_value (fe_var 0)) fa_nil)))) fss_nil)
    (fss_cons (fs_if (ft_cmp (or_inD y.hu) io_inD (fe_var 1) (fe_tup (fa_cons (fe_str [73, 110, 118, 97, 108, 105, 100, 80, 97, 114, 116]) (fa_cons (fe_str [73, 110, 118, 97, 108, 105, 100, 79, 117, 116, 115]) (fa_cons (fe_str [73, 110, 118, 97, 108, 105, 100, 85, 115, 101]) (fa_cons (fe_str [73, 110, 118, 97, 108, 105, 100, 83, 104, 101, 101, 116]) (fa_cons (fe_str [73, 110, 118, 97, 108, 105, 100, 70, 97, 99, 116]) (fa_cons (fe_str [73, 110, 118, 97, 108, 105, 100, 68, 101, 101, 100]) (fa_cons (fe_str [73, 110, 118, 97, 108, 105, 100, 67, 111, 109, 109, 97, 110, 100]) fa_nil))))))))) (fss_one (fs_ret (fe_tup (fa_cons (fe_xf y xf_at (fe_var 0)) fa_nil)))) fss_nil)
    (fss_cons (fs_if (ft_cmp (or_inD y.hu) io_inD (fe_var 1) (fe_tup (fa_cons (fe_str [73, 110, 118, 97, 108, 105, 100, 84, 101, 120, 116]) (fa_cons (fe_str [73, 110, 118, 97, 108, 105, 100, 80, 97, 103, 101]) fa_nil)))) (fss_one (fs_ret (fe_tup (fa_cons (fe_if (ft_cmp (or_eqU y.hu) io_eq (fe_var 1) (fe_str [73, 110, 118, 97, 108, 105, 100, 84, 101, 120, 116])) (fe_xf y xf_word (fe_var 0)) (fe_xf y xf_line (fe_var 0))) fa_nil)))) fss_nil)
    (fss_cons (fs_if (ft_cmp (or_inD y.hu) io_inD (fe_var 1) (fe_tup (fa_cons (fe_str [68, 117, 112, 108, 105, 99, 97, 116, 101, 78, 97, 109, 101]) (fa_cons (fe_str [85, 110, 108, 105, 107, 101, 75, 105, 110, 100, 115]) (fa_cons (fe_str [85, 110, 107, 110, 111, 119, 110, 78, 97, 109, 101]) fa_nil))))) (fss_one (fs_ret (fe_tup (fa_cons (fe_xf y xf_name (fe_var 0)) fa_nil)))) fss_nil)
    (fss_cons (fs_if (ft_cmp (or_inD y.hu) io_inD (fe_var 1) (fe_tup (fa_cons (fe_str [67, 105, 114, 99, 117, 108, 97, 114]) (fa_cons (fe_str [85, 110, 107, 110, 111, 119, 110, 80, 105, 101, 99, 101]) fa_nil)))) (fss_one (fs_ret (fe_tup (fa_cons (fe_xf y xf_piece (fe_var 0)) fa_nil)))) fss_nil)
    (fss_cons (fs_if (ft_cmp (or_inD y.hu) io_inD (fe_var 1) (fe_tup (fa_cons (fe_str [73, 110, 85, 115, 101]) (fa_cons (fe_str [84, 111, 111, 77, 97, 110, 121]) fa_nil)))) (fss_one (fs_ret (fe_if (ft_cmp (or_eqU y.hu) io_eq (fe_var 1) (fe_str [73, 110, 85, 115, 101])) (fe_tup (fa_cons (fe_xf y xf_piece (fe_var 0)) (fa_cons (fe_xf y xf_user (fe_var 0)) fa_nil))) (fe_tup (fa_cons (fe_xf y xf_subject (fe_var 0)) (fa_cons (fe_xf y xf_most (fe_var 0)) fa_nil)))))) fss_nil)
    (fss_cons (fs_if (ft_cmp (or_inD y.hu) io_inD (fe_var 1) (fe_tup (fa_cons (fe_str [84, 111, 111, 69, 97, 114, 108, 121]) (fa_cons (fe_str [73, 110, 118, 97, 108, 105, 100, 84, 97, 98, 108, 101]) fa_nil)))) (fss_one (fs_ret (fe_tup (fa_cons (fe_if (ft_cmp (or_eqU y.hu) io_eq (fe_var 1) (fe_str [84, 111, 111, 69, 97, 114, 108, 121])) (fe_xf y xf_order (fe_var 0)) (fe_xf y xf_key (fe_var 0))) fa_nil)))) fss_nil)
    (fss_cons (fs_if (ft_cmp (or_inD y.hu) io_inD (fe_var 1) (fe_tup (fa_cons (fe_str [70, 117, 108, 108]) (fa_cons (fe_str [82, 105, 110, 103]) fa_nil)))) (fss_one (fs_ret (fe_tup (fa_cons (fe_if (ft_cmp (or_eqU y.hu) io_eq (fe_var 1) (fe_str [70, 117, 108, 108])) (fe_xf y xf_limit (fe_var 0)) (fe_xf y xf_place (fe_var 0))) fa_nil)))) fss_nil)
    (fss_one (fs_ret (fe_tup fa_nil))))))))))))
theorem ok_InvalidText___init {f cc C : Addr} {fd : FuncData} (F : FunS T.K P "__init__" "InvalidText.__init__" s_InvalidText___init f cc C fd) (hcls : ∃ cdD, PySem.W.clsIn T.K C = some cdD) (htop : (P.main.scope.names.lookup ("super" : Str)).isSome = false) (n_super : mg "super" = none) (M : SupX T.K C C) (n1 : PySem.W.findIn T.K (.ref C) "code" = some none) (n2 : PySem.W.findIn T.K (.ref C) "word" = some none) : FnOk P w T.K mg base (L2.CX P w) 1 f fd ["self", "word"] (spX C 1 ⟨([73, 110, 118, 97, 108, 105, 100, 84, 101, 120, 116] : List Nat).toArray⟩ ["word", "code"]) := by
  have e : (⟨([73, 110, 118, 97, 108, 105, 100, 84, 101, 120, 116] : List Nat).toArray⟩ : Str) = "InvalidText" := by decide +kernel
  rw [e]
  exact fn_exc1 (m := "the word cannot stand here") (cd := "InvalidText") (f1 := "word") (p1n := "word") F sc_InvalidText___init M hcls htop n_super (by decide +kernel) (by decide +kernel) rfl rfl (by decide +kernel) (by decide +kernel) n1 n2 (by decide +kernel) (by decide +kernel) ⟨_, fun env => rfl⟩ rfl
theorem ok_Words___init {f : Addr} {fd : FuncData} (F : Fun T.K "__init__" "Words.__init__" s_Words___init f fd)
    (sf_spot : ∀ p ∈ ([(0, 1)] : List (Nat × Nat)), FldOk T "spot" p.1 p.2 ∧ (T.lay p.1).length < 1000)
    (sf_words : ∀ p ∈ ([(0, 0)] : List (Nat × Nat)), FldOk T "words" p.1 p.2 ∧ (T.lay p.1).length < 1000) : FnOk P w T.K mg base (L2.CX P w) 1 f fd ["self", "text"] (spF T 2 F_Words___init) := by
  have q : FnOk P w T.K mg base (L2.CX P w) (0 + 1) f fd ["self", "text"] (spF T 2 (mkFn 2 2 B_Words___init)) := by
    refine fn_def F sc_Words___init rfl fun cdv A outer s H E hr c => ?_
    unfold B_Words___init
    exact (fss_cons (fs_fld c (fe_var 0) (fe_split c (fe_var 1) (fe_str [32])) sf_words)
    (fss_one (fs_fld c (fe_var 0) fe_int sf_spot)))
  exact q
theorem ok_Words_here {f : Addr} {fd : FuncData} (F : Fun T.K "here" "Words.here" s_Words_here f fd) (n_len : mg "len" = none)
    (fo_spot : ∀ p ∈ ([(0, 1)] : List (Nat × Nat)), FldOk T "spot" p.1 p.2)
    (fo_words : ∀ p ∈ ([(0, 0)] : List (Nat × Nat)), FldOk T "words" p.1 p.2) : FnOk P w T.K mg base (L2.CX P w) 1 f fd ["self"] (spF T 1 F_Words_here) := by
  have q : FnOk P w T.K mg base (L2.CX P w) (0 + 1) f fd ["self"] (spF T 1 (mkFn 1 1 B_Words_here)) := by
    refine fn_def F sc_Words_here rfl fun cdv A outer s H E hr c => ?_
    unfold B_Words_here
    exact (fss_one (fs_ret (fe_if (ft_cmp or_lt io_cmp (fe_fld c (fe_var 0) fo_spot) (fe_blt call_len ib_len n_len (fa_cons (fe_fld c (fe_var 0) fo_words) fa_nil))) (fe_ixD c (fe_fld c (fe_var 0) fo_words) (fe_fld c (fe_var 0) fo_spot)) fe_non)))
  exact q
theorem ok_Words_take {f : Addr} {fd : FuncData} (F : Fun T.K "take" "Words.take" s_Words_take f fd)
    (M_0_here : MethOk T P w mg base 1 "here" 0 1 F_Words_here [])
    (R_InvalidText : RaiseOk T P w mg base "InvalidText" 1 1 [73, 110, 118, 97, 108, 105, 100, 84, 101, 120, 116])
    (fo_spot : ∀ p ∈ ([(0, 1)] : List (Nat × Nat)), FldOk T "spot" p.1 p.2)
    (sf_spot : ∀ p ∈ ([(0, 1)] : List (Nat × Nat)), FldOk T "spot" p.1 p.2 ∧ (T.lay p.1).length < 1000) : FnOk P w T.K mg base (L2.CX P w) 3 f fd ["self", "good"] (spF T 2 F_Words_take) := by
  have q : FnOk P w T.K mg base (L2.CX P w) (2 + 1) f fd ["self", "good"] (spF T 2 (mkFn 2 3 B_Words_take)) := by
    refine fn_def F sc_Words_take rfl fun cdv A outer s H E hr c => ?_
    unfold B_Words_take
    exact (fss_cons (fs_set 2 c (fe_methT (row_cons (fe_meth10 c (fe_var 0) M_0_here (hr.mono (by decide)) rfl) row_nil) (by simp)))
    (fss_cons (fs_if (ft_w (fw_or (ft_cmp op_isN io_is (fe_var 2) fe_non) (fw_or1 (ft_not (ft_val (fe_var 1)))))) (fss_one (fs_raise c R_InvalidText (hr.mono (by decide)) (fa_cons (fe_fld c (fe_var 0) fo_spot) fa_nil))) fss_nil)
    (fss_cons (fs_fldaug c (fe_var 0) fe_int sf_spot)
    (fss_one (fs_ret (fe_var 2))))))
  exact q
theorem ok_is_name {f : Addr} {fd : FuncData} (F : Fun T.K "is_name" "is_name" s_is_name f fd) {t_LETTERS : Tok} (m_LETTERS : mg "LETTERS" = some (.str "abcdefghijklmnopqrstuvwxyz" t_LETTERS)) (n_all : mg "all" = none) (n_isinstance : mg "isinstance" = none) (n_len : mg "len" = none) (n_str : mg "str" = none) : FnOk P w T.K mg base (L2.CX P w) 1 f fd ["value"] (spF T 1 F_is_name) := by
  have q : FnOk P w T.K mg base (L2.CX P w) (0 + 1) f fd ["value"] (spF T 1 (mkFn 1 2 B_is_name)) := by
    refine fn_def F sc_is_name rfl fun cdv A outer s H E hr c => ?_
    unfold B_is_name
    exact (fss_cons (fs_if (ft_not (ft_val (fe_blt cr_isiU ib_isi n_isinstance (fa_cons (fe_var 0) (fa_cons (fe_ty .str n_str) fa_nil))))) (fss_one (fs_ret fe_bl)) fss_nil)
    (fss_one (fs_ret (fe_and (fe_chain or_le or_le io_cmp io_cmp fe_int (fe_blt call_len ib_len n_len (fa_cons (fe_var 0) fa_nil)) fe_int) (fe_one (fe_blt (cr_all c.calm) ib_all n_all (fa_cons (fe_comp [("letter", 1)] c (fi_seq c (fe_var 0)) (fun q c1 => (fg_name 1 c1)) (fun q c1 => fts_nil) (fun q c1 => (fe_cmp or_inU io_in (fe_var 1) (fe_const m_LETTERS [97, 98, 99, 100, 101, 102, 103, 104, 105, 106, 107, 108, 109, 110, 111, 112, 113, 114, 115, 116, 117, 118, 119, 120, 121, 122])))) fa_nil)))))))
  exact q
theorem ok_Words_take_name {f : Addr} {fd : FuncData} (F : Fun T.K "take_name" "Words.take_name" s_Words_take_name f fd) {f_is_name : Addr} {fd_is_name : FuncData} (O_is_name : FnOk P w T.K mg base (L2.CX P w) 1 f_is_name fd_is_name ["value"] (spF T 1 F_is_name)) (m_is_name : mg "is_name" = some (.ref f_is_name)) (k_is_name : PySem.W.keepIn T.K (.ref f_is_name) = true) (b_is_name : Binds T.K fd_is_name ["value"] [])
    (M_0_here : MethOk T P w mg base 1 "here" 0 1 F_Words_here [])
    (M_0_take : MethOk T P w mg base 3 "take" 0 2 F_Words_take []) : FnOk P w T.K mg base (L2.CX P w) 4 f fd ["self"] (spF T 1 F_Words_take_name) := by
  have q : FnOk P w T.K mg base (L2.CX P w) (3 + 1) f fd ["self"] (spF T 1 (mkFn 1 1 B_Words_take_name)) := by
    refine fn_def F sc_Words_take_name rfl fun cdv A outer s H E hr c => ?_
    unfold B_Words_take_name
    exact (fss_one (fs_ret (fe_methT (row_cons (fe_meth1 c (fe_var 0) M_0_take (hr.mono (by decide)) (fa_cons (fe_call c O_is_name (hr.mono (by decide)) m_is_name k_is_name b_is_name dfl0 rfl (fa_cons (fe_methT (row_cons (fe_meth10 c (fe_var 0) M_0_here (hr.mono (by decide)) rfl) row_nil) (by simp)) fa_nil) (al1 al0)) fa_nil) (hl_m (al1 al0) rfl)) row_nil) (by simp))))
  exact q
theorem ok_Words_take_names {f : Addr} {fd : FuncData} (F : Fun T.K "take_names" "Words.take_names" s_Words_take_names f fd) (n_len : mg "len" = none) (n_tuple : mg "tuple" = none) {f_is_name : Addr} {fd_is_name : FuncData} (O_is_name : FnOk P w T.K mg base (L2.CX P w) 1 f_is_name fd_is_name ["value"] (spF T 1 F_is_name)) (m_is_name : mg "is_name" = some (.ref f_is_name)) (k_is_name : PySem.W.keepIn T.K (.ref f_is_name) = true) (b_is_name : Binds T.K fd_is_name ["value"] [])
    (M_0_here : MethOk T P w mg base 1 "here" 0 1 F_Words_here [])
    (M_0_take : MethOk T P w mg base 3 "take" 0 2 F_Words_take []) : FnOk P w T.K mg base (L2.CX P w) 4 f fd ["self", "most"] (spF T 2 F_Words_take_names) := by
  have q : FnOk P w T.K mg base (L2.CX P w) (3 + 1) f fd ["self", "most"] (spF T 2 (mkFn 2 3 B_Words_take_names)) := by
    refine fn_def F sc_Words_take_names rfl fun cdv A outer s H E hr c => ?_
    unfold B_Words_take_names
    exact (fss_cons (fs_set 2 c (fe_lstM fa_nil))
    (fss_cons (fs_while 1000000 c (ft_w (fw_and (ft_cmp or_lt io_cmp (fe_blt call_len ib_len n_len (fa_cons (fe_var 2) fa_nil)) (fe_var 1)) (fw_and1 (ft_val (fe_call c O_is_name (hr.mono (by decide)) m_is_name k_is_name b_is_name dfl0 rfl (fa_cons (fe_methT (row_cons (fe_meth10 c (fe_var 0) M_0_here (hr.mono (by decide)) rfl) row_nil) (by simp)) fa_nil) (al1 al0)))))) (fss_one (fs_exp (fe_app c (fe_var 2) (fa_cons (fe_methT (row_cons (fe_meth1 c (fe_var 0) M_0_take (hr.mono (by decide)) (fa_cons fe_bl fa_nil) (hl_m (al1 al0) rfl)) row_nil) (by simp)) fa_nil)))))
    (fss_one (fs_ret (fe_bty call_tuple_of ib_tuple n_tuple (fa_cons (fe_var 2) fa_nil))))))
  exact fn_pur q
theorem ok_number_in {f : Addr} {fd : FuncData} (F : Fun T.K "number_in" "number_in" s_number_in f fd) (n_all : mg "all" = none) (n_int : mg "int" = none) (n_len : mg "len" = none) (n_str : mg "str" = none) : FnOk P w T.K mg base (L2.CX P w) 1 f fd ["word", "least", "most"] (spF T 3 F_number_in) := by
  have q : FnOk P w T.K mg base (L2.CX P w) (0 + 1) f fd ["word", "least", "most"] (spF T 3 (mkFn 3 6 B_number_in)) := by
    refine fn_def F sc_number_in rfl fun cdv A outer s H E hr c => ?_
    unfold B_number_in
    exact (fss_cons (fs_set 3 c (fe_if (ft_val (fe_starts c (fe_var 0) (fe_str [45]))) (fe_sl c (fe_var 0) (fp_some fe_int) fp_no) (fe_var 0)))
    (fss_cons (fs_if (ft_w (fw_or (ft_cmp (or_eqU c.hu) io_eq (fe_blt call_len ib_len n_len (fa_cons (fe_var 3) fa_nil)) fe_int) (fw_or (ft_cmp or_gt io_cmp (fe_blt call_len ib_len n_len (fa_cons (fe_var 3) fa_nil)) fe_int) (fw_or1 (ft_not (ft_val (fe_blt (cr_all c.calm) ib_all n_all (fa_cons (fe_comp [("digit", 5)] c (fi_seq c (fe_var 3)) (fun q c2 => (fg_name 5 c2)) (fun q c2 => fts_nil) (fun q c2 => (fe_cmp (or_inD c2.hu) io_inD (fe_var 5) (fe_str [48, 49, 50, 51, 52, 53, 54, 55, 56, 57])))) fa_nil)))))))) (fss_one (fs_ret fe_non)) fss_nil)
    (fss_cons (fs_set 4 c (fe_bty (call_int1.or call_int_str) ib_intD n_int (fa_cons (fe_var 3) fa_nil)))
    (fss_cons (fs_if (ft_w (fw_or (ft_cmp (or_neU c.hu) io_ne (fe_bty cr_str ib_str n_str (fa_cons (fe_var 4) fa_nil)) (fe_var 3)) (fw_or1 (ft_w (fw_and (ft_cmp (or_eqU c.hu) io_eq (fe_var 4) fe_int) (fw_and1 (ft_cmp (or_neU c.hu) io_ne (fe_var 3) (fe_var 0)))))))) (fss_one (fs_ret fe_non)) fss_nil)
    (fss_cons (fs_set 4 c (fe_if (ft_cmp (or_eqU c.hu) io_eq (fe_var 3) (fe_var 0)) (fe_var 4) (fe_neg (fe_var 4))))
    (fss_one (fs_ret (fe_if (ft_chain or_le or_le io_cmp io_cmp (fe_var 1) (fe_var 4) (fe_var 2)) (fe_var 4) fe_non))))))))
  exact q
theorem ok_Words_take_number {f : Addr} {fd : FuncData} (F : Fun T.K "take_number" "Words.take_number" s_Words_take_number f fd) {f_number_in : Addr} {fd_number_in : FuncData} (O_number_in : FnOk P w T.K mg base (L2.CX P w) 1 f_number_in fd_number_in ["word", "least", "most"] (spF T 3 F_number_in)) (m_number_in : mg "number_in" = some (.ref f_number_in)) (k_number_in : PySem.W.keepIn T.K (.ref f_number_in) = true) (b_number_in : Binds T.K fd_number_in ["word", "least", "most"] [])
    (M_0_here : MethOk T P w mg base 1 "here" 0 1 F_Words_here [])
    (M_0_take : MethOk T P w mg base 3 "take" 0 2 F_Words_take []) : FnOk P w T.K mg base (L2.CX P w) 4 f fd ["self", "least", "most"] (spF T 3 F_Words_take_number) := by
  have q : FnOk P w T.K mg base (L2.CX P w) (3 + 1) f fd ["self", "least", "most"] (spF T 3 (mkFn 3 5 B_Words_take_number)) := by
    refine fn_def F sc_Words_take_number rfl fun cdv A outer s H E hr c => ?_
    unfold B_Words_take_number
    exact (fss_cons (fs_set 3 c (fe_methT (row_cons (fe_meth10 c (fe_var 0) M_0_here (hr.mono (by decide)) rfl) row_nil) (by simp)))
    (fss_cons (fs_set 4 c (fe_if (ft_cmp op_isN io_is (fe_var 3) fe_non) fe_non (fe_call c O_number_in (hr.mono (by decide)) m_number_in k_number_in b_number_in dfl0 rfl (fa_cons (fe_var 3) (fa_cons (fe_var 1) (fa_cons (fe_var 2) fa_nil))) (al1 (al1 (al1 al0))))))
    (fss_cons (fs_exp (fe_methT (row_cons (fe_meth1 c (fe_var 0) M_0_take (hr.mono (by decide)) (fa_cons (fe_cmp op_notN io_isn (fe_var 4) fe_non) fa_nil) (hl_m (al1 al0) rfl)) row_nil) (by simp)))
    (fss_one (fs_ret (fe_var 4))))))
  exact q
theorem ok_Words_take_term {f : Addr} {fd : FuncData} (F : Fun T.K "take_term" "Words.take_term" s_Words_take_term f fd) {t_DELAY : Tok} (m_DELAY : mg "DELAY" = some (.int 4 t_DELAY)) {t_FACTOR : Tok} (m_FACTOR : mg "FACTOR" = some (.int 99 t_FACTOR))
    (M_0_here : MethOk T P w mg base 1 "here" 0 1 F_Words_here [])
    (M_0_take : MethOk T P w mg base 3 "take" 0 2 F_Words_take [])
    (M_0_take_name : MethOk T P w mg base 4 "take_name" 0 1 F_Words_take_name [])
    (M_0_take_number : MethOk T P w mg base 4 "take_number" 0 3 F_Words_take_number []) : FnOk P w T.K mg base (L2.CX P w) 5 f fd ["self"] (spF T 1 F_Words_take_term) := by
  have q : FnOk P w T.K mg base (L2.CX P w) (4 + 1) f fd ["self"] (spF T 1 (mkFn 1 3 B_Words_take_term)) := by
    refine fn_def F sc_Words_take_term rfl fun cdv A outer s H E hr c => ?_
    unfold B_Words_take_term
    exact (fss_cons (fs_set 1 c (fe_methT (row_cons (fe_meth1 c (fe_var 0) M_0_take_number (hr.mono (by decide)) (fa_cons (fe_neg (fe_constI m_FACTOR)) (fa_cons (fe_constI m_FACTOR) fa_nil)) (hl_m (al1 (al1 al0)) rfl)) row_nil) (by simp)))
    (fss_cons (fs_set 2 c (fe_methT (row_cons (fe_meth10 c (fe_var 0) M_0_take_name (hr.mono (by decide)) rfl) row_nil) (by simp)))
    (fss_cons (fs_if (ft_cmp (or_neU c.hu) io_ne (fe_methT (row_cons (fe_meth10 c (fe_var 0) M_0_here (hr.mono (by decide)) rfl) row_nil) (by simp)) (fe_str [108, 97, 116, 101])) (fss_one (fs_ret (fe_tup (fa_cons (fe_var 1) (fa_cons fe_int (fa_cons (fe_var 2) fa_nil)))))) fss_nil)
    (fss_cons (fs_exp (fe_methT (row_cons (fe_meth1 c (fe_var 0) M_0_take (hr.mono (by decide)) (fa_cons fe_bl fa_nil) (hl_m (al1 al0) rfl)) row_nil) (by simp)))
    (fss_one (fs_ret (fe_tup (fa_cons (fe_var 1) (fa_cons (fe_methT (row_cons (fe_meth1 c (fe_var 0) M_0_take_number (hr.mono (by decide)) (fa_cons fe_int (fa_cons (fe_constI m_DELAY) fa_nil)) (hl_m (al1 (al1 al0)) rfl)) row_nil) (by simp)) (fa_cons (fe_var 2) fa_nil))))))))))
  exact q
theorem ok_Words_take_terms {f : Addr} {fd : FuncData} (F : Fun T.K "take_terms" "Words.take_terms" s_Words_take_terms f fd) {t_FACTOR : Tok} (m_FACTOR : mg "FACTOR" = some (.int 99 t_FACTOR)) (n_len : mg "len" = none) (n_tuple : mg "tuple" = none) {f_number_in : Addr} {fd_number_in : FuncData} (O_number_in : FnOk P w T.K mg base (L2.CX P w) 1 f_number_in fd_number_in ["word", "least", "most"] (spF T 3 F_number_in)) (m_number_in : mg "number_in" = some (.ref f_number_in)) (k_number_in : PySem.W.keepIn T.K (.ref f_number_in) = true) (b_number_in : Binds T.K fd_number_in ["word", "least", "most"] [])
    (M_0_here : MethOk T P w mg base 1 "here" 0 1 F_Words_here [])
    (M_0_take : MethOk T P w mg base 3 "take" 0 2 F_Words_take [])
    (M_0_take_term : MethOk T P w mg base 5 "take_term" 0 1 F_Words_take_term []) : FnOk P w T.K mg base (L2.CX P w) 6 f fd ["self"] (spF T 1 F_Words_take_terms) := by
  have q : FnOk P w T.K mg base (L2.CX P w) (5 + 1) f fd ["self"] (spF T 1 (mkFn 1 2 B_Words_take_terms)) := by
    refine fn_def F sc_Words_take_terms rfl fun cdv A outer s H E hr c => ?_
    unfold B_Words_take_terms
    exact (fss_cons (fs_if (ft_w (fw_or (ft_cmp op_isN io_is (fe_methT (row_cons (fe_meth10 c (fe_var 0) M_0_here (hr.mono (by decide)) rfl) row_nil) (by simp)) fe_non) (fw_or1 (ft_cmp op_isN io_is (fe_call c O_number_in (hr.mono (by decide)) m_number_in k_number_in b_number_in dfl0 rfl (fa_cons (fe_methT (row_cons (fe_meth10 c (fe_var 0) M_0_here (hr.mono (by decide)) rfl) row_nil) (by simp)) (fa_cons (fe_neg (fe_constI m_FACTOR)) (fa_cons (fe_constI m_FACTOR) fa_nil))) (al1 (al1 (al1 al0)))) fe_non)))) (fss_one (fs_ret (fe_tup fa_nil))) fss_nil)
    (fss_cons (fs_set 1 c (fe_lstM (fa_cons (fe_methT (row_cons (fe_meth10 c (fe_var 0) M_0_take_term (hr.mono (by decide)) rfl) row_nil) (by simp)) fa_nil)))
    (fss_cons (fs_while 1000000 c (ft_w (fw_and (ft_cmp (or_eqU c.hu) io_eq (fe_methT (row_cons (fe_meth10 c (fe_var 0) M_0_here (hr.mono (by decide)) rfl) row_nil) (by simp)) (fe_str [44])) (fw_and1 (ft_cmp or_lt io_cmp (fe_blt call_len ib_len n_len (fa_cons (fe_var 1) fa_nil)) fe_int)))) (fss_cons (fs_exp (fe_methT (row_cons (fe_meth1 c (fe_var 0) M_0_take (hr.mono (by decide)) (fa_cons fe_bl fa_nil) (hl_m (al1 al0) rfl)) row_nil) (by simp)))
    (fss_one (fs_exp (fe_app c (fe_var 1) (fa_cons (fe_methT (row_cons (fe_meth10 c (fe_var 0) M_0_take_term (hr.mono (by decide)) rfl) row_nil) (by simp)) fa_nil))))))
    (fss_one (fs_ret (fe_bty call_tuple_of ib_tuple n_tuple (fa_cons (fe_var 1) fa_nil)))))))
  exact fn_pur q
theorem ok_Words_take_part {f : Addr} {fd : FuncData} (F : Fun T.K "take_part" "Words.take_part" s_Words_take_part f fd) {E_ENDS : Addr} (m_ENDS : mg "ENDS" = some (.ref E_ENDS)) (s_ENDS : (E_ENDS == sysModules) = false) (kd_ENDS : ∀ q ∈ ([([112, 108, 97, 105, 110], 1), ([111, 100, 100], 1), ([107, 101, 101, 112], 1), ([112, 97, 105, 114], 2)] : List (List Nat × Int)), KDct T.K w E_ENDS ⟨q.1.toArray⟩ (.int q.2)) (ka_ENDS : KAll T.K w E_ENDS ([([112, 108, 97, 105, 110], 1), ([111, 100, 100], 1), ([107, 101, 101, 112], 1), ([112, 97, 105, 114], 2)] : List (List Nat × Int))) (n_range : mg "range" = none)
    (M_0_here : MethOk T P w mg base 1 "here" 0 1 F_Words_here [])
    (M_0_take : MethOk T P w mg base 3 "take" 0 2 F_Words_take [])
    (M_0_take_name : MethOk T P w mg base 4 "take_name" 0 1 F_Words_take_name [])
    (M_0_take_names : MethOk T P w mg base 4 "take_names" 0 2 F_Words_take_names [])
    (M_0_take_terms : MethOk T P w mg base 6 "take_terms" 0 1 F_Words_take_terms []) : FnOk P w T.K mg base (L2.CX P w) 7 f fd ["self"] (spF T 1 F_Words_take_part) := by
  have q : FnOk P w T.K mg base (L2.CX P w) (6 + 1) f fd ["self"] (spF T 1 (mkFn 1 6 B_Words_take_part)) := by
    refine fn_def F sc_Words_take_part rfl fun cdv A outer s H E hr c => ?_
    unfold B_Words_take_part
    exact (fss_cons (fs_par 1 2 c (fa_cons (fe_methT (row_cons (fe_meth10 c (fe_var 0) M_0_take_name (hr.mono (by decide)) rfl) row_nil) (by simp)) (fa_cons (fe_methT (row_cons (fe_meth10 c (fe_var 0) M_0_here (hr.mono (by decide)) rfl) row_nil) (by simp)) fa_nil)))
    (fss_cons (fs_exp (fe_methT (row_cons (fe_meth1 c (fe_var 0) M_0_take (hr.mono (by decide)) (fa_cons (fe_or (fe_cmp (or_inD c.hu) io_inD (fe_var 2) (fe_tup (fa_cons (fe_str [115, 111, 117, 114, 99, 101]) (fa_cons (fe_str [109, 105, 120]) (fa_cons (fe_str [117, 115, 101]) fa_nil))))) (fe_one (fe_kinA c m_ENDS s_ENDS ka_ENDS (fe_var 2)))) fa_nil) (hl_m (al1 al0) rfl)) row_nil) (by simp)))
    (fss_cons (fs_if (ft_cmp (or_eqU c.hu) io_eq (fe_var 2) (fe_str [115, 111, 117, 114, 99, 101])) (fss_one (fs_ret (fe_tup (fa_cons (fe_str [115, 111, 117, 114, 99, 101]) (fa_cons (fe_var 1) fa_nil))))) fss_nil)
    (fss_cons (fs_if (ft_cmp (or_eqU c.hu) io_eq (fe_var 2) (fe_str [109, 105, 120])) (fss_one (fs_ret (fe_tup (fa_cons (fe_str [109, 105, 120]) (fa_cons (fe_var 1) (fa_cons (fe_methT (row_cons (fe_meth10 c (fe_var 0) M_0_take_terms (hr.mono (by decide)) rfl) row_nil) (by simp)) fa_nil)))))) fss_nil)
    (fss_cons (fs_set 3 c (fe_methT (row_cons (fe_meth10 c (fe_var 0) M_0_take_name (hr.mono (by decide)) rfl) row_nil) (by simp)))
    (fss_cons (fs_if (ft_cmp (or_eqU c.hu) io_eq (fe_var 2) (fe_str [117, 115, 101])) (fss_one (fs_ret (fe_tup (fa_cons (fe_str [117, 115, 101]) (fa_cons (fe_var 1) (fa_cons (fe_var 3) (fa_cons (fe_methT (row_cons (fe_meth1 c (fe_var 0) M_0_take_names (hr.mono (by decide)) (fa_cons fe_int fa_nil) (hl_m (al1 al0) rfl)) row_nil) (by simp)) fa_nil))))))) fss_nil)
    (fss_cons (fs_setLcX 4 [("_", 5)] c (fi_range1 n_range (fa_cons (fe_kix c m_ENDS kd_ENDS (fe_var 2)) fa_nil)) (fun q WB c3 => (fg_name 5 c3)) (fun q WB c3 => (fe_methT (row_cons (fe_meth10 c3 (fe_var 0) M_0_take_name (hr.mono (by decide)) rfl) row_nil) (by simp))))
    (fss_one (fs_ret (fe_tup (fa_cons (fe_var 2) (fa_cons (fe_var 1) (fa_cons (fe_var 3) (fa_star c (fe_var 4) fa_nil))))))))))))))
  exact q
theorem ok_Words_take_net {f : Addr} {fd : FuncData} (F : Fun T.K "take_net" "Words.take_net" s_Words_take_net f fd) (n_tuple : mg "tuple" = none)
    (M_0_here : MethOk T P w mg base 1 "here" 0 1 F_Words_here [])
    (M_0_take : MethOk T P w mg base 3 "take" 0 2 F_Words_take [])
    (M_0_take_name : MethOk T P w mg base 4 "take_name" 0 1 F_Words_take_name [])
    (M_0_take_names : MethOk T P w mg base 4 "take_names" 0 2 F_Words_take_names [])
    (M_0_take_part : MethOk T P w mg base 7 "take_part" 0 1 F_Words_take_part [])
    (R_InvalidText : RaiseOk T P w mg base "InvalidText" 1 1 [73, 110, 118, 97, 108, 105, 100, 84, 101, 120, 116])
    (fo_spot : ∀ p ∈ ([(0, 1)] : List (Nat × Nat)), FldOk T "spot" p.1 p.2) : FnOk P w T.K mg base (L2.CX P w) 8 f fd ["self"] (spF T 1 F_Words_take_net) := by
  have q : FnOk P w T.K mg base (L2.CX P w) (7 + 1) f fd ["self"] (spF T 1 (mkFn 1 3 B_Words_take_net)) := by
    refine fn_def F sc_Words_take_net rfl fun cdv A outer s H E hr c => ?_
    unfold B_Words_take_net
    exact (fss_cons (fs_set 1 c (fe_lstM fa_nil))
    (fss_cons (fs_while 1000000 c (ft_cmp (or_neU c.hu) io_ne (fe_methT (row_cons (fe_meth10 c (fe_var 0) M_0_here (hr.mono (by decide)) rfl) row_nil) (by simp)) (fe_str [62])) (fss_cons (fs_exp (fe_app c (fe_var 1) (fa_cons (fe_methT (row_cons (fe_meth10 c (fe_var 0) M_0_take_part (hr.mono (by decide)) rfl) row_nil) (by simp)) fa_nil)))
    (fss_one (fs_exp (fe_methT (row_cons (fe_meth1 c (fe_var 0) M_0_take (hr.mono (by decide)) (fa_cons (fe_cmp (or_eqU c.hu) io_eq (fe_methT (row_cons (fe_meth10 c (fe_var 0) M_0_here (hr.mono (by decide)) rfl) row_nil) (by simp)) (fe_str [59])) fa_nil) (hl_m (al1 al0) rfl)) row_nil) (by simp))))))
    (fss_cons (fs_exp (fe_methT (row_cons (fe_meth1 c (fe_var 0) M_0_take (hr.mono (by decide)) (fa_cons fe_bl fa_nil) (hl_m (al1 al0) rfl)) row_nil) (by simp)))
    (fss_cons (fs_set 2 c (fe_tup (fa_cons (fe_methT (row_cons (fe_meth10 c (fe_var 0) M_0_take_name (hr.mono (by decide)) rfl) row_nil) (by simp)) (fa_star c (fe_methT (row_cons (fe_meth1 c (fe_var 0) M_0_take_names (hr.mono (by decide)) (fa_cons fe_int fa_nil) (hl_m (al1 al0) rfl)) row_nil) (by simp)) fa_nil))))
    (fss_cons (fs_if (ft_cmp op_notN io_isn (fe_methT (row_cons (fe_meth10 c (fe_var 0) M_0_here (hr.mono (by decide)) rfl) row_nil) (by simp)) fe_non) (fss_one (fs_raise c R_InvalidText (hr.mono (by decide)) (fa_cons (fe_fld c (fe_var 0) fo_spot) fa_nil))) fss_nil)
    (fss_one (fs_ret (fe_tup (fa_cons (fe_bty call_tuple_of ib_tuple n_tuple (fa_cons (fe_var 1) fa_nil)) (fa_cons (fe_var 2) fa_nil))))))))))
  exact fn_pur q
theorem ok_read_net {f : Addr} {fd : FuncData} (F : Fun T.K "read_net" "read_net" s_read_net f fd) (n_isinstance : mg "isinstance" = none) (n_str : mg "str" = none)
    (L_Words : MakeOk T P w mg base 1 "Words" 0 2 F_Words___init [])
    (M_0_take_net : MethOk T P w mg base 8 "take_net" 0 1 F_Words_take_net [])
    (R_InvalidText : RaiseOk T P w mg base "InvalidText" 1 1 [73, 110, 118, 97, 108, 105, 100, 84, 101, 120, 116]) : FnOk P w T.K mg base (L2.CX P w) 9 f fd ["text"] (spF T 1 F_read_net) := by
  have q : FnOk P w T.K mg base (L2.CX P w) (8 + 1) f fd ["text"] (spF T 1 (mkFn 1 1 B_read_net)) := by
    refine fn_def F sc_read_net rfl fun cdv A outer s H E hr c => ?_
    unfold B_read_net
    exact (fss_cons (fs_if (ft_not (ft_val (fe_blt cr_isiU ib_isi n_isinstance (fa_cons (fe_var 0) (fa_cons (fe_ty .str n_str) fa_nil))))) (fss_one (fs_raise c R_InvalidText (hr.mono (by decide)) (fa_cons fe_int fa_nil))) fss_nil)
    (fss_one (fs_ret (fe_methT (row_cons (fe_meth10 c (fe_makeL c L_Words (hr.mono (by decide)) (fa_cons (fe_var 0) fa_nil) (hl_l (al1 al0) rfl)) M_0_take_net (hr.mono (by decide)) rfl) row_nil) (by simp)))))
  exact fn_pur q
theorem ok_Net_read {f : Addr} {fd : FuncData} (F : FunD T.K "read" "Net.read" (defArgs s_Net_read) (defBody s_Net_read) (defScope s_Net_read) [] [("pieces", .non)] f fd) {f_read_net : Addr} {fd_read_net : FuncData} (O_read_net : FnOk P w T.K mg base (L2.CX P w) 9 f_read_net fd_read_net ["text"] (spF T 1 F_read_net)) (m_read_net : mg "read_net" = some (.ref f_read_net)) (k_read_net : PySem.W.keepIn T.K (.ref f_read_net) = true) (b_read_net : Binds T.K fd_read_net ["text"] []) : FnOk P w T.K mg base (L2.CX P w) 10 f fd ["text", "pieces"] (spF T 2 F_Net_read) := by
  have q : FnOk P w T.K mg base (L2.CX P w) (9 + 1) f fd ["text", "pieces"] (spF T 2 (mkFn 2 4 B_Net_read)) := by
    refine fn_defD F sc_Net_read rfl fun cdv A outer s H E hr c => ?_
    unfold B_Net_read
    exact (fss_cons (fs_asg (fe_call c O_read_net (hr.mono (by decide)) m_read_net k_read_net b_read_net dfl0 rfl (fa_cons (fe_var 0) fa_nil) (al1 al0)) (fg_tup c (fgs_cons (fg_name 2 c) (fgs_cons (fg_name 3 c) fgs_nil))) (sto_t (stos_1 sto_n (stos_1 sto_n stos_0))))
    (fss_one (fs_ret fe_stuck)))
  exact q
theorem ok_law_bag {f : Addr} {fd : FuncData} (F : Fun T.K "_law_bag" "_law_bag" s_law_bag f fd) (n_len : mg "len" = none) (n_list : mg "list" = none) : FnOk P w T.K mg base (L2.CX P w) 1 f fd ["_law_script"] (spF T 1 F_law_bag) := by
  have q : FnOk P w T.K mg base (L2.CX P w) (0 + 1) f fd ["_law_script"] (spF T 1 (mkFn 1 1 B_law_bag)) := by
    refine fn_def F sc_law_bag rfl fun cdv A outer s H E hr c => ?_
    unfold B_law_bag
    exact (fss_one (fs_ret (fe_lstM (fa_cons (fe_bty call_list_of ib_list n_list (fa_cons (fe_sl c (fe_var 0) fp_no (fp_some fe_int)) fa_nil)) (fa_cons fe_int (fa_cons fe_int (fa_cons (fe_op or_addU io_add fe_int (fe_blt call_len ib_len n_len (fa_cons (fe_var 0) fa_nil))) (fa_cons fe_int fa_nil))))))))
  exact q
theorem ok_law_pull {f : Addr} {fd : FuncData} (F : Fun T.K "_law_pull" "_law_pull" s_law_pull f fd) (n_int : mg "int" = none) (n_len : mg "len" = none) : FnOk P w T.K mg base (L2.CX P w) 1 f fd ["_law_bag_here", "_law_many"] (spF T 2 F_law_pull) := by
  have q : FnOk P w T.K mg base (L2.CX P w) (0 + 1) f fd ["_law_bag_here", "_law_many"] (spF T 2 (mkFn 2 5 B_law_pull)) := by
    refine fn_def F sc_law_pull rfl fun cdv A outer s H E hr c => ?_
    unfold B_law_pull
    exact (fss_cons (fs_if (ft_w (fw_and (ft_cmp (or_eqU c.hu) io_eq (fe_ix c (fe_var 0) fe_int) fe_int) (fw_and1 (ft_cmp or_lt io_cmp (fe_ix c (fe_var 0) fe_int) (fe_blt call_len ib_len n_len (fa_cons (fe_ix c (fe_var 0) fe_int) fa_nil)))))) (fss_cons (fs_set 2 c (fe_ix c (fe_ix c (fe_var 0) fe_int) (fe_ix c (fe_var 0) fe_int)))
    (fss_cons (fs_asg (fe_op or_addU io_add (fe_ix c (fe_var 0) fe_int) fe_int) (fg_set c (fe_var 0) fe_int) sto_set)
    (fss_one (fs_if (ft_cmp or_ge io_cmp (fe_var 2) (fe_op op_pow io_pow fe_int fe_int)) (fss_one (fs_asg (fe_var 2) (fg_set c (fe_var 0) fe_int) sto_set)) (fss_one (fs_asg (fe_op op_mod io_mod (fe_bty call_int1 ib_int n_int (fa_cons (fe_op or_addU io_add (fe_op or_addU io_add (fe_op or_mulU io_mul (fe_ix c (fe_var 0) fe_int) fe_int) (fe_op or_mulU io_mul (fe_op op_mod io_mod (fe_bty call_int1 ib_int n_int (fa_cons (fe_var 2) fa_nil)) fe_int) fe_int)) fe_int) fa_nil)) fe_int) (fg_set c (fe_var 0) fe_int) sto_set)))))) fss_nil)
    (fss_cons (fs_if (ft_cmp or_gt io_cmp (fe_ix c (fe_var 0) fe_int) fe_int) (fss_cons (fs_set 3 c (fe_op op_mod io_mod (fe_bty call_int1 ib_int n_int (fa_cons (fe_ix c (fe_var 0) fe_int) fa_nil)) (fe_var 1)))
    (fss_cons (fs_asg (fe_op op_fdivW io_div (fe_ix c (fe_var 0) fe_int) (fe_var 1)) (fg_set c (fe_var 0) fe_int) sto_set)
    (fss_one (fs_ret (fe_var 3))))) fss_nil)
    (fss_cons (fs_asg (fe_op or_addU io_add (fe_ix c (fe_var 0) fe_int) fe_int) (fg_set c (fe_var 0) fe_int) sto_set)
    (fss_cons (fs_set 4 c (fe_ix c (fe_var 0) fe_int))
    (fss_cons (fs_asg (fe_op op_mod io_mod (fe_bty call_int1 ib_int n_int (fa_cons (fe_op or_addU io_add (fe_op or_addU io_add (fe_op or_addU io_add (fe_op or_mulU io_mul (fe_op or_mulU io_mul (fe_var 4) (fe_var 4)) fe_int) (fe_op or_mulU io_mul (fe_var 4) fe_int)) (fe_op or_mulU io_mul (fe_ix c (fe_var 0) fe_int) fe_int)) fe_int) fa_nil)) fe_int) (fg_set c (fe_var 0) fe_int) sto_set)
    (fss_one (fs_ret (fe_op op_mod io_mod (fe_bty call_int1 ib_int n_int (fa_cons (fe_op or_addU io_add (fe_op op_fdivW io_div (fe_ix c (fe_var 0) fe_int) fe_int) (fe_op or_mulU io_mul (fe_op op_mod io_mod (fe_bty call_int1 ib_int n_int (fa_cons (fe_ix c (fe_var 0) fe_int) fa_nil)) fe_int) fe_int)) fa_nil)) (fe_var 1)))))))))
  exact q
theorem ok_law_any {f : Addr} {fd : FuncData} (F : Fun T.K "_law_any" "_law_any" s_law_any f fd) (n_len : mg "len" = none) {f_law_pull : Addr} {fd_law_pull : FuncData} (O_law_pull : FnOk P w T.K mg base (L2.CX P w) 1 f_law_pull fd_law_pull ["_law_bag_here", "_law_many"] (spF T 2 F_law_pull)) (m_law_pull : mg "_law_pull" = some (.ref f_law_pull)) (k_law_pull : PySem.W.keepIn T.K (.ref f_law_pull) = true) (b_law_pull : Binds T.K fd_law_pull ["_law_bag_here", "_law_many"] []) : FnOk P w T.K mg base (L2.CX P w) 2 f fd ["_law_bag_here", "_law_things"] (spF T 2 F_law_any) := by
  have q : FnOk P w T.K mg base (L2.CX P w) (1 + 1) f fd ["_law_bag_here", "_law_things"] (spF T 2 (mkFn 2 2 B_law_any)) := by
    refine fn_def F sc_law_any rfl fun cdv A outer s H E hr c => ?_
    unfold B_law_any
    exact (fss_one (fs_ret (fe_ix c (fe_var 1) (fe_call c O_law_pull (hr.mono (by decide)) m_law_pull k_law_pull b_law_pull dfl0 rfl (fa_cons (fe_var 0) (fa_cons (fe_blt call_len ib_len n_len (fa_cons (fe_var 1) fa_nil)) fa_nil)) (al1 (al1 al0))))))
  exact q
theorem ok_law_bent {f : Addr} {fd : FuncData} (F : Fun T.K "_law_bent" "_law_bent" s_law_bent f fd) (n_int : mg "int" = none) (n_len : mg "len" = none) {f_law_any : Addr} {fd_law_any : FuncData} (O_law_any : FnOk P w T.K mg base (L2.CX P w) 2 f_law_any fd_law_any ["_law_bag_here", "_law_things"] (spF T 2 F_law_any)) (m_law_any : mg "_law_any" = some (.ref f_law_any)) (k_law_any : PySem.W.keepIn T.K (.ref f_law_any) = true) (b_law_any : Binds T.K fd_law_any ["_law_bag_here", "_law_things"] []) {f_law_pull : Addr} {fd_law_pull : FuncData} (O_law_pull : FnOk P w T.K mg base (L2.CX P w) 1 f_law_pull fd_law_pull ["_law_bag_here", "_law_many"] (spF T 2 F_law_pull)) (m_law_pull : mg "_law_pull" = some (.ref f_law_pull)) (k_law_pull : PySem.W.keepIn T.K (.ref f_law_pull) = true) (b_law_pull : Binds T.K fd_law_pull ["_law_bag_here", "_law_many"] []) : FnOk P w T.K mg base (L2.CX P w) 3 f fd ["_law_bag_here", "_law_words_here", "_law_more"] (spF T 3 F_law_bent) := by
  have q : FnOk P w T.K mg base (L2.CX P w) (2 + 1) f fd ["_law_bag_here", "_law_words_here", "_law_more"] (spF T 3 (mkFn 3 6 B_law_bent)) := by
    refine fn_def F sc_law_bent rfl fun cdv A outer s H E hr c => ?_
    unfold B_law_bent
    exact (fss_cons (fs_par 3 4 c (fa_cons (fe_call c O_law_pull (hr.mono (by decide)) m_law_pull k_law_pull b_law_pull dfl0 rfl (fa_cons (fe_var 0) (fa_cons (fe_op or_addU io_add (fe_blt call_len ib_len n_len (fa_cons (fe_var 1) fa_nil)) fe_int) fa_nil)) (al1 (al1 al0))) (fa_cons (fe_call c O_law_pull (hr.mono (by decide)) m_law_pull k_law_pull b_law_pull dfl0 rfl (fa_cons (fe_var 0) (fa_cons fe_int fa_nil)) (al1 (al1 al0))) fa_nil)))
    (fss_cons (fs_set 5 c (fe_call c O_law_any (hr.mono (by decide)) m_law_any k_law_any b_law_any dfl0 rfl (fa_cons (fe_var 0) (fa_cons (fe_op or_addU io_add (fe_lst (fa_cons (fe_str [59]) (fa_cons (fe_str [44]) (fa_cons (fe_str [62]) (fa_cons (fe_str [108, 97, 116, 101]) (fa_cons (fe_str [109, 105, 120]) (fa_cons (fe_str [117, 115, 101]) (fa_cons (fe_str [115, 111, 117, 114, 99, 101]) (fa_cons (fe_str [112, 97, 105, 114]) (fa_cons (fe_str []) (fa_cons (fe_str [48]) (fa_cons (fe_str [45, 48]) (fa_cons (fe_str [53]) (fa_cons (fe_str [45, 55]) (fa_cons (fe_str [57, 57]) (fa_cons (fe_str [49, 48, 48]) (fa_cons (fe_str [45, 49, 48, 48]) (fa_cons (fe_str [48, 55]) (fa_cons (fe_str [43, 49]) (fa_cons (fe_str [49, 45]) (fa_cons (fe_str [97, 49]) (fa_cons (fe_str [65]) (fa_cons (fe_str [97, 98, 99, 100, 101]) (fa_cons (fe_str [97, 47, 98]) fa_nil)))))))))))))))))))))))) (fe_var 2)) fa_nil)) (al1 (al1 al0))))
    (fss_cons (fs_if (ft_cmp (or_eqU c.hu) io_eq (fe_var 4) fe_int) (fss_one (fs_ret (fe_op or_addU io_add (fe_sl c (fe_var 1) fp_no (fp_some (fe_var 3))) (fe_sl c (fe_var 1) (fp_some (fe_op or_addU io_add (fe_var 3) fe_int)) fp_no)))) fss_nil)
    (fss_cons (fs_if (ft_cmp (or_eqU c.hu) io_eq (fe_var 4) fe_int) (fss_one (fs_ret (fe_sl c (fe_var 1) fp_no (fp_some (fe_var 3))))) fss_nil)
    (fss_one (fs_ret (fe_op or_addU io_add (fe_op or_addU io_add (fe_sl c (fe_var 1) fp_no (fp_some (fe_var 3))) (fe_if (ft_cmp or_lt io_cmp (fe_var 4) fe_int) (fe_lst (fa_cons (fe_var 5) fa_nil)) (fe_op or_mulU io_mul (fe_sl c (fe_var 1) (fp_some (fe_var 3)) (fp_some (fe_op or_addU io_add (fe_var 3) fe_int))) fe_int))) (fe_sl c (fe_var 1) (fp_some (fe_op or_addU io_add (fe_var 3) (fe_bty (call_int1.or call_int_str) ib_intD n_int (fa_cons (fe_cmp or_gt io_cmp (fe_var 4) fe_int) fa_nil)))) fp_no))))))))
  exact q
theorem ok_law_boxes {f : Addr} {fd : FuncData} (F : Fun T.K "_law_boxes" "_law_boxes" s_law_boxes f fd) {f_law_any : Addr} {fd_law_any : FuncData} (O_law_any : FnOk P w T.K mg base (L2.CX P w) 2 f_law_any fd_law_any ["_law_bag_here", "_law_things"] (spF T 2 F_law_any)) (m_law_any : mg "_law_any" = some (.ref f_law_any)) (k_law_any : PySem.W.keepIn T.K (.ref f_law_any) = true) (b_law_any : Binds T.K fd_law_any ["_law_bag_here", "_law_things"] []) : FnOk P w T.K mg base (L2.CX P w) 3 f fd ["_law_bag_here", "_law_words_here"] (spF T 2 F_law_boxes) := by
  have q : FnOk P w T.K mg base (L2.CX P w) (2 + 1) f fd ["_law_bag_here", "_law_words_here"] (spF T 2 (mkFn 2 3 B_law_boxes)) := by
    refine fn_def F sc_law_boxes rfl fun cdv A outer s H E hr c => ?_
    unfold B_law_boxes
    exact (fss_one (fs_ret (fe_comp [("_law_word", 2)] c (fi_seq c (fe_var 1)) (fun q c4 => (fg_name 2 c4)) (fun q c4 => fts_nil) (fun q c4 => (fe_tup (fa_cons (fe_call c4 O_law_any (hr.mono (by decide)) m_law_any k_law_any b_law_any dfl0 rfl (fa_cons (fe_var 0) (fa_cons (fe_lst (fa_cons (fe_str [112, 108, 97, 105, 110]) (fa_cons (fe_str [111, 100, 100]) (fa_cons (fe_str [107, 101, 101, 112]) (fa_cons (fe_str [112, 97, 105, 114]) fa_nil))))) fa_nil)) (al1 (al1 al0))) (fa_cons (fe_var 2) fa_nil)))))))
  exact q
theorem ok_law_mixed {f : Addr} {fd : FuncData} (F : Fun T.K "_law_mixed" "_law_mixed" s_law_mixed f fd) (n_len : mg "len" = none) {f_law_pull : Addr} {fd_law_pull : FuncData} (O_law_pull : FnOk P w T.K mg base (L2.CX P w) 1 f_law_pull fd_law_pull ["_law_bag_here", "_law_many"] (spF T 2 F_law_pull)) (m_law_pull : mg "_law_pull" = some (.ref f_law_pull)) (k_law_pull : PySem.W.keepIn T.K (.ref f_law_pull) = true) (b_law_pull : Binds T.K fd_law_pull ["_law_bag_here", "_law_many"] []) : FnOk P w T.K mg base (L2.CX P w) 2 f fd ["_law_bag_here", "_law_things"] (spF T 2 F_law_mixed) := by
  have q : FnOk P w T.K mg base (L2.CX P w) (1 + 1) f fd ["_law_bag_here", "_law_things"] (spF T 2 (mkFn 2 4 B_law_mixed)) := by
    refine fn_def F sc_law_mixed rfl fun cdv A outer s H E hr c => ?_
    unfold B_law_mixed
    exact (fss_cons (fs_set 2 c (fe_lstM fa_nil))
    (fss_cons (fs_for c (fi_seq c (fe_var 1)) (fg_name 3 c) (fss_one (fs_exp (fe_ins c (fe_var 2) (fa_cons (fe_call c O_law_pull (hr.mono (by decide)) m_law_pull k_law_pull b_law_pull dfl0 rfl (fa_cons (fe_var 0) (fa_cons (fe_op or_addU io_add (fe_blt call_len ib_len n_len (fa_cons (fe_var 2) fa_nil)) fe_int) fa_nil)) (al1 (al1 al0))) (fa_cons (fe_var 3) fa_nil))))))
    (fss_one (fs_ret (fe_var 2)))))
  exact fn_pur q
theorem ok_law_names {f : Addr} {fd : FuncData} (F : Fun T.K "_law_names" "_law_names" s_law_names f fd) (n_int : mg "int" = none) (n_len : mg "len" = none) (n_range : mg "range" = none) {f_law_any : Addr} {fd_law_any : FuncData} (O_law_any : FnOk P w T.K mg base (L2.CX P w) 2 f_law_any fd_law_any ["_law_bag_here", "_law_things"] (spF T 2 F_law_any)) (m_law_any : mg "_law_any" = some (.ref f_law_any)) (k_law_any : PySem.W.keepIn T.K (.ref f_law_any) = true) (b_law_any : Binds T.K fd_law_any ["_law_bag_here", "_law_things"] []) {f_law_pull : Addr} {fd_law_pull : FuncData} (O_law_pull : FnOk P w T.K mg base (L2.CX P w) 1 f_law_pull fd_law_pull ["_law_bag_here", "_law_many"] (spF T 2 F_law_pull)) (m_law_pull : mg "_law_pull" = some (.ref f_law_pull)) (k_law_pull : PySem.W.keepIn T.K (.ref f_law_pull) = true) (b_law_pull : Binds T.K fd_law_pull ["_law_bag_here", "_law_many"] []) : FnOk P w T.K mg base (L2.CX P w) 3 f fd ["_law_bag_here", "_law_many"] (spF T 2 F_law_names) := by
  have q : FnOk P w T.K mg base (L2.CX P w) (2 + 1) f fd ["_law_bag_here", "_law_many"] (spF T 2 (mkFn 2 7 B_law_names)) := by
    refine fn_def F sc_law_names rfl fun cdv A outer s H E hr c => ?_
    unfold B_law_names
    exact (fss_cons (fs_set 2 c (fe_str [97, 98, 99, 100, 101, 102, 103, 104, 105, 106, 107, 108, 109, 110, 111, 112, 113, 114, 115, 116, 117, 118, 119, 120, 121, 122]))
    (fss_cons (fs_set 3 c (fe_join c (fe_str []) (fe_comp [("_law_k", 6)] c (fi_range1 n_range (fa_cons (fe_call c O_law_pull (hr.mono (by decide)) m_law_pull k_law_pull b_law_pull dfl0 rfl (fa_cons (fe_var 0) (fa_cons fe_int fa_nil)) (al1 (al1 al0))) fa_nil)) (fun q c5 => (fg_name 6 c5)) (fun q c5 => fts_nil) (fun q c5 => (fe_call c5 O_law_any (hr.mono (by decide)) m_law_any k_law_any b_law_any dfl0 rfl (fa_cons (fe_var 0) (fa_cons (fe_var 2) fa_nil)) (al1 (al1 al0)))))))
    (fss_cons (fs_asg (fe_tup (fa_cons (fe_call c O_law_pull (hr.mono (by decide)) m_law_pull k_law_pull b_law_pull dfl0 rfl (fa_cons (fe_var 0) (fa_cons (fe_op or_addU io_add (fe_blt call_len ib_len n_len (fa_cons (fe_var 3) fa_nil)) fe_int) fa_nil)) (al1 (al1 al0))) (fa_cons (fe_call c O_law_pull (hr.mono (by decide)) m_law_pull k_law_pull b_law_pull dfl0 rfl (fa_cons (fe_var 0) (fa_cons fe_int fa_nil)) (al1 (al1 al0))) fa_nil))) (fg_tup c (fgs_cons (fg_name 4 c) (fgs_cons (fg_name 5 c) fgs_nil))) (sto_t (stos_1 sto_n (stos_1 sto_n stos_0))))
    (fss_one (fs_ret (fe_comp [("_law_k", 6)] c (fi_range1 n_range (fa_cons (fe_var 1) fa_nil)) (fun q c6 => (fg_name 6 c6)) (fun q c6 => fts_nil) (fun q c6 => (fe_op or_addU io_add (fe_op or_addU io_add (fe_sl c6 (fe_var 3) fp_no (fp_some (fe_var 4))) (fe_ix c6 (fe_var 2) (fe_op op_mod io_mod (fe_bty call_int1 ib_int n_int (fa_cons (fe_op or_addU io_add (fe_var 5) (fe_op or_mulU io_mul fe_int (fe_var 6))) fa_nil)) fe_int))) (fe_sl c6 (fe_var 3) (fp_some (fe_var 4)) fp_no)))))))))
  exact q
theorem ok_law_term {f : Addr} {fd : FuncData} (F : Fun T.K "_law_term" "_law_term" s_law_term f fd) (n_max : mg "max" = none) {f_law_any : Addr} {fd_law_any : FuncData} (O_law_any : FnOk P w T.K mg base (L2.CX P w) 2 f_law_any fd_law_any ["_law_bag_here", "_law_things"] (spF T 2 F_law_any)) (m_law_any : mg "_law_any" = some (.ref f_law_any)) (k_law_any : PySem.W.keepIn T.K (.ref f_law_any) = true) (b_law_any : Binds T.K fd_law_any ["_law_bag_here", "_law_things"] []) {f_law_pull : Addr} {fd_law_pull : FuncData} (O_law_pull : FnOk P w T.K mg base (L2.CX P w) 1 f_law_pull fd_law_pull ["_law_bag_here", "_law_many"] (spF T 2 F_law_pull)) (m_law_pull : mg "_law_pull" = some (.ref f_law_pull)) (k_law_pull : PySem.W.keepIn T.K (.ref f_law_pull) = true) (b_law_pull : Binds T.K fd_law_pull ["_law_bag_here", "_law_many"] []) : FnOk P w T.K mg base (L2.CX P w) 3 f fd ["_law_bag_here", "_law_earlier", "_law_every"] (spF T 3 F_law_term) := by
  have q : FnOk P w T.K mg base (L2.CX P w) (2 + 1) f fd ["_law_bag_here", "_law_earlier", "_law_every"] (spF T 3 (mkFn 3 5 B_law_term)) := by
    refine fn_def F sc_law_term rfl fun cdv A outer s H E hr c => ?_
    unfold B_law_term
    exact (fss_cons (fs_set 3 c (fe_if (ft_cmp or_gt io_cmp (fe_call c O_law_pull (hr.mono (by decide)) m_law_pull k_law_pull b_law_pull dfl0 rfl (fa_cons (fe_var 0) (fa_cons fe_int fa_nil)) (al1 (al1 al0))) fe_int) (fe_op op_sub io_sub (fe_call c O_law_pull (hr.mono (by decide)) m_law_pull k_law_pull b_law_pull dfl0 rfl (fa_cons (fe_var 0) (fa_cons fe_int fa_nil)) (al1 (al1 al0))) fe_int) (fe_call c O_law_any (hr.mono (by decide)) m_law_any k_law_any b_law_any dfl0 rfl (fa_cons (fe_var 0) (fa_cons (fe_lst (fa_cons (fe_neg fe_int) (fa_cons fe_int (fa_cons (fe_neg fe_int) (fa_cons fe_int fa_nil))))) fa_nil)) (al1 (al1 al0)))))
    (fss_cons (fs_set 4 c (fe_call c O_law_any (hr.mono (by decide)) m_law_any k_law_any b_law_any dfl0 rfl (fa_cons (fe_var 0) (fa_cons (fe_lst (fa_cons fe_int (fa_cons fe_int (fa_cons fe_int (fa_cons fe_int (fa_cons fe_int (fa_cons fe_int (fa_cons fe_int (fa_cons fe_int fa_nil))))))))) fa_nil)) (al1 (al1 al0))))
    (fss_cons (fs_if (ft_w (fw_and (ft_cmp (or_eqU c.hu) io_eq (fe_var 4) fe_int) (fw_and1 (ft_cmp (or_neU c.hu) io_ne (fe_var 1) (fe_lst fa_nil))))) (fss_one (fs_ret (fe_tup (fa_cons (fe_var 3) (fa_cons fe_int (fa_cons (fe_call c O_law_any (hr.mono (by decide)) m_law_any k_law_any b_law_any dfl0 rfl (fa_cons (fe_var 0) (fa_cons (fe_var 1) fa_nil)) (al1 (al1 al0))) fa_nil)))))) fss_nil)
    (fss_one (fs_ret (fe_tup (fa_cons (fe_var 3) (fa_cons (fe_blt (cr_max c.calm) ib_max n_max (fa_cons (fe_lst (fa_cons (fe_var 4) (fa_cons fe_int fa_nil))) fa_nil)) (fa_cons (fe_call c O_law_any (hr.mono (by decide)) m_law_any k_law_any b_law_any dfl0 rfl (fa_cons (fe_var 0) (fa_cons (fe_var 2) fa_nil)) (al1 (al1 al0))) fa_nil)))))))))
  exact q
theorem ok_law_part {f : Addr} {fd : FuncData} (F : Fun T.K "_law_part" "_law_part" s_law_part f fd) (n_range : mg "range" = none) (n_tuple : mg "tuple" = none) {f_law_any : Addr} {fd_law_any : FuncData} (O_law_any : FnOk P w T.K mg base (L2.CX P w) 2 f_law_any fd_law_any ["_law_bag_here", "_law_things"] (spF T 2 F_law_any)) (m_law_any : mg "_law_any" = some (.ref f_law_any)) (k_law_any : PySem.W.keepIn T.K (.ref f_law_any) = true) (b_law_any : Binds T.K fd_law_any ["_law_bag_here", "_law_things"] []) {f_law_pull : Addr} {fd_law_pull : FuncData} (O_law_pull : FnOk P w T.K mg base (L2.CX P w) 1 f_law_pull fd_law_pull ["_law_bag_here", "_law_many"] (spF T 2 F_law_pull)) (m_law_pull : mg "_law_pull" = some (.ref f_law_pull)) (k_law_pull : PySem.W.keepIn T.K (.ref f_law_pull) = true) (b_law_pull : Binds T.K fd_law_pull ["_law_bag_here", "_law_many"] []) {f_law_term : Addr} {fd_law_term : FuncData} (O_law_term : FnOk P w T.K mg base (L2.CX P w) 3 f_law_term fd_law_term ["_law_bag_here", "_law_earlier", "_law_every"] (spF T 3 F_law_term)) (m_law_term : mg "_law_term" = some (.ref f_law_term)) (k_law_term : PySem.W.keepIn T.K (.ref f_law_term) = true) (b_law_term : Binds T.K fd_law_term ["_law_bag_here", "_law_earlier", "_law_every"] []) : FnOk P w T.K mg base (L2.CX P w) 4 f fd ["_law_bag_here", "_law_wire", "_law_earlier", "_law_every", "_law_boxes_here"] (spF T 5 F_law_part) := by
  have q : FnOk P w T.K mg base (L2.CX P w) (3 + 1) f fd ["_law_bag_here", "_law_wire", "_law_earlier", "_law_every", "_law_boxes_here"] (spF T 5 (mkFn 5 9 B_law_part)) := by
    refine fn_def F sc_law_part rfl fun cdv A outer s H E hr c => ?_
    unfold B_law_part
    exact (fss_cons (fs_if (ft_w (fw_and (ft_cmp (or_neU c.hu) io_ne (fe_var 4) (fe_lst fa_nil)) (fw_and (ft_cmp (or_neU c.hu) io_ne (fe_var 2) (fe_lst fa_nil)) (fw_and1 (ft_cmp (or_eqU c.hu) io_eq (fe_call c O_law_pull (hr.mono (by decide)) m_law_pull k_law_pull b_law_pull dfl0 rfl (fa_cons (fe_var 0) (fa_cons fe_int fa_nil)) (al1 (al1 al0))) fe_int))))) (fss_cons (fs_asg (fe_call c O_law_any (hr.mono (by decide)) m_law_any k_law_any b_law_any dfl0 rfl (fa_cons (fe_var 0) (fa_cons (fe_var 4) fa_nil)) (al1 (al1 al0))) (fg_tup c (fgs_cons (fg_name 5 c) (fgs_cons (fg_name 6 c) fgs_nil))) (sto_t (stos_1 sto_n (stos_1 sto_n stos_0))))
    (fss_cons (fs_setLc 7 [("_law_k", 8)] c (fi_range1 n_range (fa_cons (fe_if (ft_cmp (or_eqU c.hu) io_eq (fe_var 5) (fe_str [112, 97, 105, 114])) fe_int fe_int) fa_nil)) (fun q c7 => (fg_name 8 c7)) (fun q c7 => fts_nil) (fun q c7 => (fe_call c7 O_law_any (hr.mono (by decide)) m_law_any k_law_any b_law_any dfl0 rfl (fa_cons (fe_var 0) (fa_cons (fe_var 2) fa_nil)) (al1 (al1 al0)))))
    (fss_one (fs_ret (fe_bty call_tuple_of ib_tuple n_tuple (fa_cons (fe_op or_addU io_add (fe_lst (fa_cons (fe_var 5) (fa_cons (fe_var 1) (fa_cons (fe_var 6) fa_nil)))) (fe_var 7)) fa_nil)))))) fss_nil)
    (fss_one (fs_ret (fe_tup (fa_cons (fe_str [109, 105, 120]) (fa_cons (fe_var 1) (fa_cons (fe_bty call_tuple_of ib_tuple n_tuple (fa_cons (fe_comp [("_law_k", 8)] c (fi_range1 n_range (fa_cons (fe_call c O_law_pull (hr.mono (by decide)) m_law_pull k_law_pull b_law_pull dfl0 rfl (fa_cons (fe_var 0) (fa_cons fe_int fa_nil)) (al1 (al1 al0))) fa_nil)) (fun q c8 => (fg_name 8 c8)) (fun q c8 => fts_nil) (fun q c8 => (fe_call c8 O_law_term (hr.mono (by decide)) m_law_term k_law_term b_law_term dfl0 rfl (fa_cons (fe_var 0) (fa_cons (fe_var 2) (fa_cons (fe_var 3) fa_nil))) (al1 (al1 (al1 al0)))))) fa_nil)) fa_nil)))))))
  exact q
theorem ok_law_parts {f : Addr} {fd : FuncData} (F : Fun T.K "_law_parts" "_law_parts" s_law_parts f fd) (n_len : mg "len" = none) (n_range : mg "range" = none) {f_law_part : Addr} {fd_law_part : FuncData} (O_law_part : FnOk P w T.K mg base (L2.CX P w) 4 f_law_part fd_law_part ["_law_bag_here", "_law_wire", "_law_earlier", "_law_every", "_law_boxes_here"] (spF T 5 F_law_part)) (m_law_part : mg "_law_part" = some (.ref f_law_part)) (k_law_part : PySem.W.keepIn T.K (.ref f_law_part) = true) (b_law_part : Binds T.K fd_law_part ["_law_bag_here", "_law_wire", "_law_earlier", "_law_every", "_law_boxes_here"] []) : FnOk P w T.K mg base (L2.CX P w) 5 f fd ["_law_bag_here", "_law_wires", "_law_sources", "_law_boxes_here"] (spF T 4 F_law_parts) := by
  have q : FnOk P w T.K mg base (L2.CX P w) (4 + 1) f fd ["_law_bag_here", "_law_wires", "_law_sources", "_law_boxes_here"] (spF T 4 (mkFn 4 7 B_law_parts)) := by
    refine fn_def F sc_law_parts rfl fun cdv A outer s H E hr c => ?_
    unfold B_law_parts
    exact (fss_cons (fs_setLcM 4 [("_law_wire", 6)] c (fi_seq c (fe_sl c (fe_var 1) fp_no (fp_some (fe_var 2)))) (fun q c9 => (fg_name 6 c9)) (fun q c9 => fts_nil) (fun q c9 => (fe_tup (fa_cons (fe_str [115, 111, 117, 114, 99, 101]) (fa_cons (fe_var 6) fa_nil)))))
    (fss_cons (fs_for c (fi_range2 n_range (fa_cons (fe_var 2) (fa_cons (fe_blt call_len ib_len n_len (fa_cons (fe_var 1) fa_nil)) fa_nil))) (fg_name 5 c) (fss_one (fs_exp (fe_app c (fe_var 4) (fa_cons (fe_call c O_law_part (hr.mono (by decide)) m_law_part k_law_part b_law_part dfl0 rfl (fa_cons (fe_var 0) (fa_cons (fe_ix c (fe_var 1) (fe_var 5)) (fa_cons (fe_sl c (fe_var 1) fp_no (fp_some (fe_var 5))) (fa_cons (fe_var 1) (fa_cons (fe_var 3) fa_nil))))) (al1 (al1 (al1 (al1 (al1 al0)))))) fa_nil)))))
    (fss_one (fs_ret (fe_var 4)))))
  exact fn_pur q
theorem ok_law_same {f : Addr} {fd : FuncData} (F : Fun T.K "_law_same" "_law_same" s_law_same f fd) (n_all : mg "all" = none) (n_bool : mg "bool" = none) (n_int : mg "int" = none) (n_isinstance : mg "isinstance" = none) (n_len : mg "len" = none) (n_list : mg "list" = none) (n_str : mg "str" = none) (n_tuple : mg "tuple" = none) (n_zip : mg "zip" = none) (m_law_same : mg "_law_same" = some (.ref f)) (k_law_same : PySem.W.keepIn T.K (.ref f) = true) (b_law_same : Binds T.K fd ["_law_found", "_law_due"] []) : ∀ n, FnOk P w T.K mg base (L2.CX P w) (1 + n) f fd ["_law_found", "_law_due"] (spF T 2 (F_law_same n))
  | 0 => fn_stuck rfl
  | n + 1 => by
    have ih := ok_law_same F n_all n_bool n_int n_isinstance n_len n_list n_str n_tuple n_zip m_law_same k_law_same b_law_same n
    have q : FnOk P w T.K mg base (L2.CX P w) ((1 + n) + 1) f fd ["_law_found", "_law_due"] (spF T 2 (mkFn 2 4 (B_law_same (F_law_same n)))) := by
      refine fn_def F sc_law_same rfl fun cdv A outer s H E hr c => ?_
      unfold B_law_same
      exact (fss_cons (fs_if (ft_val (fe_blt cr_isiU ib_isi n_isinstance (fa_cons (fe_var 1) (fa_cons (fe_tup (fa_cons (fe_ty .list n_list) (fa_cons (fe_ty .tuple n_tuple) fa_nil))) fa_nil)))) (fss_cons (fs_if (ft_w (fw_or (ft_cmp (or_neU c.hu) io_ne (fe_blt cr_isiU ib_isi n_isinstance (fa_cons (fe_var 0) (fa_cons (fe_ty .list n_list) fa_nil))) (fe_blt cr_isiU ib_isi n_isinstance (fa_cons (fe_var 1) (fa_cons (fe_ty .list n_list) fa_nil)))) (fw_or1 (ft_cmp (or_neU c.hu) io_ne (fe_blt cr_isiU ib_isi n_isinstance (fa_cons (fe_var 0) (fa_cons (fe_ty .tuple n_tuple) fa_nil))) (fe_blt cr_isiU ib_isi n_isinstance (fa_cons (fe_var 1) (fa_cons (fe_ty .tuple n_tuple) fa_nil))))))) (fss_one (fs_ret fe_bl)) fss_nil)
    (fss_one (fs_ret (fe_and (fe_cmp (or_eqU c.hu) io_eq (fe_blt call_len ib_len n_len (fa_cons (fe_var 0) fa_nil)) (fe_blt call_len ib_len n_len (fa_cons (fe_var 1) fa_nil))) (fe_one (fe_blt (cr_all c.calm) ib_all n_all (fa_cons (fe_comp [("_law_one", 2), ("_law_two", 3)] c (fi_zip c n_zip (fa_cons (fe_var 0) (fa_cons (fe_var 1) fa_nil))) (fun q c10 => (fg_tup c10 (fgs_cons (fg_name 2 c10) (fgs_cons (fg_name 3 c10) fgs_nil)))) (fun q c10 => fts_nil) (fun q c10 => (fe_call c10 ih (hr.mono (by omega)) m_law_same k_law_same b_law_same dfl0 rfl (fa_cons (fe_var 2) (fa_cons (fe_var 3) fa_nil)) (al1 (al1 al0))))) fa_nil))))))) fss_nil)
    (fss_cons (fs_if (ft_w (fw_or (ft_cmp op_isN io_is (fe_var 1) fe_non) (fw_or1 (ft_cmp op_isN io_is (fe_var 0) fe_non)))) (fss_one (fs_ret (fe_and (fe_cmp op_isN io_is (fe_var 1) fe_non) (fe_one (fe_cmp op_isN io_is (fe_var 0) fe_non))))) fss_nil)
    (fss_cons (fs_if (ft_w (fw_or (ft_cmp (or_neU c.hu) io_ne (fe_blt cr_isiU ib_isi n_isinstance (fa_cons (fe_var 0) (fa_cons (fe_ty .bool n_bool) fa_nil))) (fe_blt cr_isiU ib_isi n_isinstance (fa_cons (fe_var 1) (fa_cons (fe_ty .bool n_bool) fa_nil)))) (fw_or1 (ft_cmp (or_neU c.hu) io_ne (fe_blt cr_isiU ib_isi n_isinstance (fa_cons (fe_var 0) (fa_cons (fe_ty .int n_int) fa_nil))) (fe_blt cr_isiU ib_isi n_isinstance (fa_cons (fe_var 1) (fa_cons (fe_ty .int n_int) fa_nil))))))) (fss_one (fs_ret fe_bl)) fss_nil)
    (fss_one (fs_ret (fe_and (fe_cmp (or_eqU c.hu) io_eq (fe_blt cr_isiU ib_isi n_isinstance (fa_cons (fe_var 0) (fa_cons (fe_ty .str n_str) fa_nil))) (fe_blt cr_isiU ib_isi n_isinstance (fa_cons (fe_var 1) (fa_cons (fe_ty .str n_str) fa_nil)))) (fe_one (fe_cmp (or_eqU c.hu) io_eq (fe_var 0) (fe_var 1)))))))))
    exact q
theorem ok_law_part_words {f : Addr} {fd : FuncData} (F : Fun T.K "_law_part_words" "_law_part_words" s_law_part_words f fd) (n_enumerate : mg "enumerate" = none) (n_list : mg "list" = none) (n_str : mg "str" = none) : FnOk P w T.K mg base (L2.CX P w) 1 f fd ["_law_part_here"] (spF T 1 F_law_part_words) := by
  have q : FnOk P w T.K mg base (L2.CX P w) (0 + 1) f fd ["_law_part_here"] (spF T 1 (mkFn 1 4 B_law_part_words)) := by
    refine fn_def F sc_law_part_words rfl fun cdv A outer s H E hr c => ?_
    unfold B_law_part_words
    exact (fss_cons (fs_if (ft_cmp (or_eqU c.hu) io_eq (fe_ix c (fe_var 0) fe_int) (fe_str [117, 115, 101])) (fss_one (fs_ret (fe_op or_addU io_add (fe_lst (fa_cons (fe_ix c (fe_var 0) fe_int) (fa_cons (fe_str [117, 115, 101]) (fa_cons (fe_ix c (fe_var 0) fe_int) fa_nil)))) (fe_bty call_list_of ib_list n_list (fa_cons (fe_ix c (fe_var 0) fe_int) fa_nil))))) fss_nil)
    (fss_cons (fs_if (ft_cmp (or_neU c.hu) io_ne (fe_ix c (fe_var 0) fe_int) (fe_str [109, 105, 120])) (fss_one (fs_ret (fe_op or_addU io_add (fe_lst (fa_cons (fe_ix c (fe_var 0) fe_int) (fa_cons (fe_ix c (fe_var 0) fe_int) fa_nil))) (fe_bty call_list_of ib_list n_list (fa_cons (fe_sl c (fe_var 0) (fp_some fe_int) fp_no) fa_nil))))) fss_nil)
    (fss_cons (fs_set 1 c (fe_lst (fa_cons (fe_ix c (fe_var 0) fe_int) (fa_cons (fe_str [109, 105, 120]) fa_nil))))
    (fss_cons (fs_for c (fi_enumA c n_enumerate (fa_cons (fe_ix c (fe_var 0) fe_int) fa_nil)) (fg_tup c (fgs_cons (fg_name 2 c) (fgs_cons (fg_name 3 c) fgs_nil))) (fss_one (fs_set 1 c (fe_op or_addU io_add (fe_op or_addU io_add (fe_op or_addU io_add (fe_var 1) (fe_if (ft_cmp or_gt io_cmp (fe_var 2) fe_int) (fe_lst (fa_cons (fe_str [44]) fa_nil)) (fe_lst fa_nil))) (fe_lst (fa_cons (fe_bty cr_str ib_str n_str (fa_cons (fe_ix c (fe_var 3) fe_int) fa_nil)) (fa_cons (fe_ix c (fe_var 3) fe_int) fa_nil)))) (fe_if (ft_cmp or_gt io_cmp (fe_ix c (fe_var 3) fe_int) fe_int) (fe_lst (fa_cons (fe_str [108, 97, 116, 101]) (fa_cons (fe_bty cr_str ib_str n_str (fa_cons (fe_ix c (fe_var 3) fe_int) fa_nil)) fa_nil))) (fe_lst fa_nil))))))
    (fss_one (fs_ret (fe_var 1)))))))
  exact q
theorem ok_law_words_v {f : Addr} {fd : FuncData} (F : Fun T.K "_law_words" "_law_words" s_law_words_v f fd) (n_list : mg "list" = none) {f_law_part_words : Addr} {fd_law_part_words : FuncData} (O_law_part_words : FnOk P w T.K mg base (L2.CX P w) 1 f_law_part_words fd_law_part_words ["_law_part_here"] (spF T 1 F_law_part_words)) (m_law_part_words : mg "_law_part_words" = some (.ref f_law_part_words)) (k_law_part_words : PySem.W.keepIn T.K (.ref f_law_part_words) = true) (b_law_part_words : Binds T.K fd_law_part_words ["_law_part_here"] []) : FnOk P w T.K mg base (L2.CX P w) 2 f fd ["_law_parts_here", "_law_outs"] (spF T 2 F_law_words_v) := by
  have q : FnOk P w T.K mg base (L2.CX P w) (1 + 1) f fd ["_law_parts_here", "_law_outs"] (spF T 2 (mkFn 2 4 B_law_words_v)) := by
    refine fn_def F sc_law_words_v rfl fun cdv A outer s H E hr c => ?_
    unfold B_law_words_v
    exact (fss_cons (fs_set 2 c (fe_lst fa_nil))
    (fss_cons (fs_for c (fi_seq c (fe_var 0)) (fg_name 3 c) (fss_one (fs_set 2 c (fe_op or_addU io_add (fe_op or_addU io_add (fe_var 2) (fe_call c O_law_part_words (hr.mono (by decide)) m_law_part_words k_law_part_words b_law_part_words dfl0 rfl (fa_cons (fe_var 3) fa_nil) (al1 al0))) (fe_lst (fa_cons (fe_str [59]) fa_nil))))))
    (fss_one (fs_ret (fe_op or_addU io_add (fe_op or_addU io_add (fe_var 2) (fe_lst (fa_cons (fe_str [62]) fa_nil))) (fe_bty call_list_of ib_list n_list (fa_cons (fe_var 1) fa_nil)))))))
  exact q
theorem ok_law_is_name {f : Addr} {fd : FuncData} (F : Fun T.K "_law_is_name" "_law_is_name" s_law_is_name f fd) (n_all : mg "all" = none) (n_len : mg "len" = none) : FnOk P w T.K mg base (L2.CX P w) 1 f fd ["_law_word"] (spF T 1 F_law_is_name) := by
  have q : FnOk P w T.K mg base (L2.CX P w) (0 + 1) f fd ["_law_word"] (spF T 1 (mkFn 1 2 B_law_is_name)) := by
    refine fn_def F sc_law_is_name rfl fun cdv A outer s H E hr c => ?_
    unfold B_law_is_name
    exact (fss_one (fs_ret (fe_and (fe_chain or_le or_le io_cmp io_cmp fe_int (fe_blt call_len ib_len n_len (fa_cons (fe_var 0) fa_nil)) fe_int) (fe_one (fe_blt (cr_all c.calm) ib_all n_all (fa_cons (fe_comp [("_law_sign", 1)] c (fi_seq c (fe_var 0)) (fun q c11 => (fg_name 1 c11)) (fun q c11 => fts_nil) (fun q c11 => (fe_cmp (or_inD c11.hu) io_inD (fe_var 1) (fe_str [97, 98, 99, 100, 101, 102, 103, 104, 105, 106, 107, 108, 109, 110, 111, 112, 113, 114, 115, 116, 117, 118, 119, 120, 121, 122])))) fa_nil))))))
  exact q
theorem ok_law_names_end {f : Addr} {fd : FuncData} (F : Fun T.K "_law_names_end" "_law_names_end" s_law_names_end f fd) (n_len : mg "len" = none) (n_range : mg "range" = none) {f_law_is_name : Addr} {fd_law_is_name : FuncData} (O_law_is_name : FnOk P w T.K mg base (L2.CX P w) 1 f_law_is_name fd_law_is_name ["_law_word"] (spF T 1 F_law_is_name)) (m_law_is_name : mg "_law_is_name" = some (.ref f_law_is_name)) (k_law_is_name : PySem.W.keepIn T.K (.ref f_law_is_name) = true) (b_law_is_name : Binds T.K fd_law_is_name ["_law_word"] []) : FnOk P w T.K mg base (L2.CX P w) 2 f fd ["_law_words_here", "_law_at", "_law_most"] (spF T 3 F_law_names_end) := by
  have q : FnOk P w T.K mg base (L2.CX P w) (1 + 1) f fd ["_law_words_here", "_law_at", "_law_most"] (spF T 3 (mkFn 3 4 B_law_names_end)) := by
    refine fn_def F sc_law_names_end rfl fun cdv A outer s H E hr c => ?_
    unfold B_law_names_end
    exact (fss_cons (fs_for c (fi_range1 n_range (fa_cons (fe_var 2) fa_nil)) (fg_name 3 c) (fss_one (fs_if (ft_w (fw_and (ft_cmp or_lt io_cmp (fe_var 1) (fe_blt call_len ib_len n_len (fa_cons (fe_var 0) fa_nil))) (fw_and1 (ft_val (fe_call c O_law_is_name (hr.mono (by decide)) m_law_is_name k_law_is_name b_law_is_name dfl0 rfl (fa_cons (fe_ixD c (fe_var 0) (fe_var 1)) fa_nil) (al1 al0)))))) (fss_one (fs_set 1 c (fe_op or_addU io_add (fe_var 1) fe_int))) fss_nil)))
    (fss_one (fs_ret (fe_var 1))))
  exact q
theorem ok_law_mix_end {f : Addr} {fd : FuncData} (F : Fun T.K "_law_mix_end" "_law_mix_end" s_law_mix_end f fd) (n_len : mg "len" = none) (n_range : mg "range" = none) (n_str : mg "str" = none) {f_law_is_name : Addr} {fd_law_is_name : FuncData} (O_law_is_name : FnOk P w T.K mg base (L2.CX P w) 1 f_law_is_name fd_law_is_name ["_law_word"] (spF T 1 F_law_is_name)) (m_law_is_name : mg "_law_is_name" = some (.ref f_law_is_name)) (k_law_is_name : PySem.W.keepIn T.K (.ref f_law_is_name) = true) (b_law_is_name : Binds T.K fd_law_is_name ["_law_word"] []) : FnOk P w T.K mg base (L2.CX P w) 2 f fd ["_law_words_here", "_law_at"] (spF T 2 F_law_mix_end) := by
  have q : FnOk P w T.K mg base (L2.CX P w) (1 + 1) f fd ["_law_words_here", "_law_at"] (spF T 2 (mkFn 2 5 B_law_mix_end)) := by
    refine fn_def F sc_law_mix_end rfl fun cdv A outer s H E hr c => ?_
    unfold B_law_mix_end
    exact (fss_cons (fs_setLc 2 [("_law_number", 4)] c (fi_range2 n_range (fa_cons (fe_neg fe_int) (fa_cons fe_int fa_nil))) (fun q c12 => (fg_name 4 c12)) (fun q c12 => fts_nil) (fun q c12 => (fe_bty cr_str ib_str n_str (fa_cons (fe_var 4) fa_nil))))
    (fss_cons (fs_if (ft_w (fw_or (ft_cmp or_ge io_cmp (fe_var 1) (fe_blt call_len ib_len n_len (fa_cons (fe_var 0) fa_nil))) (fw_or1 (ft_cmp (or_ninD c.hu) io_ninD (fe_ixD c (fe_var 0) (fe_var 1)) (fe_var 2))))) (fss_one (fs_ret (fe_tup (fa_cons fe_bl (fa_cons (fe_var 1) fa_nil))))) fss_nil)
    (fss_cons (fs_for c (fi_range1 n_range (fa_cons fe_int fa_nil)) (fg_name 3 c) (fss_cons (fs_if (ft_w (fw_or (ft_cmp or_ge io_cmp (fe_var 1) (fe_blt call_len ib_len n_len (fa_cons (fe_var 0) fa_nil))) (fw_or1 (ft_cmp (or_ninD c.hu) io_ninD (fe_ixD c (fe_var 0) (fe_var 1)) (fe_var 2))))) (fss_one (fs_ret (fe_tup (fa_cons fe_bl (fa_cons (fe_var 1) fa_nil))))) fss_nil)
    (fss_cons (fs_if (ft_w (fw_or (ft_cmp or_ge io_cmp (fe_op or_addU io_add (fe_var 1) fe_int) (fe_blt call_len ib_len n_len (fa_cons (fe_var 0) fa_nil))) (fw_or1 (ft_not (ft_val (fe_call c O_law_is_name (hr.mono (by decide)) m_law_is_name k_law_is_name b_law_is_name dfl0 rfl (fa_cons (fe_ixD c (fe_var 0) (fe_op or_addU io_add (fe_var 1) fe_int)) fa_nil) (al1 al0))))))) (fss_one (fs_ret (fe_tup (fa_cons fe_bl (fa_cons (fe_op or_addU io_add (fe_var 1) fe_int) fa_nil))))) fss_nil)
    (fss_cons (fs_set 1 c (fe_op or_addU io_add (fe_var 1) fe_int))
    (fss_cons (fs_if (ft_w (fw_and (ft_cmp or_lt io_cmp (fe_var 1) (fe_blt call_len ib_len n_len (fa_cons (fe_var 0) fa_nil))) (fw_and1 (ft_cmp (or_eqU c.hu) io_eq (fe_ixD c (fe_var 0) (fe_var 1)) (fe_str [108, 97, 116, 101]))))) (fss_cons (fs_if (ft_w (fw_or (ft_cmp or_ge io_cmp (fe_op or_addU io_add (fe_var 1) fe_int) (fe_blt call_len ib_len n_len (fa_cons (fe_var 0) fa_nil))) (fw_or1 (ft_cmp (or_ninD c.hu) io_ninD (fe_ixD c (fe_var 0) (fe_op or_addU io_add (fe_var 1) fe_int)) (fe_lst (fa_cons (fe_str [49]) (fa_cons (fe_str [50]) (fa_cons (fe_str [51]) (fa_cons (fe_str [52]) fa_nil))))))))) (fss_one (fs_ret (fe_tup (fa_cons fe_bl (fa_cons (fe_op or_addU io_add (fe_var 1) fe_int) fa_nil))))) fss_nil)
    (fss_one (fs_set 1 c (fe_op or_addU io_add (fe_var 1) fe_int)))) fss_nil)
    (fss_cons (fs_if (ft_w (fw_or (ft_cmp or_ge io_cmp (fe_var 1) (fe_blt call_len ib_len n_len (fa_cons (fe_var 0) fa_nil))) (fw_or (ft_cmp (or_neU c.hu) io_ne (fe_ixD c (fe_var 0) (fe_var 1)) (fe_str [44])) (fw_or1 (ft_cmp (or_eqU c.hu) io_eq (fe_var 3) fe_int))))) (fss_one (fs_ret (fe_tup (fa_cons fe_bl (fa_cons (fe_var 1) fa_nil))))) fss_nil)
    (fss_one (fs_set 1 c (fe_op or_addU io_add (fe_var 1) fe_int)))))))))
    (fss_one (fs_ret (fe_tup (fa_cons fe_bl (fa_cons (fe_var 1) fa_nil))))))))
  exact q
theorem ok_law_part_end {f : Addr} {fd : FuncData} (F : Fun T.K "_law_part_end" "_law_part_end" s_law_part_end f fd) (n_len : mg "len" = none) {f_law_is_name : Addr} {fd_law_is_name : FuncData} (O_law_is_name : FnOk P w T.K mg base (L2.CX P w) 1 f_law_is_name fd_law_is_name ["_law_word"] (spF T 1 F_law_is_name)) (m_law_is_name : mg "_law_is_name" = some (.ref f_law_is_name)) (k_law_is_name : PySem.W.keepIn T.K (.ref f_law_is_name) = true) (b_law_is_name : Binds T.K fd_law_is_name ["_law_word"] []) {f_law_mix_end : Addr} {fd_law_mix_end : FuncData} (O_law_mix_end : FnOk P w T.K mg base (L2.CX P w) 2 f_law_mix_end fd_law_mix_end ["_law_words_here", "_law_at"] (spF T 2 F_law_mix_end)) (m_law_mix_end : mg "_law_mix_end" = some (.ref f_law_mix_end)) (k_law_mix_end : PySem.W.keepIn T.K (.ref f_law_mix_end) = true) (b_law_mix_end : Binds T.K fd_law_mix_end ["_law_words_here", "_law_at"] []) {f_law_names_end : Addr} {fd_law_names_end : FuncData} (O_law_names_end : FnOk P w T.K mg base (L2.CX P w) 2 f_law_names_end fd_law_names_end ["_law_words_here", "_law_at", "_law_most"] (spF T 3 F_law_names_end)) (m_law_names_end : mg "_law_names_end" = some (.ref f_law_names_end)) (k_law_names_end : PySem.W.keepIn T.K (.ref f_law_names_end) = true) (b_law_names_end : Binds T.K fd_law_names_end ["_law_words_here", "_law_at", "_law_most"] []) : FnOk P w T.K mg base (L2.CX P w) 3 f fd ["_law_words_here", "_law_at"] (spF T 2 F_law_part_end) := by
  have q : FnOk P w T.K mg base (L2.CX P w) (2 + 1) f fd ["_law_words_here", "_law_at"] (spF T 2 (mkFn 2 6 B_law_part_end)) := by
    refine fn_def F sc_law_part_end rfl fun cdv A outer s H E hr c => ?_
    unfold B_law_part_end
    exact (fss_cons (fs_if (ft_w (fw_or (ft_cmp or_ge io_cmp (fe_var 1) (fe_blt call_len ib_len n_len (fa_cons (fe_var 0) fa_nil))) (fw_or1 (ft_not (ft_val (fe_call c O_law_is_name (hr.mono (by decide)) m_law_is_name k_law_is_name b_law_is_name dfl0 rfl (fa_cons (fe_ixD c (fe_var 0) (fe_var 1)) fa_nil) (al1 al0))))))) (fss_one (fs_ret (fe_tup (fa_cons fe_bl (fa_cons (fe_var 1) fa_nil))))) fss_nil)
    (fss_cons (fs_set 2 c (fe_if (ft_cmp or_lt io_cmp (fe_op or_addU io_add (fe_var 1) fe_int) (fe_blt call_len ib_len n_len (fa_cons (fe_var 0) fa_nil))) (fe_ixD c (fe_var 0) (fe_op or_addU io_add (fe_var 1) fe_int)) (fe_str [])))
    (fss_cons (fs_if (ft_cmp (or_ninD c.hu) io_ninD (fe_var 2) (fe_lst (fa_cons (fe_str [115, 111, 117, 114, 99, 101]) (fa_cons (fe_str [109, 105, 120]) (fa_cons (fe_str [112, 108, 97, 105, 110]) (fa_cons (fe_str [111, 100, 100]) (fa_cons (fe_str [107, 101, 101, 112]) (fa_cons (fe_str [112, 97, 105, 114]) (fa_cons (fe_str [117, 115, 101]) fa_nil))))))))) (fss_one (fs_ret (fe_tup (fa_cons fe_bl (fa_cons (fe_op or_addU io_add (fe_var 1) fe_int) fa_nil))))) fss_nil)
    (fss_cons (fs_if (ft_cmp (or_eqU c.hu) io_eq (fe_var 2) (fe_str [115, 111, 117, 114, 99, 101])) (fss_one (fs_ret (fe_tup (fa_cons fe_bl (fa_cons (fe_op or_addU io_add (fe_var 1) fe_int) fa_nil))))) fss_nil)
    (fss_cons (fs_if (ft_cmp (or_eqU c.hu) io_eq (fe_var 2) (fe_str [109, 105, 120])) (fss_one (fs_ret (fe_call c O_law_mix_end (hr.mono (by decide)) m_law_mix_end k_law_mix_end b_law_mix_end dfl0 rfl (fa_cons (fe_var 0) (fa_cons (fe_op or_addU io_add (fe_var 1) fe_int) fa_nil)) (al1 (al1 al0))))) fss_nil)
    (fss_cons (fs_asg (fe_if (ft_cmp (or_eqU c.hu) io_eq (fe_var 2) (fe_str [117, 115, 101])) (fe_tup (fa_cons fe_int (fa_cons fe_int fa_nil))) (fe_if (ft_cmp (or_eqU c.hu) io_eq (fe_var 2) (fe_str [112, 97, 105, 114])) (fe_tup (fa_cons fe_int (fa_cons fe_int fa_nil))) (fe_tup (fa_cons fe_int (fa_cons fe_int fa_nil))))) (fg_tup c (fgs_cons (fg_name 3 c) (fgs_cons (fg_name 4 c) fgs_nil))) (sto_t (stos_1 sto_n (stos_1 sto_n stos_0))))
    (fss_cons (fs_set 5 c (fe_call c O_law_names_end (hr.mono (by decide)) m_law_names_end k_law_names_end b_law_names_end dfl0 rfl (fa_cons (fe_var 0) (fa_cons (fe_op or_addU io_add (fe_var 1) fe_int) (fa_cons (fe_var 4) fa_nil))) (al1 (al1 (al1 al0)))))
    (fss_one (fs_ret (fe_tup (fa_cons (fe_cmp or_ge io_cmp (fe_var 5) (fe_op or_addU io_add (fe_op or_addU io_add (fe_var 1) fe_int) (fe_var 3))) (fa_cons (fe_var 5) fa_nil))))))))))))
  exact q
theorem ok_law_wrong_word {f : Addr} {fd : FuncData} (F : Fun T.K "_law_wrong_word" "_law_wrong_word" s_law_wrong_word f fd) (n_len : mg "len" = none) (n_range : mg "range" = none) {f_law_names_end : Addr} {fd_law_names_end : FuncData} (O_law_names_end : FnOk P w T.K mg base (L2.CX P w) 2 f_law_names_end fd_law_names_end ["_law_words_here", "_law_at", "_law_most"] (spF T 3 F_law_names_end)) (m_law_names_end : mg "_law_names_end" = some (.ref f_law_names_end)) (k_law_names_end : PySem.W.keepIn T.K (.ref f_law_names_end) = true) (b_law_names_end : Binds T.K fd_law_names_end ["_law_words_here", "_law_at", "_law_most"] []) {f_law_part_end : Addr} {fd_law_part_end : FuncData} (O_law_part_end : FnOk P w T.K mg base (L2.CX P w) 3 f_law_part_end fd_law_part_end ["_law_words_here", "_law_at"] (spF T 2 F_law_part_end)) (m_law_part_end : mg "_law_part_end" = some (.ref f_law_part_end)) (k_law_part_end : PySem.W.keepIn T.K (.ref f_law_part_end) = true) (b_law_part_end : Binds T.K fd_law_part_end ["_law_words_here", "_law_at"] []) : FnOk P w T.K mg base (L2.CX P w) 4 f fd ["_law_words_here"] (spF T 1 F_law_wrong_word) := by
  have q : FnOk P w T.K mg base (L2.CX P w) (3 + 1) f fd ["_law_words_here"] (spF T 1 (mkFn 1 5 B_law_wrong_word)) := by
    refine fn_def F sc_law_wrong_word rfl fun cdv A outer s H E hr c => ?_
    unfold B_law_wrong_word
    exact (fss_cons (fs_set 1 c fe_int)
    (fss_cons (fs_for c (fi_range1 n_range (fa_cons (fe_op or_addU io_add (fe_blt call_len ib_len n_len (fa_cons (fe_var 0) fa_nil)) fe_int) fa_nil)) (fg_name 2 c) (fss_cons (fs_if (ft_w (fw_and (ft_cmp or_lt io_cmp (fe_var 1) (fe_blt call_len ib_len n_len (fa_cons (fe_var 0) fa_nil))) (fw_and1 (ft_cmp (or_eqU c.hu) io_eq (fe_ixD c (fe_var 0) (fe_var 1)) (fe_str [62]))))) (fss_cons (fs_set 3 c (fe_call c O_law_names_end (hr.mono (by decide)) m_law_names_end k_law_names_end b_law_names_end dfl0 rfl (fa_cons (fe_var 0) (fa_cons (fe_op or_addU io_add (fe_var 1) fe_int) (fa_cons fe_int fa_nil))) (al1 (al1 (al1 al0)))))
    (fss_one (fs_ret (fe_if (ft_w (fw_and (ft_cmp (or_eqU c.hu) io_eq (fe_var 3) (fe_blt call_len ib_len n_len (fa_cons (fe_var 0) fa_nil))) (fw_and1 (ft_cmp or_gt io_cmp (fe_var 3) (fe_op or_addU io_add (fe_var 1) fe_int))))) (fe_neg fe_int) (fe_var 3))))) fss_nil)
    (fss_cons (fs_asg (fe_call c O_law_part_end (hr.mono (by decide)) m_law_part_end k_law_part_end b_law_part_end dfl0 rfl (fa_cons (fe_var 0) (fa_cons (fe_var 1) fa_nil)) (al1 (al1 al0))) (fg_tup c (fgs_cons (fg_name 4 c) (fgs_cons (fg_name 1 c) fgs_nil))) (sto_t (stos_1 sto_n (stos_1 sto_n stos_0))))
    (fss_cons (fs_if (ft_w (fw_or (ft_not (ft_val (fe_var 4))) (fw_or (ft_cmp or_ge io_cmp (fe_var 1) (fe_blt call_len ib_len n_len (fa_cons (fe_var 0) fa_nil))) (fw_or1 (ft_cmp (or_neU c.hu) io_ne (fe_ixD c (fe_var 0) (fe_var 1)) (fe_str [59])))))) (fss_one (fs_ret (fe_var 1))) fss_nil)
    (fss_one (fs_set 1 c (fe_op or_addU io_add (fe_var 1) fe_int)))))))
    (fss_one (fs_ret (fe_var 1)))))
  exact q
theorem ok_term_words {f : Addr} {fd : FuncData} (F : Fun T.K "term_words" "term_words" s_term_words f fd) (n_str : mg "str" = none) : FnOk P w T.K mg base (L2.CX P w) 1 f fd ["term"] (spF T 1 F_term_words) := by
  have q : FnOk P w T.K mg base (L2.CX P w) (0 + 1) f fd ["term"] (spF T 1 (mkFn 1 4 B_term_words)) := by
    refine fn_def F sc_term_words rfl fun cdv A outer s H E hr c => ?_
    unfold B_term_words
    exact (fss_cons (fs_asg (fe_var 0) (fg_tup c (fgs_cons (fg_name 1 c) (fgs_cons (fg_name 2 c) (fgs_cons (fg_name 3 c) fgs_nil)))) (sto_t (stos_1 sto_n (stos_1 sto_n (stos_1 sto_n stos_0)))))
    (fss_one (fs_ret (fe_op or_addU io_add (fe_lst (fa_cons (fe_bty cr_str ib_str n_str (fa_cons (fe_var 1) fa_nil)) (fa_cons (fe_var 3) fa_nil))) (fe_if (ft_cmp or_gt io_cmp (fe_var 2) fe_int) (fe_lst (fa_cons (fe_str [108, 97, 116, 101]) (fa_cons (fe_bty cr_str ib_str n_str (fa_cons (fe_var 2) fa_nil)) fa_nil))) (fe_lst fa_nil))))))
  exact q
theorem ok_part_words {f : Addr} {fd : FuncData} (F : Fun T.K "part_words" "part_words" s_part_words f fd) (n_enumerate : mg "enumerate" = none) {f_term_words : Addr} {fd_term_words : FuncData} (O_term_words : FnOk P w T.K mg base (L2.CX P w) 1 f_term_words fd_term_words ["term"] (spF T 1 F_term_words)) (m_term_words : mg "term_words" = some (.ref f_term_words)) (k_term_words : PySem.W.keepIn T.K (.ref f_term_words) = true) (b_term_words : Binds T.K fd_term_words ["term"] []) : FnOk P w T.K mg base (L2.CX P w) 2 f fd ["part"] (spF T 1 F_part_words) := by
  have q : FnOk P w T.K mg base (L2.CX P w) (1 + 1) f fd ["part"] (spF T 1 (mkFn 1 7 B_part_words)) := by
    refine fn_def F sc_part_words rfl fun cdv A outer s H E hr c => ?_
    unfold B_part_words
    exact (fss_cons (fs_asg (fe_var 0) (fg_star c (fgs_cons (fg_name 1 c) (fgs_cons (fg_name 2 c) (fgs_star (fg_name 3 c) fgs_nil)))) (sto_s (stos_1 sto_n (stos_1 sto_n (stos_1 sto_n stos_0)))))
    (fss_cons (fs_if (ft_cmp (or_eqU c.hu) io_eq (fe_var 1) (fe_str [117, 115, 101])) (fss_one (fs_ret (fe_lst (fa_cons (fe_var 2) (fa_cons (fe_str [117, 115, 101]) (fa_cons (fe_ix c (fe_var 3) fe_int) (fa_star c (fe_ix c (fe_var 3) fe_int) fa_nil))))))) fss_nil)
    (fss_cons (fs_if (ft_cmp (or_neU c.hu) io_ne (fe_var 1) (fe_str [109, 105, 120])) (fss_one (fs_ret (fe_lst (fa_cons (fe_var 2) (fa_cons (fe_var 1) (fa_star c (fe_var 3) fa_nil)))))) fss_nil)
    (fss_cons (fs_set 4 c (fe_lst (fa_cons (fe_var 2) (fa_cons (fe_str [109, 105, 120]) fa_nil))))
    (fss_cons (fs_for c (fi_enumA c n_enumerate (fa_cons (fe_ix c (fe_var 3) fe_int) fa_nil)) (fg_tup c (fgs_cons (fg_name 5 c) (fgs_cons (fg_name 6 c) fgs_nil))) (fss_one (fs_set 4 c (fe_op or_addU io_add (fe_op or_addU io_add (fe_var 4) (fe_if (ft_cmp or_gt io_cmp (fe_var 5) fe_int) (fe_lst (fa_cons (fe_str [44]) fa_nil)) (fe_lst fa_nil))) (fe_call c O_term_words (hr.mono (by decide)) m_term_words k_term_words b_term_words dfl0 rfl (fa_cons (fe_var 6) fa_nil) (al1 al0))))))
    (fss_one (fs_ret (fe_var 4))))))))
  exact q
theorem ok_text_of {f : Addr} {fd : FuncData} (F : Fun T.K "text_of" "text_of" s_text_of f fd) {f_part_words : Addr} {fd_part_words : FuncData} (O_part_words : FnOk P w T.K mg base (L2.CX P w) 2 f_part_words fd_part_words ["part"] (spF T 1 F_part_words)) (m_part_words : mg "part_words" = some (.ref f_part_words)) (k_part_words : PySem.W.keepIn T.K (.ref f_part_words) = true) (b_part_words : Binds T.K fd_part_words ["part"] []) : FnOk P w T.K mg base (L2.CX P w) 3 f fd ["parts", "outs"] (spF T 2 F_text_of) := by
  have q : FnOk P w T.K mg base (L2.CX P w) (2 + 1) f fd ["parts", "outs"] (spF T 2 (mkFn 2 4 B_text_of)) := by
    refine fn_def F sc_text_of rfl fun cdv A outer s H E hr c => ?_
    unfold B_text_of
    exact (fss_cons (fs_set 2 c (fe_lst fa_nil))
    (fss_cons (fs_for c (fi_seq c (fe_var 0)) (fg_name 3 c) (fss_one (fs_set 2 c (fe_op or_addU io_add (fe_op or_addU io_add (fe_var 2) (fe_call c O_part_words (hr.mono (by decide)) m_part_words k_part_words b_part_words dfl0 rfl (fa_cons (fe_var 3) fa_nil) (al1 al0))) (fe_lst (fa_cons (fe_str [59]) fa_nil))))))
    (fss_one (fs_ret (fe_join c (fe_str [32]) (fe_lst (fa_star c (fe_var 2) (fa_cons (fe_str [62]) (fa_star c (fe_var 1) fa_nil)))))))))
  exact q
theorem ok_law {f c0 P0 : Addr} {fd : FuncData} {cs : List Value} (F : FunL T.K "law" "law" s_law f fd c0) (TB : LamX.TabB base mg c0 P0) (hT : T.tb = [(P0, lamName "law")]) (Y_law_why : WhyOk T P w mg base "_law_why" F_law_field cs) (xt0 : XtOk T cs ([(1, 1)] : List (Nat × Nat))) (z1000 : T.ct 1000 = none) (er0 : T.er = none) (n_range : mg "range" = none) (n_tuple : mg "tuple" = none) {f_law_bag : Addr} {fd_law_bag : FuncData} (O_law_bag : FnOk P w T.K mg base (L2.CX P w) 1 f_law_bag fd_law_bag ["_law_script"] (spF T 1 F_law_bag)) (m_law_bag : mg "_law_bag" = some (.ref f_law_bag)) (k_law_bag : PySem.W.keepIn T.K (.ref f_law_bag) = true) (b_law_bag : Binds T.K fd_law_bag ["_law_script"] []) {f_law_bent : Addr} {fd_law_bent : FuncData} (O_law_bent : FnOk P w T.K mg base (L2.CX P w) 3 f_law_bent fd_law_bent ["_law_bag_here", "_law_words_here", "_law_more"] (spF T 3 F_law_bent)) (m_law_bent : mg "_law_bent" = some (.ref f_law_bent)) (k_law_bent : PySem.W.keepIn T.K (.ref f_law_bent) = true) (b_law_bent : Binds T.K fd_law_bent ["_law_bag_here", "_law_words_here", "_law_more"] []) {f_law_boxes : Addr} {fd_law_boxes : FuncData} (O_law_boxes : FnOk P w T.K mg base (L2.CX P w) 3 f_law_boxes fd_law_boxes ["_law_bag_here", "_law_words_here"] (spF T 2 F_law_boxes)) (m_law_boxes : mg "_law_boxes" = some (.ref f_law_boxes)) (k_law_boxes : PySem.W.keepIn T.K (.ref f_law_boxes) = true) (b_law_boxes : Binds T.K fd_law_boxes ["_law_bag_here", "_law_words_here"] []) {f_law_mixed : Addr} {fd_law_mixed : FuncData} (O_law_mixed : FnOk P w T.K mg base (L2.CX P w) 2 f_law_mixed fd_law_mixed ["_law_bag_here", "_law_things"] (spF T 2 F_law_mixed)) (m_law_mixed : mg "_law_mixed" = some (.ref f_law_mixed)) (k_law_mixed : PySem.W.keepIn T.K (.ref f_law_mixed) = true) (b_law_mixed : Binds T.K fd_law_mixed ["_law_bag_here", "_law_things"] []) {f_law_names : Addr} {fd_law_names : FuncData} (O_law_names : FnOk P w T.K mg base (L2.CX P w) 3 f_law_names fd_law_names ["_law_bag_here", "_law_many"] (spF T 2 F_law_names)) (m_law_names : mg "_law_names" = some (.ref f_law_names)) (k_law_names : PySem.W.keepIn T.K (.ref f_law_names) = true) (b_law_names : Binds T.K fd_law_names ["_law_bag_here", "_law_many"] []) {f_law_parts : Addr} {fd_law_parts : FuncData} (O_law_parts : FnOk P w T.K mg base (L2.CX P w) 5 f_law_parts fd_law_parts ["_law_bag_here", "_law_wires", "_law_sources", "_law_boxes_here"] (spF T 4 F_law_parts)) (m_law_parts : mg "_law_parts" = some (.ref f_law_parts)) (k_law_parts : PySem.W.keepIn T.K (.ref f_law_parts) = true) (b_law_parts : Binds T.K fd_law_parts ["_law_bag_here", "_law_wires", "_law_sources", "_law_boxes_here"] []) {f_law_pull : Addr} {fd_law_pull : FuncData} (O_law_pull : FnOk P w T.K mg base (L2.CX P w) 1 f_law_pull fd_law_pull ["_law_bag_here", "_law_many"] (spF T 2 F_law_pull)) (m_law_pull : mg "_law_pull" = some (.ref f_law_pull)) (k_law_pull : PySem.W.keepIn T.K (.ref f_law_pull) = true) (b_law_pull : Binds T.K fd_law_pull ["_law_bag_here", "_law_many"] []) {f_law_same : Addr} {fd_law_same : FuncData} (O_law_same : ∀ n, FnOk P w T.K mg base (L2.CX P w) (1 + n) f_law_same fd_law_same ["_law_found", "_law_due"] (spF T 2 (F_law_same n))) (m_law_same : mg "_law_same" = some (.ref f_law_same)) (k_law_same : PySem.W.keepIn T.K (.ref f_law_same) = true) (b_law_same : Binds T.K fd_law_same ["_law_found", "_law_due"] []) {f_law_words_v : Addr} {fd_law_words_v : FuncData} (O_law_words_v : FnOk P w T.K mg base (L2.CX P w) 2 f_law_words_v fd_law_words_v ["_law_parts_here", "_law_outs"] (spF T 2 F_law_words_v)) (m_law_words_v : mg "_law_words" = some (.ref f_law_words_v)) (k_law_words_v : PySem.W.keepIn T.K (.ref f_law_words_v) = true) (b_law_words_v : Binds T.K fd_law_words_v ["_law_parts_here", "_law_outs"] []) {f_law_wrong_word : Addr} {fd_law_wrong_word : FuncData} (O_law_wrong_word : FnOk P w T.K mg base (L2.CX P w) 4 f_law_wrong_word fd_law_wrong_word ["_law_words_here"] (spF T 1 F_law_wrong_word)) (m_law_wrong_word : mg "_law_wrong_word" = some (.ref f_law_wrong_word)) (k_law_wrong_word : PySem.W.keepIn T.K (.ref f_law_wrong_word) = true) (b_law_wrong_word : Binds T.K fd_law_wrong_word ["_law_words_here"] []) {f_read_net : Addr} {fd_read_net : FuncData} (O_read_net : FnOk P w T.K mg base (L2.CX P w) 9 f_read_net fd_read_net ["text"] (spF T 1 F_read_net)) (m_read_net : mg "read_net" = some (.ref f_read_net)) (k_read_net : PySem.W.keepIn T.K (.ref f_read_net) = true) (b_read_net : Binds T.K fd_read_net ["text"] []) {f_text_of : Addr} {fd_text_of : FuncData} (O_text_of : FnOk P w T.K mg base (L2.CX P w) 3 f_text_of fd_text_of ["parts", "outs"] (spF T 2 F_text_of)) (m_text_of : mg "text_of" = some (.ref f_text_of)) (k_text_of : PySem.W.keepIn T.K (.ref f_text_of) = true) (b_text_of : Binds T.K fd_text_of ["parts", "outs"] [])
    (ST_Net_read_1 : StatOk T P w mg base 10 "Net" "read" 2 F_Net_read [.non] 1 [0, 1]) : FnOk P w T.K mg base (L2.CX P w) 15 f fd ["_law_script"] (spF T 1 F_law) := by
  have q : FnOk P w T.K mg base (L2.CX P w) (14 + 1) f fd ["_law_script"] (spF T 1 (mkFn 1 12 B_law)) := by
    refine fn_defL F sc_law rfl TB hT fun A outer s H E hr c la => ?_
    unfold B_law
    exact (fss_cons (fs_set 1 c (fe_call c O_law_bag (hr.mono (by decide)) m_law_bag k_law_bag b_law_bag dfl0 rfl (fa_cons (fe_var 0) fa_nil) (al1 al0)))
    (fss_cons (fs_for c (fi_range1 n_range (fa_cons fe_int fa_nil)) (fg_name 2 c) (fss_cons (fs_set 3 c (fe_call c O_law_mixed (hr.mono (by decide)) m_law_mixed k_law_mixed b_law_mixed dfl0 rfl (fa_cons (fe_var 1) (fa_cons (fe_call c O_law_names (hr.mono (by decide)) m_law_names k_law_names b_law_names dfl0 rfl (fa_cons (fe_var 1) (fa_cons fe_int fa_nil)) (al1 (al1 al0))) fa_nil)) (al1 (al1 al0))))
    (fss_cons (fs_set 4 c (fe_call c O_law_parts (hr.mono (by decide)) m_law_parts k_law_parts b_law_parts dfl0 rfl (fa_cons (fe_var 1) (fa_cons (fe_sl c (fe_var 3) fp_no (fp_some (fe_op or_addU io_add fe_int (fe_call c O_law_pull (hr.mono (by decide)) m_law_pull k_law_pull b_law_pull dfl0 rfl (fa_cons (fe_var 1) (fa_cons fe_int fa_nil)) (al1 (al1 al0)))))) (fa_cons (fe_call c O_law_pull (hr.mono (by decide)) m_law_pull k_law_pull b_law_pull dfl0 rfl (fa_cons (fe_var 1) (fa_cons fe_int fa_nil)) (al1 (al1 al0))) (fa_cons (fe_call c O_law_boxes (hr.mono (by decide)) m_law_boxes k_law_boxes b_law_boxes dfl0 rfl (fa_cons (fe_var 1) (fa_cons (fe_sl c (fe_var 3) fp_no (fp_some fe_int)) fa_nil)) (al1 (al1 al0))) fa_nil)))) (al1 (al1 (al1 (al1 al0))))))
    (fss_cons (fs_if (ft_cmp (or_eqU c.hu) io_eq (fe_call c O_law_pull (hr.mono (by decide)) m_law_pull k_law_pull b_law_pull dfl0 rfl (fa_cons (fe_var 1) (fa_cons fe_int fa_nil)) (al1 (al1 al0))) fe_int) (fss_one (fs_set 4 c (fe_op or_addU io_add (fe_var 4) (fe_lst (fa_cons (fe_tup (fa_cons (fe_str [117, 115, 101]) (fa_cons (fe_ixD c (fe_var 3) fe_int) (fa_cons (fe_ixD c (fe_var 3) fe_int) (fa_cons (fe_bty call_tuple_of ib_tuple n_tuple (fa_cons (fe_sl c (fe_var 3) fp_no (fp_some (fe_call c O_law_pull (hr.mono (by decide)) m_law_pull k_law_pull b_law_pull dfl0 rfl (fa_cons (fe_var 1) (fa_cons fe_int fa_nil)) (al1 (al1 al0))))) fa_nil)) fa_nil))))) fa_nil))))) fss_nil)
    (fss_cons (fs_if (ft_cmp (or_eqU c.hu) io_eq (fe_call c O_law_pull (hr.mono (by decide)) m_law_pull k_law_pull b_law_pull dfl0 rfl (fa_cons (fe_var 1) (fa_cons fe_int fa_nil)) (al1 (al1 al0))) fe_int) (fss_one (fs_set 4 c (fe_op or_addU io_add (fe_var 4) (fe_lst (fa_cons (fe_tup (fa_cons (fe_str [109, 105, 120]) (fa_cons (fe_ixD c (fe_var 3) fe_int) (fa_cons (fe_op op_repT io_repW (fe_tup (fa_cons (fe_tup (fa_cons fe_int (fa_cons fe_int (fa_cons (fe_ixD c (fe_var 3) fe_int) fa_nil)))) fa_nil)) fe_int) fa_nil)))) fa_nil))))) fss_nil)
    (fss_cons (fs_set 5 c (fe_call c O_law_bent (hr.mono (by decide)) m_law_bent k_law_bent b_law_bent dfl0 rfl (fa_cons (fe_var 1) (fa_cons (fe_call c O_law_words_v (hr.mono (by decide)) m_law_words_v k_law_words_v b_law_words_v dfl0 rfl (fa_cons (fe_var 4) (fa_cons (fe_sl c (fe_var 3) fp_no (fp_some (fe_op or_addU io_add fe_int (fe_call c O_law_pull (hr.mono (by decide)) m_law_pull k_law_pull b_law_pull dfl0 rfl (fa_cons (fe_var 1) (fa_cons fe_int fa_nil)) (al1 (al1 al0)))))) fa_nil)) (al1 (al1 al0))) (fa_cons (fe_var 3) fa_nil))) (al1 (al1 (al1 al0)))))
    (fss_cons (fs_if (ft_cmp (or_eqU c.hu) io_eq (fe_call c O_law_pull (hr.mono (by decide)) m_law_pull k_law_pull b_law_pull dfl0 rfl (fa_cons (fe_var 1) (fa_cons fe_int fa_nil)) (al1 (al1 al0))) fe_int) (fss_one (fs_set 5 c (fe_call c O_law_bent (hr.mono (by decide)) m_law_bent k_law_bent b_law_bent dfl0 rfl (fa_cons (fe_var 1) (fa_cons (fe_var 5) (fa_cons (fe_var 3) fa_nil))) (al1 (al1 (al1 al0)))))) fss_nil)
    (fss_cons (fs_set 6 c (fe_join c (fe_str [32]) (fe_var 5)))
    (fss_cons (fs_set 5 c (fe_split c (fe_var 6) (fe_str [32])))
    (fss_cons (fs_set 7 c (fe_call c O_law_wrong_word (hr.mono (by decide)) m_law_wrong_word k_law_wrong_word b_law_wrong_word dfl0 rfl (fa_cons (fe_var 5) fa_nil) (al1 al0)))
    (fss_cons (fs_set 8 c (fe_why (k := 12) c Y_law_why xok_law_field xt0 z1000 er0 la (hr.mono (by decide)) (fun A outer s H E f c0 hr c => (fe_call c O_read_net (hr.mono (by decide)) m_read_net k_read_net b_read_net dfl0 rfl (fa_cons (fe_var 6) fa_nil) (al1 al0)))))
    (fss_cons (fs_set 9 c (fe_if (ft_cmp or_ge io_cmp (fe_var 7) fe_int) (fe_why (k := 12) c Y_law_why xok_law_field xt0 z1000 er0 la (hr.mono (by decide)) (fun A outer s H E f c0 hr c => (fe_stat c ST_Net_read_1 (hr.mono (by decide)) (fa_cons (fe_var 6) fa_nil) (al1 al0) (perm_lenG (by decide) rfl)))) (fe_var 8)))
    (fss_cons (fs_if (ft_w (fw_and (ft_cmp or_ge io_cmp (fe_var 7) fe_int) (fw_and1 (ft_not (ft_val (fe_call c (O_law_same 8) (hr.mono (by decide)) m_law_same k_law_same b_law_same dfl0 rfl (fa_cons (fe_lst (fa_cons (fe_var 8) (fa_cons (fe_var 9) fa_nil))) (fa_cons (fe_op or_mulU io_mul (fe_lst (fa_cons (fe_tup (fa_cons (fe_str [73, 110, 118, 97, 108, 105, 100, 84, 101, 120, 116]) (fa_cons (fe_tup (fa_cons (fe_var 7) fa_nil)) fa_nil))) fa_nil)) fe_int) fa_nil)) (al1 (al1 al0)))))))) (fss_one (fs_ret fe_bl)) fss_nil)
    (fss_one (fs_if (ft_w (fw_and (ft_cmp or_lt io_cmp (fe_var 7) fe_int) (fw_and1 (ft_not (ft_w (fw_and (ft_val (fe_call c (O_law_same 8) (hr.mono (by decide)) m_law_same k_law_same b_law_same dfl0 rfl (fa_cons (fe_ixD c (fe_var 8) fe_int) (fa_cons (fe_str []) fa_nil)) (al1 (al1 al0)))) (fw_and1 (ft_val (fe_call c (O_law_same 8) (hr.mono (by decide)) m_law_same k_law_same b_law_same dfl0 rfl (fa_cons (fe_call c O_text_of (hr.mono (by decide)) m_text_of k_text_of b_text_of dfl0 rfl (fa_cons (fe_ixD c (fe_ixD c (fe_var 8) fe_int) fe_int) (fa_cons (fe_ixD c (fe_ixD c (fe_var 8) fe_int) fe_int) fa_nil)) (al1 (al1 al0))) (fa_cons (fe_var 6) fa_nil)) (al1 (al1 al0))))))))))) (fss_one (fs_ret fe_bl)) fss_nil)))))))))))))))
    (fss_cons (fs_set 10 c (fe_lst (fa_cons fe_non (fa_cons fe_int (fa_cons fe_bl (fa_cons (fe_lst (fa_cons (fe_str [97]) fa_nil)) (fa_cons (fe_tup (fa_cons (fe_str [62, 32, 97]) fa_nil)) fa_nil)))))))
    (fss_cons (fs_setLc 8 [("_law_odd", 11)] c (fi_seq c (fe_var 10)) (fun q c13 => (fg_name 11 c13)) (fun q c13 => fts_nil) (fun q c13 => (fe_why (k := 12) c13 Y_law_why xok_law_field xt0 z1000 er0 (la.blk q _) (hr.mono (by decide)) (fun A outer s H E f c0 hr c => (fe_call c O_read_net (hr.mono (by decide)) m_read_net k_read_net b_read_net dfl0 rfl (fa_cons (fe_var 11) fa_nil) (al1 al0))))))
    (fss_cons (fs_set 8 c (fe_op or_addU io_add (fe_var 8) (fe_comp [("_law_odd", 11)] c (fi_seq c (fe_var 10)) (fun q c14 => (fg_name 11 c14)) (fun q c14 => fts_nil) (fun q c14 => (fe_why (k := 12) c14 Y_law_why xok_law_field xt0 z1000 er0 (la.blk q _) (hr.mono (by decide)) (fun A outer s H E f c0 hr c => (fe_stat c ST_Net_read_1 (hr.mono (by decide)) (fa_cons (fe_var 11) fa_nil) (al1 al0) (perm_lenG (by decide) rfl))))))))
    (fss_one (fs_ret (fe_and (fe_call c (O_law_same 8) (hr.mono (by decide)) m_law_same k_law_same b_law_same dfl0 rfl (fa_cons (fe_var 8) (fa_cons (fe_op or_mulU io_mul (fe_lst (fa_cons (fe_tup (fa_cons (fe_str [73, 110, 118, 97, 108, 105, 100, 84, 101, 120, 116]) (fa_cons (fe_tup (fa_cons fe_int fa_nil)) fa_nil))) fa_nil)) fe_int) fa_nil)) (al1 (al1 al0))) (fe_one (fe_call c (O_law_same 8) (hr.mono (by decide)) m_law_same k_law_same b_law_same dfl0 rfl (fa_cons (fe_why (k := 12) c Y_law_why xok_law_field xt0 z1000 er0 la (hr.mono (by decide)) (fun A outer s H E f c0 hr c => (fe_call c O_read_net (hr.mono (by decide)) m_read_net k_read_net b_read_net dfl0 rfl (fa_cons (fe_str []) fa_nil) (al1 al0)))) (fa_cons (fe_tup (fa_cons (fe_str [73, 110, 118, 97, 108, 105, 100, 84, 101, 120, 116]) (fa_cons (fe_tup (fa_cons fe_int fa_nil)) fa_nil))) fa_nil)) (al1 (al1 al0))))))))))))
  exact q
end
end K10

open PySem
open L2
open U
open K10
set_option maxHeartbeats 0 in
theorem all_mk {l : PySem.W.OpenLaw} {w : World} {K : PySem.W.Frag} {h : Heap} {mg : Str → Option Value} {fa : Addr} (X : K.In h) (G : h.Ns mainGlobals mg) (hfa : mg "law" = some (.ref fa)) (own : LamX.OwnTab K fa h) {C_Words : Addr} {C_UnopenedError : Addr} {C_Missing : Addr} {C_NothingLeft : Addr} {C_InvalidText xN_InvalidText : Addr} {xn_InvalidText xq_InvalidText : Str} {xb_InvalidText xm_InvalidText xu_InvalidText : List Value} {xs_InvalidText : List Str} {xa_InvalidText : Bool} {xo_InvalidText : Option Bool} {xd_InvalidText : Option Addr} {x0_InvalidText x1_InvalidText x2_InvalidText x3_InvalidText x5_InvalidText : Option Value} {C_Net : Addr} {sp_Net_read : Addr} {st_Net_read : List Value} {od0 an0 : Option Addr} {sl0 : Array (Option Value)} {oc0 kV0 dc0 pm0 cd0 ct0 : Value} {f_law_field : Addr} {od1 an1 : Option Addr} {sl1 : Array (Option Value)} {oc1 kV1 dc1 pm1 cd1 ct1 : Value} {f_law_why : Addr} {od2 an2 : Option Addr} {sl2 : Array (Option Value)} {oc2 kV2 dc2 pm2 ct2 : Value} {f_InvalidText___init : Addr} {cc2 cda2 : Addr} {ccl2 clc2 : Value} {cdd2 cld2 : Option Addr} {vs2 : Array Value} {ccs2 csl2 : Array (Option Value)} {file2 : Str} {tf2 : Tok} {od3 an3 : Option Addr} {sl3 : Array (Option Value)} {oc3 kV3 dc3 pm3 cd3 ct3 : Value} {f_Words___init : Addr} {od4 an4 : Option Addr} {sl4 : Array (Option Value)} {oc4 kV4 dc4 pm4 cd4 ct4 : Value} {f_Words_here : Addr} {od5 an5 : Option Addr} {sl5 : Array (Option Value)} {oc5 kV5 dc5 pm5 cd5 ct5 : Value} {f_Words_take : Addr} {od6 an6 : Option Addr} {sl6 : Array (Option Value)} {oc6 kV6 dc6 pm6 cd6 ct6 : Value} {f_is_name : Addr} {od7 an7 : Option Addr} {sl7 : Array (Option Value)} {oc7 kV7 dc7 pm7 cd7 ct7 : Value} {f_Words_take_name : Addr} {od8 an8 : Option Addr} {sl8 : Array (Option Value)} {oc8 kV8 dc8 pm8 cd8 ct8 : Value} {f_Words_take_names : Addr} {od9 an9 : Option Addr} {sl9 : Array (Option Value)} {oc9 kV9 dc9 pm9 cd9 ct9 : Value} {f_number_in : Addr} {od10 an10 : Option Addr} {sl10 : Array (Option Value)} {oc10 kV10 dc10 pm10 cd10 ct10 : Value} {f_Words_take_number : Addr} {od11 an11 : Option Addr} {sl11 : Array (Option Value)} {oc11 kV11 dc11 pm11 cd11 ct11 : Value} {f_Words_take_term : Addr} {od12 an12 : Option Addr} {sl12 : Array (Option Value)} {oc12 kV12 dc12 pm12 cd12 ct12 : Value} {f_Words_take_terms : Addr} {od13 an13 : Option Addr} {sl13 : Array (Option Value)} {oc13 kV13 dc13 pm13 cd13 ct13 : Value} {f_Words_take_part : Addr} {od14 an14 : Option Addr} {sl14 : Array (Option Value)} {oc14 kV14 dc14 pm14 cd14 ct14 : Value} {f_Words_take_net : Addr} {od15 an15 : Option Addr} {sl15 : Array (Option Value)} {oc15 kV15 dc15 pm15 cd15 ct15 : Value} {f_read_net : Addr} {od16 an16 : Option Addr} {sl16 : Array (Option Value)} {oc16 dc16 pm16 cd16 ct16 : Value} {f_Net_read : Addr} {D16 : Addr} {od17 an17 : Option Addr} {sl17 : Array (Option Value)} {oc17 kV17 dc17 pm17 cd17 ct17 : Value} {f_law_bag : Addr} {od18 an18 : Option Addr} {sl18 : Array (Option Value)} {oc18 kV18 dc18 pm18 cd18 ct18 : Value} {f_law_pull : Addr} {od19 an19 : Option Addr} {sl19 : Array (Option Value)} {oc19 kV19 dc19 pm19 cd19 ct19 : Value} {f_law_any : Addr} {od20 an20 : Option Addr} {sl20 : Array (Option Value)} {oc20 kV20 dc20 pm20 cd20 ct20 : Value} {f_law_bent : Addr} {od21 an21 : Option Addr} {sl21 : Array (Option Value)} {oc21 kV21 dc21 pm21 cd21 ct21 : Value} {f_law_boxes : Addr} {od22 an22 : Option Addr} {sl22 : Array (Option Value)} {oc22 kV22 dc22 pm22 cd22 ct22 : Value} {f_law_mixed : Addr} {od23 an23 : Option Addr} {sl23 : Array (Option Value)} {oc23 kV23 dc23 pm23 cd23 ct23 : Value} {f_law_names : Addr} {od24 an24 : Option Addr} {sl24 : Array (Option Value)} {oc24 kV24 dc24 pm24 cd24 ct24 : Value} {f_law_term : Addr} {od25 an25 : Option Addr} {sl25 : Array (Option Value)} {oc25 kV25 dc25 pm25 cd25 ct25 : Value} {f_law_part : Addr} {od26 an26 : Option Addr} {sl26 : Array (Option Value)} {oc26 kV26 dc26 pm26 cd26 ct26 : Value} {f_law_parts : Addr} {od27 an27 : Option Addr} {sl27 : Array (Option Value)} {oc27 kV27 dc27 pm27 cd27 ct27 : Value} {f_law_same : Addr} {od28 an28 : Option Addr} {sl28 : Array (Option Value)} {oc28 kV28 dc28 pm28 cd28 ct28 : Value} {f_law_part_words : Addr} {od29 an29 : Option Addr} {sl29 : Array (Option Value)} {oc29 kV29 dc29 pm29 cd29 ct29 : Value} {f_law_words_v : Addr} {od30 an30 : Option Addr} {sl30 : Array (Option Value)} {oc30 kV30 dc30 pm30 cd30 ct30 : Value} {f_law_is_name : Addr} {od31 an31 : Option Addr} {sl31 : Array (Option Value)} {oc31 kV31 dc31 pm31 cd31 ct31 : Value} {f_law_names_end : Addr} {od32 an32 : Option Addr} {sl32 : Array (Option Value)} {oc32 kV32 dc32 pm32 cd32 ct32 : Value} {f_law_mix_end : Addr} {od33 an33 : Option Addr} {sl33 : Array (Option Value)} {oc33 kV33 dc33 pm33 cd33 ct33 : Value} {f_law_part_end : Addr} {od34 an34 : Option Addr} {sl34 : Array (Option Value)} {oc34 kV34 dc34 pm34 cd34 ct34 : Value} {f_law_wrong_word : Addr} {od35 an35 : Option Addr} {sl35 : Array (Option Value)} {oc35 kV35 dc35 pm35 cd35 ct35 : Value} {f_term_words : Addr} {od36 an36 : Option Addr} {sl36 : Array (Option Value)} {oc36 kV36 dc36 pm36 cd36 ct36 : Value} {f_part_words : Addr} {od37 an37 : Option Addr} {sl37 : Array (Option Value)} {oc37 kV37 dc37 pm37 cd37 ct37 : Value} {f_text_of : Addr} {od38 an38 : Option Addr} {sl38 : Array (Option Value)} {oc38 kV38 dc38 pm38 ct38 : Value} {f_law : Addr} {cL PL : Addr} {clL : Value} {ddL : Option Addr} {vsL : Array Value} {slcL : Array (Option Value)} {t_DELAY : Tok} {t_FACTOR : Tok} {t_LETTERS : Tok} {E_ENDS : Addr} {es_ENDS : Array DictEntry} {nn_ENDS : Nat} {t_ENDS_0 : Tok} {t_ENDS_1 : Tok} {t_ENDS_2 : Tok} {t_ENDS_3 : Tok}
    (aC_Words : PySem.W.nsIn K mainGlobals "Words" = some (some (.ref C_Words)))
    (pg_Words : PySem.W.plainGet K C_Words Str.empty = true)
    (hd_Words : PySem.W.hasDictIn K C_Words = true)
    (po_Words : PySem.W.plainOver K C_Words = true)
    (sa_Words : PySem.W.findIn K (.ref C_Words) "__setattr__" = some (some (.builtin "object.__setattr__")))
    (mk_Words : PySem.W.makesIn K C_Words = true)
    (kc_Words : PySem.W.keepIn K (.ref C_Words) = true)
    (nf_Words_spot : PySem.W.findIn K (.ref C_Words) "spot" = some none)
    (nf_Words_words : PySem.W.findIn K (.ref C_Words) "words" = some none)
    (aC_UnopenedError : PySem.W.nsIn K mainGlobals "UnopenedError" = some (some (.ref C_UnopenedError)))
    (aC_Missing : PySem.W.nsIn K mainGlobals "Missing" = some (some (.ref C_Missing)))
    (aC_NothingLeft : PySem.W.nsIn K mainGlobals "NothingLeft" = some (some (.ref C_NothingLeft)))
    (aC_InvalidText : PySem.W.nsIn K mainGlobals "InvalidText" = some (some (.ref C_InvalidText)))
    (xl_InvalidText : K.lookup C_InvalidText = some (excClassObj xn_InvalidText xq_InvalidText C_InvalidText xN_InvalidText xb_InvalidText xm_InvalidText true xs_InvalidText xu_InvalidText xa_InvalidText xo_InvalidText xd_InvalidText x0_InvalidText x1_InvalidText x2_InvalidText x3_InvalidText x5_InvalidText "ValueError.__new__"))
    (xv_InvalidText : PySem.HandSPX.refsVE xm_InvalidText = true)
    (xsa_InvalidText : PySem.W.findIn K (.ref C_InvalidText) "__setattr__" = some (some (.builtin "object.__setattr__")))
    (xex_InvalidText : PySem.W.subIn K (.ref C_InvalidText) (.type "BaseException") = some true)
    (xty_InvalidText : PySem.W.typeIn K (.ref C_InvalidText) = some (.type "type"))
    (xk_InvalidText : PySem.W.keepIn K (.ref C_InvalidText) = true)
    (xga_InvalidText : PySem.W.findIn K (.ref C_InvalidText) "__getattribute__" = some (some (.builtin "BaseException.__getattribute__")))
    (xgg_InvalidText : PySem.W.findIn K (.ref C_InvalidText) "__getattr__" = some none)
    (xhd_InvalidText : PySem.W.hasDictIn K C_InvalidText = true)
    (xf_InvalidText_word : PySem.W.findIn K (.ref C_InvalidText) "word" = some none)
    (xf_InvalidText_code : PySem.W.findIn K (.ref C_InvalidText) "code" = some none)
    (xm3_InvalidText : PySem.W.exmAny K (.ref C_InvalidText) [.ref C_UnopenedError, .ref C_Missing, .ref C_NothingLeft] = some true)
    (xsub_InvalidText : PySem.W.mroIn K C_InvalidText (.ref C_InvalidText) = some true)
    (xat_InvalidText : PySem.W.ks_superIn K C_InvalidText C_InvalidText "__init__" = some (some (.builtin "ValueError.__init__")))
    (xis_InvalidText : PySem.W.mroIn K C_InvalidText (.type "ValueError") = some true)
    (fi_InvalidText___init__ : PySem.W.findIn K (.ref C_InvalidText) "__init__" = some (some (.ref f_InvalidText___init)))
    (xt_InvalidText___init : PySem.W.typeIn K (.ref f_InvalidText___init) = some (.type "function"))
    (aC_Net : PySem.W.nsIn K mainGlobals "Net" = some (some (.ref C_Net)))
    (sr_Net : PySem.W.readsIn K C_Net (.type "type") = true)
    (sg_Net : PySem.W.specialIn K (.ref C_Net) "__getattribute__" = some (some (.builtin "type.__getattribute__")))
    (sf_Net_read : PySem.W.findCls K (.ref C_Net) (.type "type") "read" = some (.get (.builtin "staticmethod.__get__") (.ref sp_Net_read) .none (.ref C_Net)))
    (sx_Net_read : PySem.W.recIn K sp_Net_read "staticmethod" = some (.ref f_Net_read :: st_Net_read))
    (a0 : PySem.W.nsIn K mainGlobals "_law_field" = some (some (.ref f_law_field)))
    (l0 : K.lookup f_law_field = some ⟨oc0, od0, .func (PySem.W.fnOf "_law_field" "_law_field" (defArgs s_law_field) (defBody s_law_field) (defScope s_law_field) .none kV0 dc0 pm0 an0 cd0 ct0), sl0⟩)
    (c0 : PySem.W.codeIn K cd0 "_law_field" = true)
    (k0 : PySem.W.keepIn K (.ref f_law_field) = true)
    (a1 : PySem.W.nsIn K mainGlobals "_law_why" = some (some (.ref f_law_why)))
    (l1 : K.lookup f_law_why = some ⟨oc1, od1, .func (PySem.W.fnOf "_law_why" "_law_why" (defArgs s_law_why) (defBody s_law_why) (defScope s_law_why) .none kV1 dc1 pm1 an1 cd1 ct1), sl1⟩)
    (c1 : PySem.W.codeIn K cd1 "_law_why" = true)
    (k1 : PySem.W.keepIn K (.ref f_law_why) = true)
    (l2 : K.lookup f_InvalidText___init = some ⟨oc2, od2, .func (PySem.W.ksFn "__init__" "InvalidText.__init__" (defArgs s_InvalidText___init) (defBody s_InvalidText___init) (defScope s_InvalidText___init) .none kV2 dc2 pm2 an2 (.ref cda2) ct2 cc2), sl2⟩)
    (c2 : PySem.W.codeIn K (.ref cda2) "InvalidText.__init__" = true)
    (lcd2 : K.lookup cda2 = some ⟨ccl2, cdd2, .fields vs2, ccs2⟩)
    (hv2 : vs2[2]? = some (.str file2 tf2))
    (hf2 : ((l.prog.main.file : Str) == file2) = true)
    (lcc2 : K.lookup cc2 = some ⟨clc2, cld2, .cell (some (.ref C_InvalidText)), csl2⟩)
    (k2 : PySem.W.keepIn K (.ref f_InvalidText___init) = true)
    (fi_Words___init__ : PySem.W.findIn K (.ref C_Words) "__init__" = some (some (.ref f_Words___init)))
    (fn_Words___init : PySem.W.isFn K (.ref f_Words___init) = true)
    (l3 : K.lookup f_Words___init = some ⟨oc3, od3, .func (PySem.W.fnOf "__init__" "Words.__init__" (defArgs s_Words___init) (defBody s_Words___init) (defScope s_Words___init) .none kV3 dc3 pm3 an3 cd3 ct3), sl3⟩)
    (c3 : PySem.W.codeIn K cd3 "Words.__init__" = true)
    (k3 : PySem.W.keepIn K (.ref f_Words___init) = true)
    (fi_Words_here : PySem.W.findIn K (.ref C_Words) "here" = some (some (.ref f_Words_here)))
    (fn_Words_here : PySem.W.isFn K (.ref f_Words_here) = true)
    (l4 : K.lookup f_Words_here = some ⟨oc4, od4, .func (PySem.W.fnOf "here" "Words.here" (defArgs s_Words_here) (defBody s_Words_here) (defScope s_Words_here) .none kV4 dc4 pm4 an4 cd4 ct4), sl4⟩)
    (c4 : PySem.W.codeIn K cd4 "Words.here" = true)
    (k4 : PySem.W.keepIn K (.ref f_Words_here) = true)
    (fi_Words_take : PySem.W.findIn K (.ref C_Words) "take" = some (some (.ref f_Words_take)))
    (fn_Words_take : PySem.W.isFn K (.ref f_Words_take) = true)
    (l5 : K.lookup f_Words_take = some ⟨oc5, od5, .func (PySem.W.fnOf "take" "Words.take" (defArgs s_Words_take) (defBody s_Words_take) (defScope s_Words_take) .none kV5 dc5 pm5 an5 cd5 ct5), sl5⟩)
    (c5 : PySem.W.codeIn K cd5 "Words.take" = true)
    (k5 : PySem.W.keepIn K (.ref f_Words_take) = true)
    (a6 : PySem.W.nsIn K mainGlobals "is_name" = some (some (.ref f_is_name)))
    (l6 : K.lookup f_is_name = some ⟨oc6, od6, .func (PySem.W.fnOf "is_name" "is_name" (defArgs s_is_name) (defBody s_is_name) (defScope s_is_name) .none kV6 dc6 pm6 an6 cd6 ct6), sl6⟩)
    (c6 : PySem.W.codeIn K cd6 "is_name" = true)
    (k6 : PySem.W.keepIn K (.ref f_is_name) = true)
    (fi_Words_take_name : PySem.W.findIn K (.ref C_Words) "take_name" = some (some (.ref f_Words_take_name)))
    (fn_Words_take_name : PySem.W.isFn K (.ref f_Words_take_name) = true)
    (l7 : K.lookup f_Words_take_name = some ⟨oc7, od7, .func (PySem.W.fnOf "take_name" "Words.take_name" (defArgs s_Words_take_name) (defBody s_Words_take_name) (defScope s_Words_take_name) .none kV7 dc7 pm7 an7 cd7 ct7), sl7⟩)
    (c7 : PySem.W.codeIn K cd7 "Words.take_name" = true)
    (k7 : PySem.W.keepIn K (.ref f_Words_take_name) = true)
    (fi_Words_take_names : PySem.W.findIn K (.ref C_Words) "take_names" = some (some (.ref f_Words_take_names)))
    (fn_Words_take_names : PySem.W.isFn K (.ref f_Words_take_names) = true)
    (l8 : K.lookup f_Words_take_names = some ⟨oc8, od8, .func (PySem.W.fnOf "take_names" "Words.take_names" (defArgs s_Words_take_names) (defBody s_Words_take_names) (defScope s_Words_take_names) .none kV8 dc8 pm8 an8 cd8 ct8), sl8⟩)
    (c8 : PySem.W.codeIn K cd8 "Words.take_names" = true)
    (k8 : PySem.W.keepIn K (.ref f_Words_take_names) = true)
    (a9 : PySem.W.nsIn K mainGlobals "number_in" = some (some (.ref f_number_in)))
    (l9 : K.lookup f_number_in = some ⟨oc9, od9, .func (PySem.W.fnOf "number_in" "number_in" (defArgs s_number_in) (defBody s_number_in) (defScope s_number_in) .none kV9 dc9 pm9 an9 cd9 ct9), sl9⟩)
    (c9 : PySem.W.codeIn K cd9 "number_in" = true)
    (k9 : PySem.W.keepIn K (.ref f_number_in) = true)
    (fi_Words_take_number : PySem.W.findIn K (.ref C_Words) "take_number" = some (some (.ref f_Words_take_number)))
    (fn_Words_take_number : PySem.W.isFn K (.ref f_Words_take_number) = true)
    (l10 : K.lookup f_Words_take_number = some ⟨oc10, od10, .func (PySem.W.fnOf "take_number" "Words.take_number" (defArgs s_Words_take_number) (defBody s_Words_take_number) (defScope s_Words_take_number) .none kV10 dc10 pm10 an10 cd10 ct10), sl10⟩)
    (c10 : PySem.W.codeIn K cd10 "Words.take_number" = true)
    (k10 : PySem.W.keepIn K (.ref f_Words_take_number) = true)
    (fi_Words_take_term : PySem.W.findIn K (.ref C_Words) "take_term" = some (some (.ref f_Words_take_term)))
    (fn_Words_take_term : PySem.W.isFn K (.ref f_Words_take_term) = true)
    (l11 : K.lookup f_Words_take_term = some ⟨oc11, od11, .func (PySem.W.fnOf "take_term" "Words.take_term" (defArgs s_Words_take_term) (defBody s_Words_take_term) (defScope s_Words_take_term) .none kV11 dc11 pm11 an11 cd11 ct11), sl11⟩)
    (c11 : PySem.W.codeIn K cd11 "Words.take_term" = true)
    (k11 : PySem.W.keepIn K (.ref f_Words_take_term) = true)
    (fi_Words_take_terms : PySem.W.findIn K (.ref C_Words) "take_terms" = some (some (.ref f_Words_take_terms)))
    (fn_Words_take_terms : PySem.W.isFn K (.ref f_Words_take_terms) = true)
    (l12 : K.lookup f_Words_take_terms = some ⟨oc12, od12, .func (PySem.W.fnOf "take_terms" "Words.take_terms" (defArgs s_Words_take_terms) (defBody s_Words_take_terms) (defScope s_Words_take_terms) .none kV12 dc12 pm12 an12 cd12 ct12), sl12⟩)
    (c12 : PySem.W.codeIn K cd12 "Words.take_terms" = true)
    (k12 : PySem.W.keepIn K (.ref f_Words_take_terms) = true)
    (fi_Words_take_part : PySem.W.findIn K (.ref C_Words) "take_part" = some (some (.ref f_Words_take_part)))
    (fn_Words_take_part : PySem.W.isFn K (.ref f_Words_take_part) = true)
    (l13 : K.lookup f_Words_take_part = some ⟨oc13, od13, .func (PySem.W.fnOf "take_part" "Words.take_part" (defArgs s_Words_take_part) (defBody s_Words_take_part) (defScope s_Words_take_part) .none kV13 dc13 pm13 an13 cd13 ct13), sl13⟩)
    (c13 : PySem.W.codeIn K cd13 "Words.take_part" = true)
    (k13 : PySem.W.keepIn K (.ref f_Words_take_part) = true)
    (fi_Words_take_net : PySem.W.findIn K (.ref C_Words) "take_net" = some (some (.ref f_Words_take_net)))
    (fn_Words_take_net : PySem.W.isFn K (.ref f_Words_take_net) = true)
    (l14 : K.lookup f_Words_take_net = some ⟨oc14, od14, .func (PySem.W.fnOf "take_net" "Words.take_net" (defArgs s_Words_take_net) (defBody s_Words_take_net) (defScope s_Words_take_net) .none kV14 dc14 pm14 an14 cd14 ct14), sl14⟩)
    (c14 : PySem.W.codeIn K cd14 "Words.take_net" = true)
    (k14 : PySem.W.keepIn K (.ref f_Words_take_net) = true)
    (a15 : PySem.W.nsIn K mainGlobals "read_net" = some (some (.ref f_read_net)))
    (l15 : K.lookup f_read_net = some ⟨oc15, od15, .func (PySem.W.fnOf "read_net" "read_net" (defArgs s_read_net) (defBody s_read_net) (defScope s_read_net) .none kV15 dc15 pm15 an15 cd15 ct15), sl15⟩)
    (c15 : PySem.W.codeIn K cd15 "read_net" = true)
    (k15 : PySem.W.keepIn K (.ref f_read_net) = true)
    (l16 : K.lookup f_Net_read = some ⟨oc16, od16, .func (PySem.W.fnOf "read" "Net.read" (defArgs s_Net_read) (defBody s_Net_read) (defScope s_Net_read) .none (.ref D16) dc16 pm16 an16 cd16 ct16), sl16⟩)
    (lk16_0 : PySem.W.nsIn K D16 "pieces" = some (some (.none)))
    (c16 : PySem.W.codeIn K cd16 "Net.read" = true)
    (k16 : PySem.W.keepIn K (.ref f_Net_read) = true)
    (a17 : PySem.W.nsIn K mainGlobals "_law_bag" = some (some (.ref f_law_bag)))
    (l17 : K.lookup f_law_bag = some ⟨oc17, od17, .func (PySem.W.fnOf "_law_bag" "_law_bag" (defArgs s_law_bag) (defBody s_law_bag) (defScope s_law_bag) .none kV17 dc17 pm17 an17 cd17 ct17), sl17⟩)
    (c17 : PySem.W.codeIn K cd17 "_law_bag" = true)
    (k17 : PySem.W.keepIn K (.ref f_law_bag) = true)
    (a18 : PySem.W.nsIn K mainGlobals "_law_pull" = some (some (.ref f_law_pull)))
    (l18 : K.lookup f_law_pull = some ⟨oc18, od18, .func (PySem.W.fnOf "_law_pull" "_law_pull" (defArgs s_law_pull) (defBody s_law_pull) (defScope s_law_pull) .none kV18 dc18 pm18 an18 cd18 ct18), sl18⟩)
    (c18 : PySem.W.codeIn K cd18 "_law_pull" = true)
    (k18 : PySem.W.keepIn K (.ref f_law_pull) = true)
    (a19 : PySem.W.nsIn K mainGlobals "_law_any" = some (some (.ref f_law_any)))
    (l19 : K.lookup f_law_any = some ⟨oc19, od19, .func (PySem.W.fnOf "_law_any" "_law_any" (defArgs s_law_any) (defBody s_law_any) (defScope s_law_any) .none kV19 dc19 pm19 an19 cd19 ct19), sl19⟩)
    (c19 : PySem.W.codeIn K cd19 "_law_any" = true)
    (k19 : PySem.W.keepIn K (.ref f_law_any) = true)
    (a20 : PySem.W.nsIn K mainGlobals "_law_bent" = some (some (.ref f_law_bent)))
    (l20 : K.lookup f_law_bent = some ⟨oc20, od20, .func (PySem.W.fnOf "_law_bent" "_law_bent" (defArgs s_law_bent) (defBody s_law_bent) (defScope s_law_bent) .none kV20 dc20 pm20 an20 cd20 ct20), sl20⟩)
    (c20 : PySem.W.codeIn K cd20 "_law_bent" = true)
    (k20 : PySem.W.keepIn K (.ref f_law_bent) = true)
    (a21 : PySem.W.nsIn K mainGlobals "_law_boxes" = some (some (.ref f_law_boxes)))
    (l21 : K.lookup f_law_boxes = some ⟨oc21, od21, .func (PySem.W.fnOf "_law_boxes" "_law_boxes" (defArgs s_law_boxes) (defBody s_law_boxes) (defScope s_law_boxes) .none kV21 dc21 pm21 an21 cd21 ct21), sl21⟩)
    (c21 : PySem.W.codeIn K cd21 "_law_boxes" = true)
    (k21 : PySem.W.keepIn K (.ref f_law_boxes) = true)
    (a22 : PySem.W.nsIn K mainGlobals "_law_mixed" = some (some (.ref f_law_mixed)))
    (l22 : K.lookup f_law_mixed = some ⟨oc22, od22, .func (PySem.W.fnOf "_law_mixed" "_law_mixed" (defArgs s_law_mixed) (defBody s_law_mixed) (defScope s_law_mixed) .none kV22 dc22 pm22 an22 cd22 ct22), sl22⟩)
    (c22 : PySem.W.codeIn K cd22 "_law_mixed" = true)
    (k22 : PySem.W.keepIn K (.ref f_law_mixed) = true)
    (a23 : PySem.W.nsIn K mainGlobals "_law_names" = some (some (.ref f_law_names)))
    (l23 : K.lookup f_law_names = some ⟨oc23, od23, .func (PySem.W.fnOf "_law_names" "_law_names" (defArgs s_law_names) (defBody s_law_names) (defScope s_law_names) .none kV23 dc23 pm23 an23 cd23 ct23), sl23⟩)
    (c23 : PySem.W.codeIn K cd23 "_law_names" = true)
    (k23 : PySem.W.keepIn K (.ref f_law_names) = true)
    (a24 : PySem.W.nsIn K mainGlobals "_law_term" = some (some (.ref f_law_term)))
    (l24 : K.lookup f_law_term = some ⟨oc24, od24, .func (PySem.W.fnOf "_law_term" "_law_term" (defArgs s_law_term) (defBody s_law_term) (defScope s_law_term) .none kV24 dc24 pm24 an24 cd24 ct24), sl24⟩)
    (c24 : PySem.W.codeIn K cd24 "_law_term" = true)
    (k24 : PySem.W.keepIn K (.ref f_law_term) = true)
    (a25 : PySem.W.nsIn K mainGlobals "_law_part" = some (some (.ref f_law_part)))
    (l25 : K.lookup f_law_part = some ⟨oc25, od25, .func (PySem.W.fnOf "_law_part" "_law_part" (defArgs s_law_part) (defBody s_law_part) (defScope s_law_part) .none kV25 dc25 pm25 an25 cd25 ct25), sl25⟩)
    (c25 : PySem.W.codeIn K cd25 "_law_part" = true)
    (k25 : PySem.W.keepIn K (.ref f_law_part) = true)
    (a26 : PySem.W.nsIn K mainGlobals "_law_parts" = some (some (.ref f_law_parts)))
    (l26 : K.lookup f_law_parts = some ⟨oc26, od26, .func (PySem.W.fnOf "_law_parts" "_law_parts" (defArgs s_law_parts) (defBody s_law_parts) (defScope s_law_parts) .none kV26 dc26 pm26 an26 cd26 ct26), sl26⟩)
    (c26 : PySem.W.codeIn K cd26 "_law_parts" = true)
    (k26 : PySem.W.keepIn K (.ref f_law_parts) = true)
    (a27 : PySem.W.nsIn K mainGlobals "_law_same" = some (some (.ref f_law_same)))
    (l27 : K.lookup f_law_same = some ⟨oc27, od27, .func (PySem.W.fnOf "_law_same" "_law_same" (defArgs s_law_same) (defBody s_law_same) (defScope s_law_same) .none kV27 dc27 pm27 an27 cd27 ct27), sl27⟩)
    (c27 : PySem.W.codeIn K cd27 "_law_same" = true)
    (k27 : PySem.W.keepIn K (.ref f_law_same) = true)
    (a28 : PySem.W.nsIn K mainGlobals "_law_part_words" = some (some (.ref f_law_part_words)))
    (l28 : K.lookup f_law_part_words = some ⟨oc28, od28, .func (PySem.W.fnOf "_law_part_words" "_law_part_words" (defArgs s_law_part_words) (defBody s_law_part_words) (defScope s_law_part_words) .none kV28 dc28 pm28 an28 cd28 ct28), sl28⟩)
    (c28 : PySem.W.codeIn K cd28 "_law_part_words" = true)
    (k28 : PySem.W.keepIn K (.ref f_law_part_words) = true)
    (a29 : PySem.W.nsIn K mainGlobals "_law_words" = some (some (.ref f_law_words_v)))
    (l29 : K.lookup f_law_words_v = some ⟨oc29, od29, .func (PySem.W.fnOf "_law_words" "_law_words" (defArgs s_law_words_v) (defBody s_law_words_v) (defScope s_law_words_v) .none kV29 dc29 pm29 an29 cd29 ct29), sl29⟩)
    (c29 : PySem.W.codeIn K cd29 "_law_words" = true)
    (k29 : PySem.W.keepIn K (.ref f_law_words_v) = true)
    (a30 : PySem.W.nsIn K mainGlobals "_law_is_name" = some (some (.ref f_law_is_name)))
    (l30 : K.lookup f_law_is_name = some ⟨oc30, od30, .func (PySem.W.fnOf "_law_is_name" "_law_is_name" (defArgs s_law_is_name) (defBody s_law_is_name) (defScope s_law_is_name) .none kV30 dc30 pm30 an30 cd30 ct30), sl30⟩)
    (c30 : PySem.W.codeIn K cd30 "_law_is_name" = true)
    (k30 : PySem.W.keepIn K (.ref f_law_is_name) = true)
    (a31 : PySem.W.nsIn K mainGlobals "_law_names_end" = some (some (.ref f_law_names_end)))
    (l31 : K.lookup f_law_names_end = some ⟨oc31, od31, .func (PySem.W.fnOf "_law_names_end" "_law_names_end" (defArgs s_law_names_end) (defBody s_law_names_end) (defScope s_law_names_end) .none kV31 dc31 pm31 an31 cd31 ct31), sl31⟩)
    (c31 : PySem.W.codeIn K cd31 "_law_names_end" = true)
    (k31 : PySem.W.keepIn K (.ref f_law_names_end) = true)
    (a32 : PySem.W.nsIn K mainGlobals "_law_mix_end" = some (some (.ref f_law_mix_end)))
    (l32 : K.lookup f_law_mix_end = some ⟨oc32, od32, .func (PySem.W.fnOf "_law_mix_end" "_law_mix_end" (defArgs s_law_mix_end) (defBody s_law_mix_end) (defScope s_law_mix_end) .none kV32 dc32 pm32 an32 cd32 ct32), sl32⟩)
    (c32 : PySem.W.codeIn K cd32 "_law_mix_end" = true)
    (k32 : PySem.W.keepIn K (.ref f_law_mix_end) = true)
    (a33 : PySem.W.nsIn K mainGlobals "_law_part_end" = some (some (.ref f_law_part_end)))
    (l33 : K.lookup f_law_part_end = some ⟨oc33, od33, .func (PySem.W.fnOf "_law_part_end" "_law_part_end" (defArgs s_law_part_end) (defBody s_law_part_end) (defScope s_law_part_end) .none kV33 dc33 pm33 an33 cd33 ct33), sl33⟩)
    (c33 : PySem.W.codeIn K cd33 "_law_part_end" = true)
    (k33 : PySem.W.keepIn K (.ref f_law_part_end) = true)
    (a34 : PySem.W.nsIn K mainGlobals "_law_wrong_word" = some (some (.ref f_law_wrong_word)))
    (l34 : K.lookup f_law_wrong_word = some ⟨oc34, od34, .func (PySem.W.fnOf "_law_wrong_word" "_law_wrong_word" (defArgs s_law_wrong_word) (defBody s_law_wrong_word) (defScope s_law_wrong_word) .none kV34 dc34 pm34 an34 cd34 ct34), sl34⟩)
    (c34 : PySem.W.codeIn K cd34 "_law_wrong_word" = true)
    (k34 : PySem.W.keepIn K (.ref f_law_wrong_word) = true)
    (a35 : PySem.W.nsIn K mainGlobals "term_words" = some (some (.ref f_term_words)))
    (l35 : K.lookup f_term_words = some ⟨oc35, od35, .func (PySem.W.fnOf "term_words" "term_words" (defArgs s_term_words) (defBody s_term_words) (defScope s_term_words) .none kV35 dc35 pm35 an35 cd35 ct35), sl35⟩)
    (c35 : PySem.W.codeIn K cd35 "term_words" = true)
    (k35 : PySem.W.keepIn K (.ref f_term_words) = true)
    (a36 : PySem.W.nsIn K mainGlobals "part_words" = some (some (.ref f_part_words)))
    (l36 : K.lookup f_part_words = some ⟨oc36, od36, .func (PySem.W.fnOf "part_words" "part_words" (defArgs s_part_words) (defBody s_part_words) (defScope s_part_words) .none kV36 dc36 pm36 an36 cd36 ct36), sl36⟩)
    (c36 : PySem.W.codeIn K cd36 "part_words" = true)
    (k36 : PySem.W.keepIn K (.ref f_part_words) = true)
    (a37 : PySem.W.nsIn K mainGlobals "text_of" = some (some (.ref f_text_of)))
    (l37 : K.lookup f_text_of = some ⟨oc37, od37, .func (PySem.W.fnOf "text_of" "text_of" (defArgs s_text_of) (defBody s_text_of) (defScope s_text_of) .none kV37 dc37 pm37 an37 cd37 ct37), sl37⟩)
    (c37 : PySem.W.codeIn K cd37 "text_of" = true)
    (k37 : PySem.W.keepIn K (.ref f_text_of) = true)
    (a38 : PySem.W.nsIn K mainGlobals "law" = some (some (.ref f_law)))
    (l38 : K.lookup f_law = some ⟨oc38, od38, .func (PySem.W.fnOf "law" "law" (defArgs s_law) (defBody s_law) (defScope s_law) .none kV38 dc38 pm38 an38 (.ref cL) ct38), sl38⟩)
    (c38 : PySem.W.codeIn K (.ref cL) "law" = true)
    (lcL : K.lookup cL = some ⟨clL, ddL, .fields vsL, slcL⟩)
    (hvL : vsL[11]? = some (.ref PL))
    (chL : PySem.W.codeHdIn K cL PL = true)
    (npL : K.lookup PL = none)
    (k38 : PySem.W.keepIn K (.ref f_law) = true)
    (ic_InvalidText : PySem.W.isClsIn K C_InvalidText = true)
    (op_any : PySem.W.nsIn K cStatics "thirdparty.any" = some none)
    (htop : (l.prog.main.scope.names.lookup ("super" : Str)).isSome = false)
    (z_all : PySem.W.nsIn K mainGlobals "all" = some none)
    (z_bool : PySem.W.nsIn K mainGlobals "bool" = some none)
    (z_enumerate : PySem.W.nsIn K mainGlobals "enumerate" = some none)
    (z_int : PySem.W.nsIn K mainGlobals "int" = some none)
    (z_isinstance : PySem.W.nsIn K mainGlobals "isinstance" = some none)
    (z_len : PySem.W.nsIn K mainGlobals "len" = some none)
    (z_list : PySem.W.nsIn K mainGlobals "list" = some none)
    (z_max : PySem.W.nsIn K mainGlobals "max" = some none)
    (z_range : PySem.W.nsIn K mainGlobals "range" = some none)
    (z_str : PySem.W.nsIn K mainGlobals "str" = some none)
    (z_tuple : PySem.W.nsIn K mainGlobals "tuple" = some none)
    (z_zip : PySem.W.nsIn K mainGlobals "zip" = some none)
    (z_super : PySem.W.nsIn K mainGlobals "super" = some none)
    (y_DELAY : PySem.W.nsIn K mainGlobals "DELAY" = some (some (.int 4 t_DELAY)))
    (y_FACTOR : PySem.W.nsIn K mainGlobals "FACTOR" = some (some (.int 99 t_FACTOR)))
    (y_LETTERS : PySem.W.nsIn K mainGlobals "LETTERS" = some (some (.str "abcdefghijklmnopqrstuvwxyz" t_LETTERS)))
    (y_ENDS : PySem.W.nsIn K mainGlobals "ENDS" = some (some (.ref E_ENDS)))
    (lk_ENDS : K.lookup E_ENDS = some ⟨.type "dict", none, .dict es_ENDS nn_ENDS, #[]⟩)
    (kl_ENDS : PySem.W.KeysLit w.params es_ENDS.toList)
    (sy_ENDS : (E_ENDS == sysModules) = false)
    (kk_ENDS : KRow (es_ENDS.toList.map (·.key)) ([([112, 108, 97, 105, 110], 1), ([111, 100, 100], 1), ([107, 101, 101, 112], 1), ([112, 97, 105, 114], 2)] : List (List Nat × Int)))
    (kv_ENDS_0 : PySem.W.nsIn K E_ENDS "plain" = some (some (.int 1 t_ENDS_0)))
    (kv_ENDS_1 : PySem.W.nsIn K E_ENDS "odd" = some (some (.int 1 t_ENDS_1)))
    (kv_ENDS_2 : PySem.W.nsIn K E_ENDS "keep" = some (some (.int 1 t_ENDS_2)))
    (kv_ENDS_3 : PySem.W.nsIn K E_ENDS "pair" = some (some (.int 2 t_ENDS_3))) :
    LamX.LawAtS l w K (L2.CX l.prog w) 15 63 "_law_script" mg fa h := by
  have e := hfa.symm.trans (PySem.W.mg_of X G a38)
  cases e
  let T : Tx := ⟨K, fun n => ([C_Words, C_InvalidText] : List Addr)[n]?, fun n => ([["words", "spot"], ["word", "code"]] : List (List Str)).getD n [], [(PL, lamName "law")], none⟩
  have n_all := PySem.W.mg_none_of X G z_all
  have n_bool := PySem.W.mg_none_of X G z_bool
  have n_enumerate := PySem.W.mg_none_of X G z_enumerate
  have n_int := PySem.W.mg_none_of X G z_int
  have n_isinstance := PySem.W.mg_none_of X G z_isinstance
  have n_len := PySem.W.mg_none_of X G z_len
  have n_list := PySem.W.mg_none_of X G z_list
  have n_max := PySem.W.mg_none_of X G z_max
  have n_range := PySem.W.mg_none_of X G z_range
  have n_str := PySem.W.mg_none_of X G z_str
  have n_tuple := PySem.W.mg_none_of X G z_tuple
  have n_zip := PySem.W.mg_none_of X G z_zip
  have n_super := PySem.W.mg_none_of X G z_super
  have m_DELAY := PySem.W.mg_of X G y_DELAY
  have m_FACTOR := PySem.W.mg_of X G y_FACTOR
  have m_LETTERS := PySem.W.mg_of X G y_LETTERS
  have m_ENDS := PySem.W.mg_of X G y_ENDS
  have s_ENDS := sy_ENDS
  have kd_ENDS : ∀ q ∈ ([([112, 108, 97, 105, 110], 1), ([111, 100, 100], 1), ([107, 101, 101, 112], 1), ([112, 97, 105, 114], 2)] : List (List Nat × Int)), KDct K w E_ENDS ⟨q.1.toArray⟩ (.int q.2) := (row_cons (kdct_of "plain" [112, 108, 97, 105, 110] (by decide +kernel) lk_ENDS kl_ENDS kv_ENDS_0) (row_cons (kdct_of "odd" [111, 100, 100] (by decide +kernel) lk_ENDS kl_ENDS kv_ENDS_1) (row_cons (kdct_of "keep" [107, 101, 101, 112] (by decide +kernel) lk_ENDS kl_ENDS kv_ENDS_2) (row_cons (kdct_of "pair" [112, 97, 105, 114] (by decide +kernel) lk_ENDS kl_ENDS kv_ENDS_3) row_nil))))
  have ka_ENDS : KAll K w E_ENDS ([([112, 108, 97, 105, 110], 1), ([111, 100, 100], 1), ([107, 101, 101, 112], 1), ([112, 97, 105, 114], 2)] : List (List Nat × Int)) := ⟨⟨_, _, lk_ENDS, kl_ENDS, kk_ENDS⟩⟩
  have mC_Words := PySem.W.mg_of X G aC_Words
  have cl_Words : Cls K C_Words := ⟨pg_Words, hd_Words, po_Words, sa_Words⟩
  have mC_UnopenedError := PySem.W.mg_of X G aC_UnopenedError
  have mC_Missing := PySem.W.mg_of X G aC_Missing
  have mC_NothingLeft := PySem.W.mg_of X G aC_NothingLeft
  have mC_InvalidText := PySem.W.mg_of X G aC_InvalidText
  have mC_Net := PySem.W.mg_of X G aC_Net
  have ox_InvalidText : OexC K C_InvalidText := ⟨⟨_, _, _, _, _, _, _, _, _, _, _, _, _, _, _, xl_InvalidText, xv_InvalidText⟩, xsa_InvalidText, xex_InvalidText, xty_InvalidText, xk_InvalidText⟩
  have xc_InvalidText : XfC K C_InvalidText := ⟨xga_InvalidText, xgg_InvalidText, xex_InvalidText, xhd_InvalidText⟩
  have m_law_field := PySem.W.mg_of X G a0
  have k_law_field := k0
  have D_law_field : Fun T.K "_law_field" "_law_field" s_law_field _ _ := fun_mk (st := s_law_field) l0 c0 k0
  have b_law_field := D_law_field.binds (ps := ["_law_e"]) fun _ _ _ _ _ _ us hl => match us, hl with | [_], _ => rfl
  have m_law_why := PySem.W.mg_of X G a1
  have k_law_why := k1
  have D_law_why : Fun T.K "_law_why" "_law_why" s_law_why _ _ := fun_mk (st := s_law_why) l1 c1 k1
  have b_law_why := D_law_why.binds (ps := ["_law_ask"]) fun _ _ _ _ _ _ us hl => match us, hl with | [_], _ => rfl
  have k_InvalidText___init := k2
  have D_InvalidText___init : FunS T.K l.prog "__init__" "InvalidText.__init__" s_InvalidText___init _ cc2 C_InvalidText _ := ⟨⟨_, _, _, _, _, _, _, _, _, _, rfl, l2, c2, _, _, _, _, _, _, _, rfl, lcd2, hv2, hf2⟩, ⟨_, _, _, lcc2⟩⟩
  have b_InvalidText___init : Binds K (PySem.W.ksFn "__init__" "InvalidText.__init__" (defArgs s_InvalidText___init) (defBody s_InvalidText___init) (defScope s_InvalidText___init) .none kV2 dc2 pm2 an2 (.ref cda2) ct2 cc2) ["self", "word"] [] := .all fun us hl => match us, hl with | [_, _], _ => rfl
  have k_Words___init := k3
  have D_Words___init : Fun T.K "__init__" "Words.__init__" s_Words___init _ _ := fun_mk (st := s_Words___init) l3 c3 k3
  have b_Words___init := D_Words___init.binds (ps := ["self", "text"]) fun _ _ _ _ _ _ us hl => match us, hl with | [_, _], _ => rfl
  have k_Words_here := k4
  have D_Words_here : Fun T.K "here" "Words.here" s_Words_here _ _ := fun_mk (st := s_Words_here) l4 c4 k4
  have b_Words_here := D_Words_here.binds (ps := ["self"]) fun _ _ _ _ _ _ us hl => match us, hl with | [_], _ => rfl
  have k_Words_take := k5
  have D_Words_take : Fun T.K "take" "Words.take" s_Words_take _ _ := fun_mk (st := s_Words_take) l5 c5 k5
  have b_Words_take := D_Words_take.binds (ps := ["self", "good"]) fun _ _ _ _ _ _ us hl => match us, hl with | [_, _], _ => rfl
  have m_is_name := PySem.W.mg_of X G a6
  have k_is_name := k6
  have D_is_name : Fun T.K "is_name" "is_name" s_is_name _ _ := fun_mk (st := s_is_name) l6 c6 k6
  have b_is_name := D_is_name.binds (ps := ["value"]) fun _ _ _ _ _ _ us hl => match us, hl with | [_], _ => rfl
  have k_Words_take_name := k7
  have D_Words_take_name : Fun T.K "take_name" "Words.take_name" s_Words_take_name _ _ := fun_mk (st := s_Words_take_name) l7 c7 k7
  have b_Words_take_name := D_Words_take_name.binds (ps := ["self"]) fun _ _ _ _ _ _ us hl => match us, hl with | [_], _ => rfl
  have k_Words_take_names := k8
  have D_Words_take_names : Fun T.K "take_names" "Words.take_names" s_Words_take_names _ _ := fun_mk (st := s_Words_take_names) l8 c8 k8
  have b_Words_take_names := D_Words_take_names.binds (ps := ["self", "most"]) fun _ _ _ _ _ _ us hl => match us, hl with | [_, _], _ => rfl
  have m_number_in := PySem.W.mg_of X G a9
  have k_number_in := k9
  have D_number_in : Fun T.K "number_in" "number_in" s_number_in _ _ := fun_mk (st := s_number_in) l9 c9 k9
  have b_number_in := D_number_in.binds (ps := ["word", "least", "most"]) fun _ _ _ _ _ _ us hl => match us, hl with | [_, _, _], _ => rfl
  have k_Words_take_number := k10
  have D_Words_take_number : Fun T.K "take_number" "Words.take_number" s_Words_take_number _ _ := fun_mk (st := s_Words_take_number) l10 c10 k10
  have b_Words_take_number := D_Words_take_number.binds (ps := ["self", "least", "most"]) fun _ _ _ _ _ _ us hl => match us, hl with | [_, _, _], _ => rfl
  have k_Words_take_term := k11
  have D_Words_take_term : Fun T.K "take_term" "Words.take_term" s_Words_take_term _ _ := fun_mk (st := s_Words_take_term) l11 c11 k11
  have b_Words_take_term := D_Words_take_term.binds (ps := ["self"]) fun _ _ _ _ _ _ us hl => match us, hl with | [_], _ => rfl
  have k_Words_take_terms := k12
  have D_Words_take_terms : Fun T.K "take_terms" "Words.take_terms" s_Words_take_terms _ _ := fun_mk (st := s_Words_take_terms) l12 c12 k12
  have b_Words_take_terms := D_Words_take_terms.binds (ps := ["self"]) fun _ _ _ _ _ _ us hl => match us, hl with | [_], _ => rfl
  have k_Words_take_part := k13
  have D_Words_take_part : Fun T.K "take_part" "Words.take_part" s_Words_take_part _ _ := fun_mk (st := s_Words_take_part) l13 c13 k13
  have b_Words_take_part := D_Words_take_part.binds (ps := ["self"]) fun _ _ _ _ _ _ us hl => match us, hl with | [_], _ => rfl
  have k_Words_take_net := k14
  have D_Words_take_net : Fun T.K "take_net" "Words.take_net" s_Words_take_net _ _ := fun_mk (st := s_Words_take_net) l14 c14 k14
  have b_Words_take_net := D_Words_take_net.binds (ps := ["self"]) fun _ _ _ _ _ _ us hl => match us, hl with | [_], _ => rfl
  have m_read_net := PySem.W.mg_of X G a15
  have k_read_net := k15
  have D_read_net : Fun T.K "read_net" "read_net" s_read_net _ _ := fun_mk (st := s_read_net) l15 c15 k15
  have b_read_net := D_read_net.binds (ps := ["text"]) fun _ _ _ _ _ _ us hl => match us, hl with | [_], _ => rfl
  have k_Net_read := k16
  have D_Net_read : FunD T.K "read" "Net.read" (defArgs s_Net_read) (defBody s_Net_read) (defScope s_Net_read) [] [("pieces", .non)] _ _ := ⟨⟨_, _, _, _, _, _, _, _, _, _, rfl, l16, c16, .inl ⟨rfl, rfl⟩, .inr ⟨_, rfl, (row_cons ⟨_, lk16_0, rfl⟩ row_nil)⟩⟩, k16⟩
  have m_law_bag := PySem.W.mg_of X G a17
  have k_law_bag := k17
  have D_law_bag : Fun T.K "_law_bag" "_law_bag" s_law_bag _ _ := fun_mk (st := s_law_bag) l17 c17 k17
  have b_law_bag := D_law_bag.binds (ps := ["_law_script"]) fun _ _ _ _ _ _ us hl => match us, hl with | [_], _ => rfl
  have m_law_pull := PySem.W.mg_of X G a18
  have k_law_pull := k18
  have D_law_pull : Fun T.K "_law_pull" "_law_pull" s_law_pull _ _ := fun_mk (st := s_law_pull) l18 c18 k18
  have b_law_pull := D_law_pull.binds (ps := ["_law_bag_here", "_law_many"]) fun _ _ _ _ _ _ us hl => match us, hl with | [_, _], _ => rfl
  have m_law_any := PySem.W.mg_of X G a19
  have k_law_any := k19
  have D_law_any : Fun T.K "_law_any" "_law_any" s_law_any _ _ := fun_mk (st := s_law_any) l19 c19 k19
  have b_law_any := D_law_any.binds (ps := ["_law_bag_here", "_law_things"]) fun _ _ _ _ _ _ us hl => match us, hl with | [_, _], _ => rfl
  have m_law_bent := PySem.W.mg_of X G a20
  have k_law_bent := k20
  have D_law_bent : Fun T.K "_law_bent" "_law_bent" s_law_bent _ _ := fun_mk (st := s_law_bent) l20 c20 k20
  have b_law_bent := D_law_bent.binds (ps := ["_law_bag_here", "_law_words_here", "_law_more"]) fun _ _ _ _ _ _ us hl => match us, hl with | [_, _, _], _ => rfl
  have m_law_boxes := PySem.W.mg_of X G a21
  have k_law_boxes := k21
  have D_law_boxes : Fun T.K "_law_boxes" "_law_boxes" s_law_boxes _ _ := fun_mk (st := s_law_boxes) l21 c21 k21
  have b_law_boxes := D_law_boxes.binds (ps := ["_law_bag_here", "_law_words_here"]) fun _ _ _ _ _ _ us hl => match us, hl with | [_, _], _ => rfl
  have m_law_mixed := PySem.W.mg_of X G a22
  have k_law_mixed := k22
  have D_law_mixed : Fun T.K "_law_mixed" "_law_mixed" s_law_mixed _ _ := fun_mk (st := s_law_mixed) l22 c22 k22
  have b_law_mixed := D_law_mixed.binds (ps := ["_law_bag_here", "_law_things"]) fun _ _ _ _ _ _ us hl => match us, hl with | [_, _], _ => rfl
  have m_law_names := PySem.W.mg_of X G a23
  have k_law_names := k23
  have D_law_names : Fun T.K "_law_names" "_law_names" s_law_names _ _ := fun_mk (st := s_law_names) l23 c23 k23
  have b_law_names := D_law_names.binds (ps := ["_law_bag_here", "_law_many"]) fun _ _ _ _ _ _ us hl => match us, hl with | [_, _], _ => rfl
  have m_law_term := PySem.W.mg_of X G a24
  have k_law_term := k24
  have D_law_term : Fun T.K "_law_term" "_law_term" s_law_term _ _ := fun_mk (st := s_law_term) l24 c24 k24
  have b_law_term := D_law_term.binds (ps := ["_law_bag_here", "_law_earlier", "_law_every"]) fun _ _ _ _ _ _ us hl => match us, hl with | [_, _, _], _ => rfl
  have m_law_part := PySem.W.mg_of X G a25
  have k_law_part := k25
  have D_law_part : Fun T.K "_law_part" "_law_part" s_law_part _ _ := fun_mk (st := s_law_part) l25 c25 k25
  have b_law_part := D_law_part.binds (ps := ["_law_bag_here", "_law_wire", "_law_earlier", "_law_every", "_law_boxes_here"]) fun _ _ _ _ _ _ us hl => match us, hl with | [_, _, _, _, _], _ => rfl
  have m_law_parts := PySem.W.mg_of X G a26
  have k_law_parts := k26
  have D_law_parts : Fun T.K "_law_parts" "_law_parts" s_law_parts _ _ := fun_mk (st := s_law_parts) l26 c26 k26
  have b_law_parts := D_law_parts.binds (ps := ["_law_bag_here", "_law_wires", "_law_sources", "_law_boxes_here"]) fun _ _ _ _ _ _ us hl => match us, hl with | [_, _, _, _], _ => rfl
  have m_law_same := PySem.W.mg_of X G a27
  have k_law_same := k27
  have D_law_same : Fun T.K "_law_same" "_law_same" s_law_same _ _ := fun_mk (st := s_law_same) l27 c27 k27
  have b_law_same := D_law_same.binds (ps := ["_law_found", "_law_due"]) fun _ _ _ _ _ _ us hl => match us, hl with | [_, _], _ => rfl
  have m_law_part_words := PySem.W.mg_of X G a28
  have k_law_part_words := k28
  have D_law_part_words : Fun T.K "_law_part_words" "_law_part_words" s_law_part_words _ _ := fun_mk (st := s_law_part_words) l28 c28 k28
  have b_law_part_words := D_law_part_words.binds (ps := ["_law_part_here"]) fun _ _ _ _ _ _ us hl => match us, hl with | [_], _ => rfl
  have m_law_words_v := PySem.W.mg_of X G a29
  have k_law_words_v := k29
  have D_law_words_v : Fun T.K "_law_words" "_law_words" s_law_words_v _ _ := fun_mk (st := s_law_words_v) l29 c29 k29
  have b_law_words_v := D_law_words_v.binds (ps := ["_law_parts_here", "_law_outs"]) fun _ _ _ _ _ _ us hl => match us, hl with | [_, _], _ => rfl
  have m_law_is_name := PySem.W.mg_of X G a30
  have k_law_is_name := k30
  have D_law_is_name : Fun T.K "_law_is_name" "_law_is_name" s_law_is_name _ _ := fun_mk (st := s_law_is_name) l30 c30 k30
  have b_law_is_name := D_law_is_name.binds (ps := ["_law_word"]) fun _ _ _ _ _ _ us hl => match us, hl with | [_], _ => rfl
  have m_law_names_end := PySem.W.mg_of X G a31
  have k_law_names_end := k31
  have D_law_names_end : Fun T.K "_law_names_end" "_law_names_end" s_law_names_end _ _ := fun_mk (st := s_law_names_end) l31 c31 k31
  have b_law_names_end := D_law_names_end.binds (ps := ["_law_words_here", "_law_at", "_law_most"]) fun _ _ _ _ _ _ us hl => match us, hl with | [_, _, _], _ => rfl
  have m_law_mix_end := PySem.W.mg_of X G a32
  have k_law_mix_end := k32
  have D_law_mix_end : Fun T.K "_law_mix_end" "_law_mix_end" s_law_mix_end _ _ := fun_mk (st := s_law_mix_end) l32 c32 k32
  have b_law_mix_end := D_law_mix_end.binds (ps := ["_law_words_here", "_law_at"]) fun _ _ _ _ _ _ us hl => match us, hl with | [_, _], _ => rfl
  have m_law_part_end := PySem.W.mg_of X G a33
  have k_law_part_end := k33
  have D_law_part_end : Fun T.K "_law_part_end" "_law_part_end" s_law_part_end _ _ := fun_mk (st := s_law_part_end) l33 c33 k33
  have b_law_part_end := D_law_part_end.binds (ps := ["_law_words_here", "_law_at"]) fun _ _ _ _ _ _ us hl => match us, hl with | [_, _], _ => rfl
  have m_law_wrong_word := PySem.W.mg_of X G a34
  have k_law_wrong_word := k34
  have D_law_wrong_word : Fun T.K "_law_wrong_word" "_law_wrong_word" s_law_wrong_word _ _ := fun_mk (st := s_law_wrong_word) l34 c34 k34
  have b_law_wrong_word := D_law_wrong_word.binds (ps := ["_law_words_here"]) fun _ _ _ _ _ _ us hl => match us, hl with | [_], _ => rfl
  have m_term_words := PySem.W.mg_of X G a35
  have k_term_words := k35
  have D_term_words : Fun T.K "term_words" "term_words" s_term_words _ _ := fun_mk (st := s_term_words) l35 c35 k35
  have b_term_words := D_term_words.binds (ps := ["term"]) fun _ _ _ _ _ _ us hl => match us, hl with | [_], _ => rfl
  have m_part_words := PySem.W.mg_of X G a36
  have k_part_words := k36
  have D_part_words : Fun T.K "part_words" "part_words" s_part_words _ _ := fun_mk (st := s_part_words) l36 c36 k36
  have b_part_words := D_part_words.binds (ps := ["part"]) fun _ _ _ _ _ _ us hl => match us, hl with | [_], _ => rfl
  have m_text_of := PySem.W.mg_of X G a37
  have k_text_of := k37
  have D_text_of : Fun T.K "text_of" "text_of" s_text_of _ _ := fun_mk (st := s_text_of) l37 c37 k37
  have b_text_of := D_text_of.binds (ps := ["parts", "outs"]) fun _ _ _ _ _ _ us hl => match us, hl with | [_, _], _ => rfl
  have m_law := PySem.W.mg_of X G a38
  have k_law := k38
  have D_law : FunL T.K "law" "law" s_law _ _ cL := ⟨⟨_, _, _, _, _, _, _, _, rfl, l38, c38⟩⟩
  have fo_spot : ∀ p ∈ ([(0, 1)] : List (Nat × Nat)), FldOk T "spot" p.1 p.2 := (row_cons (fldOk_of (l := ["words", "spot"]) rfl (by decide +kernel) fun C e => by cases (show some C_Words = some C from e); exact ⟨cl_Words, nf_Words_spot⟩) row_nil)
  have sf_spot : ∀ p ∈ ([(0, 1)] : List (Nat × Nat)), FldOk T "spot" p.1 p.2 ∧ (T.lay p.1).length < 1000 := (row_cons ⟨(fldOk_of (l := ["words", "spot"]) rfl (by decide +kernel) fun C e => by cases (show some C_Words = some C from e); exact ⟨cl_Words, nf_Words_spot⟩), (show (["words", "spot"] : List Str).length < 1000 from by decide)⟩ row_nil)
  have fo_words : ∀ p ∈ ([(0, 0)] : List (Nat × Nat)), FldOk T "words" p.1 p.2 := (row_cons (fldOk_of (l := ["words", "spot"]) rfl (by decide +kernel) fun C e => by cases (show some C_Words = some C from e); exact ⟨cl_Words, nf_Words_words⟩) row_nil)
  have sf_words : ∀ p ∈ ([(0, 0)] : List (Nat × Nat)), FldOk T "words" p.1 p.2 ∧ (T.lay p.1).length < 1000 := (row_cons ⟨(fldOk_of (l := ["words", "spot"]) rfl (by decide +kernel) fun C e => by cases (show some C_Words = some C from e); exact ⟨cl_Words, nf_Words_words⟩), (show (["words", "spot"] : List Str).length < 1000 from by decide)⟩ row_nil)
  refine ⟨PySem.W.fnOf "law" "law" (defArgs s_law) (defBody s_law) (defScope s_law) .none kV38 dc38 pm38 an38 (.ref cL) ct38, [(cL, PL)], spF T 1 F_law, fun p hp => by rw [List.mem_singleton.mp hp]; exact own cL PL _ _ _ _ _ _ l38 rfl rfl lcL hvL, fun p hp => by rw [List.mem_singleton.mp hp]; exact npL, fun p hp => by rw [List.mem_singleton.mp hp]; exact PySem.W.codeHd_of_K X chL, fun s v => .of_eq rfl, fun H a ns hl _ hH hS => (law_ok ns hl).elim fun G e => law_sp (T := T) (fun q hq => by rw [List.mem_singleton.mp hq]; exact LamX.TabS.nil (hH (cL, PL) (List.mem_singleton.mpr rfl))) rfl hS e, fun base _ _ hTB => ?_⟩
  have O_InvalidText___init := ok_InvalidText___init (P := l.prog) (w := w) (mg := mg) (base := base) (T := T) D_InvalidText___init (Option.isSome_iff_exists.mp ic_InvalidText) htop n_super ⟨ox_InvalidText, xsub_InvalidText, xat_InvalidText, xis_InvalidText, op_any⟩ xf_InvalidText_code xf_InvalidText_word
  have xf_at : ∀ p ∈ ([] : List (Nat × Nat)), XfOk T "at" p.1 p.2 := xf_nil
  have xf_code : ∀ p ∈ ([(1, 1)] : List (Nat × Nat)), XfOk T "code" p.1 p.2 := (row_cons (xfOk_of (T := T) (l := ["word", "code"]) rfl (by decide +kernel) fun C e => by cases (show some C_InvalidText = some C from e); exact ⟨xc_InvalidText, xf_InvalidText_code⟩) row_nil)
  have xf_key : ∀ p ∈ ([] : List (Nat × Nat)), XfOk T "key" p.1 p.2 := xf_nil
  have xf_limit : ∀ p ∈ ([] : List (Nat × Nat)), XfOk T "limit" p.1 p.2 := xf_nil
  have xf_line : ∀ p ∈ ([] : List (Nat × Nat)), XfOk T "line" p.1 p.2 := xf_nil
  have xf_most : ∀ p ∈ ([] : List (Nat × Nat)), XfOk T "most" p.1 p.2 := xf_nil
  have xf_name : ∀ p ∈ ([] : List (Nat × Nat)), XfOk T "name" p.1 p.2 := xf_nil
  have xf_order : ∀ p ∈ ([] : List (Nat × Nat)), XfOk T "order" p.1 p.2 := xf_nil
  have xf_piece : ∀ p ∈ ([] : List (Nat × Nat)), XfOk T "piece" p.1 p.2 := xf_nil
  have xf_place : ∀ p ∈ ([] : List (Nat × Nat)), XfOk T "place" p.1 p.2 := xf_nil
  have xf_subject : ∀ p ∈ ([] : List (Nat × Nat)), XfOk T "subject" p.1 p.2 := xf_nil
  have xf_user : ∀ p ∈ ([] : List (Nat × Nat)), XfOk T "user" p.1 p.2 := xf_nil
  have xf_value : ∀ p ∈ ([] : List (Nat × Nat)), XfOk T "value" p.1 p.2 := xf_nil
  have xf_word : ∀ p ∈ ([(1, 0)] : List (Nat × Nat)), XfOk T "word" p.1 p.2 := (row_cons (xfOk_of (T := T) (l := ["word", "code"]) rfl (by decide +kernel) fun C e => by cases (show some C_InvalidText = some C from e); exact ⟨xc_InvalidText, xf_InvalidText_word⟩) row_nil)
  have XC := ok_law_field (P := l.prog) (w := w) (mg := mg) (base := base) (T := T) D_law_field xf_at xf_code xf_key xf_limit xf_line xf_most xf_name xf_order xf_piece xf_place xf_subject xf_user xf_value xf_word
  have Y_law_why : WhyOk T l.prog w mg base "_law_why" F_law_field [.ref C_UnopenedError, .ref C_Missing, .ref C_NothingLeft] := whyOk_of (x := "_law_why") (a := "_law_ask") (n := "_law_e") (y := "_law_field") (x1 := "UnopenedError") (x2 := "Missing") (x3 := "NothingLeft") D_law_why m_law_why k_law_why b_law_why sc_law_why XC m_law_field k_law_field b_law_field mC_UnopenedError mC_Missing mC_NothingLeft (.inl rfl) rfl rfl rfl rfl rfl (by decide +kernel) (by decide +kernel) (by decide +kernel) (by decide +kernel) (by decide +kernel) (by decide +kernel) (by decide +kernel) (by decide +kernel) rfl
  have xt0 : XtOk T [.ref C_UnopenedError, .ref C_Missing, .ref C_NothingLeft] ([(1, 1)] : List (Nat × Nat)) := (row_cons ⟨(xfOk_of (T := T) (l := ["word", "code"]) rfl (by decide +kernel) fun C e => by cases (show some C_InvalidText = some C from e); exact ⟨xc_InvalidText, xf_InvalidText_code⟩), fun C e => by cases (show some C_InvalidText = some C from e); exact xm3_InvalidText⟩ row_nil)
  have O_Words___init := ok_Words___init (P := l.prog) (w := w) (mg := mg) (base := base) (T := T) D_Words___init sf_spot sf_words
  have O_Words_here := ok_Words_here (P := l.prog) (w := w) (mg := mg) (base := base) (T := T) D_Words_here n_len fo_spot fo_words
  have M_0_here : MethOk T l.prog w mg base 1 "here" 0 1 F_Words_here [] := ⟨⟨_, _, _, _, [], [], rfl, cl_Words, ⟨fi_Words_here, fn_Words_here, k_Words_here⟩, O_Words_here, b_Words_here, dfl0⟩, (show ("here" : Str) ∉ (["words", "spot"] : List Str) from by decide +kernel)⟩
  have R_InvalidText : RaiseOk T l.prog w mg base "InvalidText" 1 1 [73, 110, 118, 97, 108, 105, 100, 84, 101, 120, 116] := ⟨⟨C_InvalidText, _, _, ["self", "word"], rfl, mC_InvalidText, ox_InvalidText, fi_InvalidText___init__, xt_InvalidText___init, O_InvalidText___init, b_InvalidText___init, rfl, by decide⟩⟩
  have O_Words_take := ok_Words_take (P := l.prog) (w := w) (mg := mg) (base := base) (T := T) D_Words_take M_0_here R_InvalidText fo_spot sf_spot
  have O_is_name := ok_is_name (P := l.prog) (w := w) (mg := mg) (base := base) (T := T) D_is_name m_LETTERS n_all n_isinstance n_len n_str
  have M_0_take : MethOk T l.prog w mg base 3 "take" 0 2 F_Words_take [] := ⟨⟨_, _, _, _, [], [], rfl, cl_Words, ⟨fi_Words_take, fn_Words_take, k_Words_take⟩, O_Words_take, b_Words_take, dfl0⟩, (show ("take" : Str) ∉ (["words", "spot"] : List Str) from by decide +kernel)⟩
  have O_Words_take_name := ok_Words_take_name (P := l.prog) (w := w) (mg := mg) (base := base) (T := T) D_Words_take_name O_is_name m_is_name k_is_name b_is_name M_0_here M_0_take
  have O_Words_take_names := ok_Words_take_names (P := l.prog) (w := w) (mg := mg) (base := base) (T := T) D_Words_take_names n_len n_tuple O_is_name m_is_name k_is_name b_is_name M_0_here M_0_take
  have O_number_in := ok_number_in (P := l.prog) (w := w) (mg := mg) (base := base) (T := T) D_number_in n_all n_int n_len n_str
  have O_Words_take_number := ok_Words_take_number (P := l.prog) (w := w) (mg := mg) (base := base) (T := T) D_Words_take_number O_number_in m_number_in k_number_in b_number_in M_0_here M_0_take
  have M_0_take_name : MethOk T l.prog w mg base 4 "take_name" 0 1 F_Words_take_name [] := ⟨⟨_, _, _, _, [], [], rfl, cl_Words, ⟨fi_Words_take_name, fn_Words_take_name, k_Words_take_name⟩, O_Words_take_name, b_Words_take_name, dfl0⟩, (show ("take_name" : Str) ∉ (["words", "spot"] : List Str) from by decide +kernel)⟩
  have M_0_take_number : MethOk T l.prog w mg base 4 "take_number" 0 3 F_Words_take_number [] := ⟨⟨_, _, _, _, [], [], rfl, cl_Words, ⟨fi_Words_take_number, fn_Words_take_number, k_Words_take_number⟩, O_Words_take_number, b_Words_take_number, dfl0⟩, (show ("take_number" : Str) ∉ (["words", "spot"] : List Str) from by decide +kernel)⟩
  have O_Words_take_term := ok_Words_take_term (P := l.prog) (w := w) (mg := mg) (base := base) (T := T) D_Words_take_term m_DELAY m_FACTOR M_0_here M_0_take M_0_take_name M_0_take_number
  have M_0_take_term : MethOk T l.prog w mg base 5 "take_term" 0 1 F_Words_take_term [] := ⟨⟨_, _, _, _, [], [], rfl, cl_Words, ⟨fi_Words_take_term, fn_Words_take_term, k_Words_take_term⟩, O_Words_take_term, b_Words_take_term, dfl0⟩, (show ("take_term" : Str) ∉ (["words", "spot"] : List Str) from by decide +kernel)⟩
  have O_Words_take_terms := ok_Words_take_terms (P := l.prog) (w := w) (mg := mg) (base := base) (T := T) D_Words_take_terms m_FACTOR n_len n_tuple O_number_in m_number_in k_number_in b_number_in M_0_here M_0_take M_0_take_term
  have M_0_take_names : MethOk T l.prog w mg base 4 "take_names" 0 2 F_Words_take_names [] := ⟨⟨_, _, _, _, [], [], rfl, cl_Words, ⟨fi_Words_take_names, fn_Words_take_names, k_Words_take_names⟩, O_Words_take_names, b_Words_take_names, dfl0⟩, (show ("take_names" : Str) ∉ (["words", "spot"] : List Str) from by decide +kernel)⟩
  have M_0_take_terms : MethOk T l.prog w mg base 6 "take_terms" 0 1 F_Words_take_terms [] := ⟨⟨_, _, _, _, [], [], rfl, cl_Words, ⟨fi_Words_take_terms, fn_Words_take_terms, k_Words_take_terms⟩, O_Words_take_terms, b_Words_take_terms, dfl0⟩, (show ("take_terms" : Str) ∉ (["words", "spot"] : List Str) from by decide +kernel)⟩
  have O_Words_take_part := ok_Words_take_part (P := l.prog) (w := w) (mg := mg) (base := base) (T := T) D_Words_take_part m_ENDS s_ENDS kd_ENDS ka_ENDS n_range M_0_here M_0_take M_0_take_name M_0_take_names M_0_take_terms
  have M_0_take_part : MethOk T l.prog w mg base 7 "take_part" 0 1 F_Words_take_part [] := ⟨⟨_, _, _, _, [], [], rfl, cl_Words, ⟨fi_Words_take_part, fn_Words_take_part, k_Words_take_part⟩, O_Words_take_part, b_Words_take_part, dfl0⟩, (show ("take_part" : Str) ∉ (["words", "spot"] : List Str) from by decide +kernel)⟩
  have O_Words_take_net := ok_Words_take_net (P := l.prog) (w := w) (mg := mg) (base := base) (T := T) D_Words_take_net n_tuple M_0_here M_0_take M_0_take_name M_0_take_names M_0_take_part R_InvalidText fo_spot
  have L_Words : MakeOk T l.prog w mg base 1 "Words" 0 2 F_Words___init [] := ⟨⟨_, _, _, _, [], [], rfl, mC_Words, ⟨mk_Words, fi_Words___init__, fn_Words___init, kc_Words⟩, O_Words___init, b_Words___init, dfl0⟩⟩
  have M_0_take_net : MethOk T l.prog w mg base 8 "take_net" 0 1 F_Words_take_net [] := ⟨⟨_, _, _, _, [], [], rfl, cl_Words, ⟨fi_Words_take_net, fn_Words_take_net, k_Words_take_net⟩, O_Words_take_net, b_Words_take_net, dfl0⟩, (show ("take_net" : Str) ∉ (["words", "spot"] : List Str) from by decide +kernel)⟩
  have O_read_net := ok_read_net (P := l.prog) (w := w) (mg := mg) (base := base) (T := T) D_read_net n_isinstance n_str L_Words M_0_take_net R_InvalidText
  have O_Net_read := ok_Net_read (P := l.prog) (w := w) (mg := mg) (base := base) (T := T) D_Net_read O_read_net m_read_net k_read_net b_read_net
  have O_law_bag := ok_law_bag (P := l.prog) (w := w) (mg := mg) (base := base) (T := T) D_law_bag n_len n_list
  have O_law_pull := ok_law_pull (P := l.prog) (w := w) (mg := mg) (base := base) (T := T) D_law_pull n_int n_len
  have O_law_any := ok_law_any (P := l.prog) (w := w) (mg := mg) (base := base) (T := T) D_law_any n_len O_law_pull m_law_pull k_law_pull b_law_pull
  have O_law_bent := ok_law_bent (P := l.prog) (w := w) (mg := mg) (base := base) (T := T) D_law_bent n_int n_len O_law_any m_law_any k_law_any b_law_any O_law_pull m_law_pull k_law_pull b_law_pull
  have O_law_boxes := ok_law_boxes (P := l.prog) (w := w) (mg := mg) (base := base) (T := T) D_law_boxes O_law_any m_law_any k_law_any b_law_any
  have O_law_mixed := ok_law_mixed (P := l.prog) (w := w) (mg := mg) (base := base) (T := T) D_law_mixed n_len O_law_pull m_law_pull k_law_pull b_law_pull
  have O_law_names := ok_law_names (P := l.prog) (w := w) (mg := mg) (base := base) (T := T) D_law_names n_int n_len n_range O_law_any m_law_any k_law_any b_law_any O_law_pull m_law_pull k_law_pull b_law_pull
  have O_law_term := ok_law_term (P := l.prog) (w := w) (mg := mg) (base := base) (T := T) D_law_term n_max O_law_any m_law_any k_law_any b_law_any O_law_pull m_law_pull k_law_pull b_law_pull
  have O_law_part := ok_law_part (P := l.prog) (w := w) (mg := mg) (base := base) (T := T) D_law_part n_range n_tuple O_law_any m_law_any k_law_any b_law_any O_law_pull m_law_pull k_law_pull b_law_pull O_law_term m_law_term k_law_term b_law_term
  have O_law_parts := ok_law_parts (P := l.prog) (w := w) (mg := mg) (base := base) (T := T) D_law_parts n_len n_range O_law_part m_law_part k_law_part b_law_part
  have O_law_same := ok_law_same (P := l.prog) (w := w) (mg := mg) (base := base) (T := T) D_law_same n_all n_bool n_int n_isinstance n_len n_list n_str n_tuple n_zip m_law_same k_law_same b_law_same
  have O_law_part_words := ok_law_part_words (P := l.prog) (w := w) (mg := mg) (base := base) (T := T) D_law_part_words n_enumerate n_list n_str
  have O_law_words_v := ok_law_words_v (P := l.prog) (w := w) (mg := mg) (base := base) (T := T) D_law_words_v n_list O_law_part_words m_law_part_words k_law_part_words b_law_part_words
  have O_law_is_name := ok_law_is_name (P := l.prog) (w := w) (mg := mg) (base := base) (T := T) D_law_is_name n_all n_len
  have O_law_names_end := ok_law_names_end (P := l.prog) (w := w) (mg := mg) (base := base) (T := T) D_law_names_end n_len n_range O_law_is_name m_law_is_name k_law_is_name b_law_is_name
  have O_law_mix_end := ok_law_mix_end (P := l.prog) (w := w) (mg := mg) (base := base) (T := T) D_law_mix_end n_len n_range n_str O_law_is_name m_law_is_name k_law_is_name b_law_is_name
  have O_law_part_end := ok_law_part_end (P := l.prog) (w := w) (mg := mg) (base := base) (T := T) D_law_part_end n_len O_law_is_name m_law_is_name k_law_is_name b_law_is_name O_law_mix_end m_law_mix_end k_law_mix_end b_law_mix_end O_law_names_end m_law_names_end k_law_names_end b_law_names_end
  have O_law_wrong_word := ok_law_wrong_word (P := l.prog) (w := w) (mg := mg) (base := base) (T := T) D_law_wrong_word n_len n_range O_law_names_end m_law_names_end k_law_names_end b_law_names_end O_law_part_end m_law_part_end k_law_part_end b_law_part_end
  have O_term_words := ok_term_words (P := l.prog) (w := w) (mg := mg) (base := base) (T := T) D_term_words n_str
  have O_part_words := ok_part_words (P := l.prog) (w := w) (mg := mg) (base := base) (T := T) D_part_words n_enumerate O_term_words m_term_words k_term_words b_term_words
  have O_text_of := ok_text_of (P := l.prog) (w := w) (mg := mg) (base := base) (T := T) D_text_of O_part_words m_part_words k_part_words b_part_words
  have ST_Net_read_1 : StatOk T l.prog w mg base 10 "Net" "read" 2 F_Net_read [.non] 1 [0, 1] := by
    obtain ⟨ds, hdv, hkb⟩ := kb_kwd (ps := ["text", "pieces"]) (ks := []) (n := 1) (p := [0, 1]) (ms := [("pieces", .non)]) D_Net_read (by simp) (by simp) fun _ _ _ _ _ _ us mv ws hu hm hw => match us, hu, mv, hm, ws, hw with | [_], _, [_], _, [], _ => ⟨_, _, _, _, _, _, rfl, rfl, rfl⟩
    exact ⟨_, _, _, _, _, _, _, _, _, mC_Net, sr_Net, sg_Net, sf_Net_read, sx_Net_read, k_Net_read, O_Net_read, hkb, ⟨hdv, fun _ _ => (.cons (.non) .nil)⟩⟩
  exact ok_law (P := l.prog) (w := w) (mg := mg) (base := base) (T := T) D_law (hTB (cL, PL) (List.mem_singleton.mpr rfl)) rfl Y_law_why xt0 rfl rfl n_range n_tuple O_law_bag m_law_bag k_law_bag b_law_bag O_law_bent m_law_bent k_law_bent b_law_bent O_law_boxes m_law_boxes k_law_boxes b_law_boxes O_law_mixed m_law_mixed k_law_mixed b_law_mixed O_law_names m_law_names k_law_names b_law_names O_law_parts m_law_parts k_law_parts b_law_parts O_law_pull m_law_pull k_law_pull b_law_pull O_law_same m_law_same k_law_same b_law_same O_law_words_v m_law_words_v k_law_words_v b_law_words_v O_law_wrong_word m_law_wrong_word k_law_wrong_word b_law_wrong_word O_read_net m_read_net k_read_net b_read_net O_text_of m_text_of k_text_of b_text_of ST_Net_read_1

set_option maxHeartbeats 0 in
theorem PySem.Challenge.cw_unopened_k10_wrong_texts_holds : PySem.Challenge.rw_unopened_k10_wrong_texts.Holds := by
  open PySem PySem.W PyProof.Rows in
  (w_on; o_law; k_head; (case hw => w_witness2)
   k_fill
   refine LamX.walk_ofOwn (l := PySem.Challenge.rw_unopened_k10_wrong_texts) (n := 63) (k := 15) (x := "_law_script") (CX := fun w => L2.CX (PySem.Challenge.rw_unopened_k10_wrong_texts).prog w) rfl (by decide) rfl ⟨rfl, by decide, by decide⟩ (by first | rfl | decide +kernel) (fun w h Y => by first | exact PySem.W.kIn_of Y | exact PySem.W.km_in_of Y) ?F cx_none
   case F =>
     intro w mg fa h Y KX G hmg own
     refine' all_mk KX G hmg own ?aC_Words ?pg_Words ?hd_Words ?po_Words ?sa_Words ?mk_Words ?kc_Words ?nf_Words_spot ?nf_Words_words ?aC_UnopenedError ?aC_Missing ?aC_NothingLeft ?aC_InvalidText ?xl_InvalidText ?xv_InvalidText ?xsa_InvalidText ?xex_InvalidText ?xty_InvalidText ?xk_InvalidText ?xga_InvalidText ?xgg_InvalidText ?xhd_InvalidText ?xf_InvalidText_word ?xf_InvalidText_code ?xm3_InvalidText ?xsub_InvalidText ?xat_InvalidText ?xis_InvalidText ?fi_InvalidText___init__ ?xt_InvalidText___init ?aC_Net ?sr_Net ?sg_Net ?sf_Net_read ?sx_Net_read ?a0 ?l0 ?c0 ?k0 ?a1 ?l1 ?c1 ?k1 ?l2 ?c2 ?lcd2 ?hv2 ?hf2 ?lcc2 ?k2 ?fi_Words___init__ ?fn_Words___init ?l3 ?c3 ?k3 ?fi_Words_here ?fn_Words_here ?l4 ?c4 ?k4 ?fi_Words_take ?fn_Words_take ?l5 ?c5 ?k5 ?a6 ?l6 ?c6 ?k6 ?fi_Words_take_name ?fn_Words_take_name ?l7 ?c7 ?k7 ?fi_Words_take_names ?fn_Words_take_names ?l8 ?c8 ?k8 ?a9 ?l9 ?c9 ?k9 ?fi_Words_take_number ?fn_Words_take_number ?l10 ?c10 ?k10 ?fi_Words_take_term ?fn_Words_take_term ?l11 ?c11 ?k11 ?fi_Words_take_terms ?fn_Words_take_terms ?l12 ?c12 ?k12 ?fi_Words_take_part ?fn_Words_take_part ?l13 ?c13 ?k13 ?fi_Words_take_net ?fn_Words_take_net ?l14 ?c14 ?k14 ?a15 ?l15 ?c15 ?k15 ?l16 ?lk16_0 ?c16 ?k16 ?a17 ?l17 ?c17 ?k17 ?a18 ?l18 ?c18 ?k18 ?a19 ?l19 ?c19 ?k19 ?a20 ?l20 ?c20 ?k20 ?a21 ?l21 ?c21 ?k21 ?a22 ?l22 ?c22 ?k22 ?a23 ?l23 ?c23 ?k23 ?a24 ?l24 ?c24 ?k24 ?a25 ?l25 ?c25 ?k25 ?a26 ?l26 ?c26 ?k26 ?a27 ?l27 ?c27 ?k27 ?a28 ?l28 ?c28 ?k28 ?a29 ?l29 ?c29 ?k29 ?a30 ?l30 ?c30 ?k30 ?a31 ?l31 ?c31 ?k31 ?a32 ?l32 ?c32 ?k32 ?a33 ?l33 ?c33 ?k33 ?a34 ?l34 ?c34 ?k34 ?a35 ?l35 ?c35 ?k35 ?a36 ?l36 ?c36 ?k36 ?a37 ?l37 ?c37 ?k37 ?a38 ?l38 ?c38 ?lcL ?hvL ?chL ?npL ?k38 ?ic_InvalidText ?op_any ?htop ?z_all ?z_bool ?z_enumerate ?z_int ?z_isinstance ?z_len ?z_list ?z_max ?z_range ?z_str ?z_tuple ?z_zip ?z_super ?y_DELAY ?y_FACTOR ?y_LETTERS ?y_ENDS ?lk_ENDS ?kl_ENDS ?sy_ENDS ?kk_ENDS ?kv_ENDS_0 ?kv_ENDS_1 ?kv_ENDS_2 ?kv_ENDS_3
     (case aC_Words => k_is); (case pg_Words => k_is); (case hd_Words => k_is); (case po_Words => k_is); (case sa_Words => k_is); (case mk_Words => k_is); (case kc_Words => k_is); (case nf_Words_spot => k_is); (case nf_Words_words => k_is); (case aC_UnopenedError => k_is); (case aC_Missing => k_is); (case aC_NothingLeft => k_is); (case aC_InvalidText => k_is); (case xl_InvalidText => k_is); (case xv_InvalidText => first | rfl | decide +kernel); (case xsa_InvalidText => k_is); (case xex_InvalidText => k_is); (case xty_InvalidText => k_is); (case xk_InvalidText => k_is); (case xga_InvalidText => k_is); (case xgg_InvalidText => k_is); (case xhd_InvalidText => k_is); (case xf_InvalidText_word => k_is); (case xf_InvalidText_code => k_is); (case xm3_InvalidText => kts_exm); (case xsub_InvalidText => k_is); (case xat_InvalidText => ks_is); (case xis_InvalidText => k_is); (case fi_InvalidText___init__ => k_is); (case xt_InvalidText___init => k_is); (case aC_Net => k_is); (case sr_Net => k_is); (case sg_Net => k_is); (case sf_Net_read => k_is); (case sx_Net_read => k_is); (case a0 => k_is); (case l0 => k_is); (case c0 => k_is); (case k0 => k_is); (case a1 => k_is); (case l1 => k_is); (case c1 => k_is); (case k1 => k_is); (case l2 => k_is); (case c2 => k_is); (case lcd2 => k_is); (case hv2 => rfl); (case hf2 => decide +kernel); (case lcc2 => k_is); (case k2 => k_is); (case fi_Words___init__ => k_is); (case fn_Words___init => k_is); (case l3 => k_is); (case c3 => k_is); (case k3 => k_is); (case fi_Words_here => k_is); (case fn_Words_here => k_is); (case l4 => k_is); (case c4 => k_is); (case k4 => k_is); (case fi_Words_take => k_is); (case fn_Words_take => k_is); (case l5 => k_is); (case c5 => k_is); (case k5 => k_is); (case a6 => k_is); (case l6 => k_is); (case c6 => k_is); (case k6 => k_is); (case fi_Words_take_name => k_is); (case fn_Words_take_name => k_is); (case l7 => k_is); (case c7 => k_is); (case k7 => k_is); (case fi_Words_take_names => k_is); (case fn_Words_take_names => k_is); (case l8 => k_is); (case c8 => k_is); (case k8 => k_is); (case a9 => k_is); (case l9 => k_is); (case c9 => k_is); (case k9 => k_is); (case fi_Words_take_number => k_is); (case fn_Words_take_number => k_is); (case l10 => k_is); (case c10 => k_is); (case k10 => k_is); (case fi_Words_take_term => k_is); (case fn_Words_take_term => k_is); (case l11 => k_is); (case c11 => k_is); (case k11 => k_is); (case fi_Words_take_terms => k_is); (case fn_Words_take_terms => k_is); (case l12 => k_is); (case c12 => k_is); (case k12 => k_is); (case fi_Words_take_part => k_is); (case fn_Words_take_part => k_is); (case l13 => k_is); (case c13 => k_is); (case k13 => k_is); (case fi_Words_take_net => k_is); (case fn_Words_take_net => k_is); (case l14 => k_is); (case c14 => k_is); (case k14 => k_is); (case a15 => k_is); (case l15 => k_is); (case c15 => k_is); (case k15 => k_is); (case l16 => k_is); (case lk16_0 => k_is); (case c16 => k_is); (case k16 => k_is); (case a17 => k_is); (case l17 => k_is); (case c17 => k_is); (case k17 => k_is); (case a18 => k_is); (case l18 => k_is); (case c18 => k_is); (case k18 => k_is); (case a19 => k_is); (case l19 => k_is); (case c19 => k_is); (case k19 => k_is); (case a20 => k_is); (case l20 => k_is); (case c20 => k_is); (case k20 => k_is); (case a21 => k_is); (case l21 => k_is); (case c21 => k_is); (case k21 => k_is); (case a22 => k_is); (case l22 => k_is); (case c22 => k_is); (case k22 => k_is); (case a23 => k_is); (case l23 => k_is); (case c23 => k_is); (case k23 => k_is); (case a24 => k_is); (case l24 => k_is); (case c24 => k_is); (case k24 => k_is); (case a25 => k_is); (case l25 => k_is); (case c25 => k_is); (case k25 => k_is); (case a26 => k_is); (case l26 => k_is); (case c26 => k_is); (case k26 => k_is); (case a27 => k_is); (case l27 => k_is); (case c27 => k_is); (case k27 => k_is); (case a28 => k_is); (case l28 => k_is); (case c28 => k_is); (case k28 => k_is); (case a29 => k_is); (case l29 => k_is); (case c29 => k_is); (case k29 => k_is); (case a30 => k_is); (case l30 => k_is); (case c30 => k_is); (case k30 => k_is); (case a31 => k_is); (case l31 => k_is); (case c31 => k_is); (case k31 => k_is); (case a32 => k_is); (case l32 => k_is); (case c32 => k_is); (case k32 => k_is); (case a33 => k_is); (case l33 => k_is); (case c33 => k_is); (case k33 => k_is); (case a34 => k_is); (case l34 => k_is); (case c34 => k_is); (case k34 => k_is); (case a35 => k_is); (case l35 => k_is); (case c35 => k_is); (case k35 => k_is); (case a36 => k_is); (case l36 => k_is); (case c36 => k_is); (case k36 => k_is); (case a37 => k_is); (case l37 => k_is); (case c37 => k_is); (case k37 => k_is); (case a38 => k_is); (case l38 => k_is); (case c38 => k_is); (case lcL => k_is); (case hvL => rfl); (case chL => kernel_rfl); (case npL => kernel_rfl); (case k38 => k_is); (case ic_InvalidText => k_is); (case op_any => k_is); (case htop => first | rfl | decide +kernel); (case z_all => k_is); (case z_bool => k_is); (case z_enumerate => k_is); (case z_int => k_is); (case z_isinstance => k_is); (case z_len => k_is); (case z_list => k_is); (case z_max => k_is); (case z_range => k_is); (case z_str => k_is); (case z_tuple => k_is); (case z_zip => k_is); (case z_super => k_is); (case y_DELAY => k_is); (case y_FACTOR => k_is); (case y_LETTERS => k_is); (case y_ENDS => k_is); (case lk_ENDS => k_is); (case kl_ENDS => exact ⟨⟨_, _, rfl, rfl⟩, ⟨_, _, rfl, rfl⟩, ⟨_, _, rfl, rfl⟩, ⟨_, _, rfl, rfl⟩, trivial⟩); (case sy_ENDS => first | rfl | decide +kernel); (case kk_ENDS => exact ⟨⟨_, _, rfl, by decide +kernel⟩, ⟨_, _, rfl, by decide +kernel⟩, ⟨_, _, rfl, by decide +kernel⟩, ⟨_, _, rfl, by decide +kernel⟩, trivial⟩); (case kv_ENDS_0 => k_is); (case kv_ENDS_1 => k_is); (case kv_ENDS_2 => k_is); (case kv_ENDS_3 => k_is))
