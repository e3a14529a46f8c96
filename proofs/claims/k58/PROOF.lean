import PyProof.Rows.All
import Wide.All
import OpenK.AllK
import Wide.FinOn
import HandS.ForMost
import HandS.ExcOwn
import HandS.WordsExc
import HandS.TupAny
import HandS.Wide
import HandS.WideBits
import HandS.Deep
import HandS.Style
import HandS.TupLe
import HandS.Text
import HandS.IsInst
import KE.GoesEnum
import HandS.RaiseMore
import HandS.Replace
import HandS.SetFor
import PyProof.Rows.StrRev
import HandS.EndBits
import HandS.ExcIs
import HandS.TryOnly
import HandS.SortInts
import HandS.SortRule
import HandS.TupLen
import HandS.WordsDict
import PyProof.TwoTypesSub
import PyProof.Walk
import PyProof.WalkLemmas
import PySem.Challenge.RW_cutletters_k58_what_is_a_make_of_an_end
set_option Elab.async false
set_option linter.all false
set_option maxRecDepth 100000
set_option maxHeartbeats 4000000
set_option autoImplicit false
/-! Mi0: mirror values, points, the tie between mirror and abstract heap. -/
namespace Mi
open PySem L2

/-- a text: its signs' codes -/
abbrev Tx := List Nat
def S (l : Tx) : Str := ⟨l.toArray⟩
theorem S_len (l : Tx) : (S l).length = l.length := by
  show l.toArray.size = l.length
  simp
theorem S_inj {a b : Tx} (h : S a = S b) : a = b := by
  have := congrArg (fun s => s.cps.toList) h
  simpa [S] using this
theorem S_eq {a b : Tx} : S a = S b ↔ a = b := ⟨S_inj, fun h => by rw [h]⟩

inductive Val where
  | non | bl (b : Bool) | int (i : Int) | str (s : Tx) | tup (l : List Val) | lst (l : List Val) | ref (n : Nat) | exc (c : String) (f : Option Val) | ktp (l : List Val)
  deriving Inhabited

/-- a dict's key -/
abbrev KK := Sum Int Tx
def kS : KK → Key
  | .inl i => .inl i
  | .inr x => .inr (S x)

inductive MObj where
  | lst (l : List Val) | dK (kvs : List (KK × Val)) | dT (kvs : List (List KK × Val)) | ins (c : String) (fs : List (String × Val)) | gone
  deriving Inhabited
abbrev MH := List MObj

inductive Slot where
  | unset | val (v : Val) | own (l : List Val)
  deriving Inhabited
abbrev Env := List Slot

/-- what is fixed: the written part, where the classes stand -/
structure Cn where
  K : PySem.W.Frag
  cn : String → Addr

structure Pt where
  ι : List (Option Addr)
  ω : List (Option Addr)
  ο : List Addr
  H : Hp
def Pt.F (p : Pt) (a : Addr) : Prop := some a ∈ p.ι ∨ some a ∈ p.ω ∨ a ∈ p.ο

/-- an exception object of the class cls -/
def ExH (a : Addr) (cls : Value) (d : Option Addr) : HO := .ext fun h => ∃ (oe : Obj) (vs : Array Value), h.get? a = some oe ∧ Zc cls d oe ∧ oe.data = .fields vs

def TupAt (_ : PySem.W.Frag) (p : Pt) (a : Addr) (vs : List V) : Prop := ¬ p.F a ∧ p.H a = some (.tup vs)
/-- a tuple of the text's own -/
def KT (K : PySem.W.Frag) (a : Addr) (vs : List V) : Prop := ∃ (o : Obj) (its : Array Value) (n : Nat), K.lookup a = some o ∧ o.cls = .type "tuple" ∧ o.data = .seq its n ∧ its.size ≤ sizeLine ∧ Vals vs its.toList
theorem KT.sq {K : PySem.W.Frag} {H : Hp} {a : Addr} {vs : List V} (h : KT K a vs) : SqT K H a vs := .inr h
/-- a list of the text's own -/
def LsK (K : PySem.W.Frag) (a : Addr) (vs : List V) : Prop := ∃ (its : List Value) (n : Nat), K.lookup a = some ⟨.type "list", none, .seq its.toArray n, #[]⟩ ∧ its.length ≤ sizeLine ∧ Vals vs its
def LsG (K : PySem.W.Frag) (H : Hp) (a : Addr) (vs : List V) : Prop := Rd H a (.lst vs) ∨ LsK K a vs
theorem LsG.sq {K : PySem.W.Frag} {H : Hp} {a : Addr} {vs : List V} (h : LsG K H a vs) : SqL K H a vs := by
  rcases h with h | ⟨its, n, e, z, r⟩
  · exact .inl h
  · exact .inr ⟨_, its.toArray, n, e, rfl, rfl, rfl, by rw [List.size_toArray]; exact z, r⟩
def LstAt (K : PySem.W.Frag) (p : Pt) (a : Addr) (vs : List V) : Prop := (¬ p.F a ∧ Rd p.H a (.lst vs)) ∨ LsK K a vs
theorem LstAt.g {K : PySem.W.Frag} {p : Pt} {a : Addr} {vs : List V} (h : LstAt K p a vs) : LsG K p.H a vs := h.imp (·.2) id
theorem TupAt.sq {K : PySem.W.Frag} {p : Pt} {a : Addr} {vs : List V} (h : TupAt K p a vs) : SqT K p.H a vs := .inl (.inl h.2)
theorem LstAt.sq {K : PySem.W.Frag} {p : Pt} {a : Addr} {vs : List V} (h : LstAt K p a vs) : SqL K p.H a vs := h.g.sq

mutual
def RV (C : Cn) (p : Pt) : Val → V → Prop
  | .non, x => x = .non
  | .bl b, x => x = .bl b
  | .int i, x => x = .int i
  | .str s, x => x = .str (S s)
  | .tup l, x => ∃ a vs, x = .ref a ∧ TupAt C.K p a vs ∧ RVs C p l vs
  | .lst l, x => ∃ a vs, x = .ref a ∧ LstAt C.K p a vs ∧ RVs C p l vs
  | .ktp l, x => ∃ a vs, x = .ref a ∧ KT C.K a vs ∧ RVs C p l vs
  | .ref n, x => ∃ a, x = .ref a ∧ (p.ι[n]? = some (some a) ∨ p.ι[n]? = some none)
  | .exc c none, x => ∃ a, x = .ref a ∧ ¬ p.F a ∧ p.H a = some (ExH a (.ref (C.cn c)) none)
  | .exc c (some v), x => ∃ a d fs y, x = .ref a ∧ ¬ p.F a ∧ p.H a = some (ExH a (.ref (C.cn c)) (some d)) ∧ ¬ p.F d ∧ p.H d = some (.xd fs) ∧ fs.lookup ("row" : Str) = some y ∧ RV C p v y
def RVs (C : Cn) (p : Pt) : List Val → List V → Prop
  | [], vs => vs = []
  | v :: l, vs => ∃ x r, vs = x :: r ∧ RV C p v x ∧ RVs C p l r
end

/-- what a later point keeps of an earlier one -/
structure Ext (p q : Pt) : Prop where
  idx : ∀ (n : Nat) (o : Option Addr), p.ι[n]? = some o → q.ι[n]? = some o ∨ q.ι[n]? = some none
  keep : ∀ a o, p.H a = some o → ¬ p.F a → q.H a = some o
  new : ∀ a, q.F a → p.F a ∨ p.H a = none

theorem Ext.refl (p : Pt) : Ext p p := ⟨fun _ _ h => .inl h, fun _ _ h _ => h, fun _ h => .inl h⟩
theorem Ext.nF {p q : Pt} (e : Ext p q) {a : Addr} {o : HO} (h : p.H a = some o) (n : ¬ p.F a) : ¬ q.F a := fun z => (e.new a z).elim n fun y => by rw [h] at y; cases y
theorem Ext.trans {p q r : Pt} (a : Ext p q) (b : Ext q r) : Ext p r := by
  refine ⟨fun n o h => ?_, fun x o h n => b.keep x o (a.keep x o h n) (a.nF h n), fun x h => ?_⟩
  · rcases a.idx n o h with h1 | h1
    · exact b.idx n o h1
    · rcases b.idx n none h1 with h2 | h2 <;> exact .inr h2
  · rcases b.new x h with h1 | h1
    · exact a.new x h1
    · by_cases f : p.F x
      · exact .inl f
      · cases e : p.H x with
        | none => exact .inr rfl
        | some o => rw [a.keep x o e f] at h1; cases h1
theorem Ext.rd {p q : Pt} (e : Ext p q) {a : Addr} {u : HO} (n : ¬ p.F a) (h : Rd p.H a u) : ¬ q.F a ∧ Rd q.H a u := by
  rcases h with h | ⟨o, h⟩
  · exact ⟨e.nF h n, .inl (e.keep a _ h n)⟩
  · exact ⟨e.nF h n, .inr ⟨o, e.keep a _ h n⟩⟩
theorem TupAt.ext {K : PySem.W.Frag} {p q : Pt} (e : Ext p q) {a : Addr} {vs : List V} (h : TupAt K p a vs) : TupAt K q a vs := ⟨e.nF h.2 h.1, e.keep _ _ h.2 h.1⟩
theorem LstAt.ext {K : PySem.W.Frag} {p q : Pt} (e : Ext p q) {a : Addr} {vs : List V} (h : LstAt K p a vs) : LstAt K q a vs := h.elim (fun ⟨n, r⟩ => .inl (e.rd n r)) .inr
mutual
theorem RV.ext {C : Cn} {p q : Pt} (e : Ext p q) : ∀ {v : Val} {x : V}, RV C p v x → RV C q v x
  | .non, _, h => by simpa [RV] using h
  | .bl b, _, h => by simpa [RV] using h
  | .int i, _, h => by simpa [RV] using h
  | .str s, _, h => by simpa [RV] using h
  | .tup l, x, h => by
    unfold RV at h ⊢
    obtain ⟨a, vs, h1, h2, h3⟩ := h
    exact ⟨a, vs, h1, h2.ext e, RVs.ext e h3⟩
  | .lst l, x, h => by
    unfold RV at h ⊢
    obtain ⟨a, vs, h1, h2, h3⟩ := h
    exact ⟨a, vs, h1, h2.ext e, RVs.ext e h3⟩
  | .ktp l, x, h => by
    unfold RV at h ⊢
    obtain ⟨a, vs, h1, h2, h3⟩ := h
    exact ⟨a, vs, h1, h2, RVs.ext e h3⟩
  | .ref n, x, h => by
    unfold RV at h ⊢
    obtain ⟨a, h1, h2 | h2⟩ := h
    · exact ⟨a, h1, e.idx _ _ h2⟩
    · exact ⟨a, h1, .inr ((e.idx _ _ h2).elim id id)⟩
  | .exc c none, x, h => by
    unfold RV at h ⊢
    obtain ⟨a, h1, h2, h3⟩ := h
    exact ⟨a, h1, e.nF h3 h2, e.keep _ _ h3 h2⟩
  | .exc c (some v), x, h => by
    unfold RV at h ⊢
    obtain ⟨a, d, fs, y, h1, h2, h3, h4, h5, h6, h7⟩ := h
    exact ⟨a, d, fs, y, h1, e.nF h3 h2, e.keep _ _ h3 h2, e.nF h5 h4, e.keep _ _ h5 h4, h6, RV.ext e h7⟩
theorem RVs.ext {C : Cn} {p q : Pt} (e : Ext p q) : ∀ {l : List Val} {vs : List V}, RVs C p l vs → RVs C q l vs
  | [], _, h => by simpa [RVs] using h
  | v :: l, vs, h => by
    unfold RVs at h ⊢
    obtain ⟨x, r, h1, h2, h3⟩ := h
    exact ⟨x, r, h1, RV.ext e h2, RVs.ext e h3⟩
end

/-! ### lists of values -/
section
variable {C : Cn} {p : Pt}
theorem RVs.nil : RVs C p [] [] := by unfold RVs; rfl
theorem RVs.cons {v : Val} {l : List Val} {x : V} {r : List V} (a : RV C p v x) (b : RVs C p l r) : RVs C p (v :: l) (x :: r) := by
  unfold RVs; exact ⟨x, r, rfl, a, b⟩
theorem RVs.nil_inv {vs : List V} (h : RVs C p [] vs) : vs = [] := by unfold RVs at h; exact h
theorem RVs.cons_inv {v : Val} {l : List Val} {vs : List V} (h : RVs C p (v :: l) vs) : ∃ x r, vs = x :: r ∧ RV C p v x ∧ RVs C p l r := by unfold RVs at h; exact h
theorem RVs.length : ∀ {l : List Val} {vs : List V}, RVs C p l vs → vs.length = l.length
  | [], vs, h => by rw [h.nil_inv]; rfl
  | v :: l, vs, h => by
    obtain ⟨x, r, rfl, _, h2⟩ := h.cons_inv
    simp [RVs.length h2]
theorem RVs.get : ∀ {l : List Val} {vs : List V} {i : Nat} {v : Val}, RVs C p l vs → l[i]? = some v → ∃ x, vs[i]? = some x ∧ RV C p v x
  | [], _, _, _, _, e => by simp at e
  | w :: l, vs, 0, v, h, e => by
    obtain ⟨x, r, rfl, h1, h2⟩ := h.cons_inv
    simp at e; subst e
    exact ⟨x, rfl, h1⟩
  | w :: l, vs, i + 1, v, h, e => by
    obtain ⟨x, r, rfl, h1, h2⟩ := h.cons_inv
    obtain ⟨y, a, b⟩ := RVs.get (i := i) (v := v) h2 (by simpa using e)
    exact ⟨y, by simpa using a, b⟩
theorem RVs.get' : ∀ {l : List Val} {vs : List V} {i : Nat} {x : V}, RVs C p l vs → vs[i]? = some x → ∃ v, l[i]? = some v ∧ RV C p v x := fun {l vs i x} h e => by
  have hl := h.length
  have hi := (List.getElem?_eq_some_iff.mp e).1
  have hi' : i < l.length := by omega
  obtain ⟨y, a, b⟩ := h.get (List.getElem?_eq_getElem hi')
  rw [e] at a; cases a
  exact ⟨_, List.getElem?_eq_getElem hi', b⟩
theorem RVs.append : ∀ {l m : List Val} {vs ws : List V}, RVs C p l vs → RVs C p m ws → RVs C p (l ++ m) (vs ++ ws)
  | [], m, vs, ws, h, k => by rw [h.nil_inv]; exact k
  | v :: l, m, vs, ws, h, k => by
    obtain ⟨x, r, rfl, h1, h2⟩ := h.cons_inv
    exact .cons h1 (RVs.append h2 k)
theorem RVs.take : ∀ {l : List Val} {vs : List V} (n : Nat), RVs C p l vs → RVs C p (l.take n) (vs.take n)
  | _, _, 0, _ => by simp; exact .nil
  | [], _, n + 1, h => by rw [h.nil_inv]; exact .nil
  | v :: l, vs, n + 1, h => by
    obtain ⟨x, r, rfl, h1, h2⟩ := h.cons_inv
    simp only [List.take_succ_cons]
    exact .cons h1 (RVs.take n h2)
theorem RVs.drop : ∀ {l : List Val} {vs : List V} (n : Nat), RVs C p l vs → RVs C p (l.drop n) (vs.drop n)
  | _, _, 0, h => by simpa using h
  | [], _, n + 1, h => by rw [h.nil_inv]; exact .nil
  | v :: l, vs, n + 1, h => by
    obtain ⟨x, r, rfl, h1, h2⟩ := h.cons_inv
    simp only [List.drop_succ_cons]
    exact RVs.drop n h2
theorem RVs.set : ∀ {l : List Val} {vs : List V} (i : Nat) {v : Val} {x : V}, RVs C p l vs → RV C p v x → RVs C p (l.set i v) (vs.set i x)
  | [], _, _, _, _, h, _ => by rw [h.nil_inv]; simp; exact .nil
  | w :: l, vs, 0, v, x, h, k => by
    obtain ⟨y, r, rfl, h1, h2⟩ := h.cons_inv
    simp only [List.set_cons_zero]
    exact .cons k h2
  | w :: l, vs, i + 1, v, x, h, k => by
    obtain ⟨y, r, rfl, h1, h2⟩ := h.cons_inv
    simp only [List.set_cons_succ]
    exact .cons h1 (RVs.set i h2 k)
theorem RVs.eraseIdx : ∀ {l : List Val} {vs : List V} (i : Nat), RVs C p l vs → RVs C p (l.eraseIdx i) (vs.eraseIdx i)
  | [], _, _, h => by rw [h.nil_inv]; simp; exact .nil
  | w :: l, vs, 0, h => by
    obtain ⟨y, r, rfl, h1, h2⟩ := h.cons_inv
    simpa using h2
  | w :: l, vs, i + 1, h => by
    obtain ⟨y, r, rfl, h1, h2⟩ := h.cons_inv
    simp only [List.eraseIdx_cons_succ]
    exact .cons h1 (RVs.eraseIdx i h2)
theorem RVs.reverse : ∀ {l : List Val} {vs : List V}, RVs C p l vs → RVs C p l.reverse vs.reverse
  | [], vs, h => by rw [h.nil_inv]; exact .nil
  | v :: l, vs, h => by
    obtain ⟨x, r, rfl, h1, h2⟩ := h.cons_inv
    simp only [List.reverse_cons]
    exact (RVs.reverse h2).append (.cons h1 .nil)
theorem RVs.flat {l : List Val} {vs : List V} (h : RVs C p l vs) : ∀ k : Nat, RVs C p (List.replicate k l).flatten (List.replicate k vs).flatten
  | 0 => by simp; exact .nil
  | k + 1 => by
    simp only [List.replicate_succ, List.flatten_cons]
    exact h.append (h.flat k)
theorem RVs.ints {vs : List V} : ∀ {ns : List Int}, RVs C p (ns.map Val.int) vs → vs = ns.map V.int := fun {ns} h => by
  induction ns generalizing vs with
  | nil => exact h.nil_inv
  | cons n ns ih =>
    obtain ⟨x, r, rfl, h1, h2⟩ := h.cons_inv
    rw [ih h2]
    unfold RV at h1
    rw [h1]; rfl
end
end Mi
/-! Mi1: the tie of a whole state, and what stores and new objects do to it. -/
namespace Mi
open PySem L2

def RKs (C : Cn) (p : Pt) (kvs : List (KK × Val)) (ws : List (Key × V)) : Prop := ∃ vs, ws = (kvs.map fun kv => kS kv.1).zip vs ∧ RVs C p (kvs.map (·.2)) vs
def RTs (C : Cn) (p : Pt) (kvs : List (List KK × Val)) (ws : List (List Key × V)) : Prop := ∃ vs, ws = (kvs.map fun kv => kv.1.map kS).zip vs ∧ RVs C p (kvs.map (·.2)) vs
def RFs (C : Cn) (p : Pt) (fs : List (String × Val)) (gs : List (Str × V)) : Prop := ∃ vs, gs = (fs.map fun f => Str.ofString f.1).zip vs ∧ RVs C p (fs.map (·.2)) vs

def RO (C : Cn) (p : Pt) : MObj → Addr → Prop
  | .lst l, a => ∃ vs, p.H a = some (.lst vs) ∧ RVs C p l vs
  | .dK kvs, a => ∃ ws, p.H a = some (.dK ws) ∧ RKs C p kvs ws
  | .dT kvs, a => ∃ ws, p.H a = some (.dT ws) ∧ RTs C p kvs ws
  | .ins c fs, a => ∃ dx gs, p.H a = some (.ins (C.cn c) dx gs) ∧ RFs C p fs gs
  | .gone, _ => False
theorem RO.some {C : Cn} {p : Pt} {o : MObj} {a : Addr} (h : RO C p o a) : p.H a ≠ none := by
  cases o with
  | lst l => obtain ⟨vs, e, _⟩ := h; rw [e]; exact fun z => by cases z
  | dK l => obtain ⟨vs, e, _⟩ := h; rw [e]; exact fun z => by cases z
  | dT l => obtain ⟨vs, e, _⟩ := h; rw [e]; exact fun z => by cases z
  | ins c l => obtain ⟨dx, vs, e, _⟩ := h; rw [e]; exact fun z => by cases z
  | gone => exact h.elim
theorem RO.ext {C : Cn} {p q : Pt} (x : Ext p q) {o : MObj} {a : Addr} (k : q.H a = p.H a) (h : RO C p o a) : RO C q o a := by
  cases o with
  | lst l => obtain ⟨vs, e, r⟩ := h; exact ⟨vs, k.trans e, r.ext x⟩
  | dK l => obtain ⟨vs, e, ws, e2, r⟩ := h; exact ⟨vs, k.trans e, ws, e2, r.ext x⟩
  | dT l => obtain ⟨vs, e, ws, e2, r⟩ := h; exact ⟨vs, k.trans e, ws, e2, r.ext x⟩
  | ins c l => obtain ⟨dx, vs, e, ws, e2, r⟩ := h; exact ⟨dx, vs, k.trans e, ws, e2, r.ext x⟩
  | gone => exact h.elim

/-- the mutable things stand apart -/
structure Sep (p : Pt) : Prop where
  ii : ∀ (n m : Nat) (a : Addr), p.ι[n]? = some (some a) → p.ι[m]? = some (some a) → n = m
  ww : ∀ (n m : Nat) (a : Addr), p.ω[n]? = some (some a) → p.ω[m]? = some (some a) → n = m
  iw : ∀ (n m : Nat) (a : Addr), p.ι[n]? = some (some a) → p.ω[m]? = some (some a) → False
  io : ∀ (n : Nat) (a : Addr), p.ι[n]? = some (some a) → a ∉ p.ο
  wo : ∀ (n : Nat) (a : Addr), p.ω[n]? = some (some a) → a ∉ p.ο

structure HRel (C : Cn) (p : Pt) (mh : MH) : Prop where
  li : p.ι.length = mh.length
  obj : ∀ (n : Nat) (o : MObj), mh[n]? = some o → (o = .gone ∧ p.ι[n]? = some none) ∨ ∃ a, p.ι[n]? = some (some a) ∧ RO C p o a
  sep : Sep p
  hF : ∀ a, p.F a → p.H a ≠ none

def RS (C : Cn) (p : Pt) (σ : L2.St) (i : Nat) : Slot → Prop
  | .unset => p.ω[i]? = some none
  | .val v => p.ω[i]? = some none ∧ ∃ x, σ[i]? = some (some x) ∧ RV C p v x
  | .own l => ∃ a vs, p.ω[i]? = some (some a) ∧ σ[i]? = some (some (.ref a)) ∧ p.H a = some (.lst vs) ∧ RVs C p l vs

structure Rel (C : Cn) (E p : Pt) (σm : Env) (mh : MH) (σ : L2.St) : Prop where
  h : HRel C p mh
  lσ : σ.length = σm.length
  lω : p.ω.length = σm.length
  slot : ∀ (i : Nat) (s : Slot), σm[i]? = some s → RS C p σ i s
  ext : Ext E p
  oE : p.ο = E.ο
  oK : ∀ a, a ∈ p.ο → p.H a = E.H a

theorem F_ι {p : Pt} {n : Nat} {a : Addr} (h : p.ι[n]? = some (some a)) : p.F a := .inl (List.mem_of_getElem? h)
theorem F_ω {p : Pt} {n : Nat} {a : Addr} (h : p.ω[n]? = some (some a)) : p.F a := .inr (.inl (List.mem_of_getElem? h))

section
variable {C : Cn} {E p q : Pt} {σm : Env} {mh : MH} {σ : L2.St}

theorem RS.ext (x : Ext p q) {i : Nat} {s : Slot} (hω : q.ω[i]? = p.ω[i]?) (k : ∀ a, p.F a → q.H a = p.H a) (h : RS C p σ i s) : RS C q σ i s := by
  cases s with
  | unset => exact hω.trans h
  | val v => obtain ⟨h1, y, h2, h3⟩ := h; exact ⟨hω.trans h1, y, h2, h3.ext x⟩
  | own l => obtain ⟨a, vs, h1, h2, h3, h4⟩ := h; exact ⟨a, vs, hω.trans h1, h2, (k a (F_ω h1)).trans h3, h4.ext x⟩

theorem F_congr {p q : Pt} (h1 : q.ι = p.ι) (h2 : q.ω = p.ω) (h3 : q.ο = p.ο) (a : Addr) : q.F a ↔ p.F a := by
  unfold Pt.F; rw [h1, h2, h3]
theorem Sep.congr (s : Sep p) (h1 : q.ι = p.ι) (h2 : q.ω = p.ω) (h3 : q.ο = p.ο) : Sep q := by
  obtain ⟨a, b, c, d, e⟩ := s
  refine ⟨?_, ?_, ?_, ?_, ?_⟩
  · rw [h1]; exact a
  · rw [h2]; exact b
  · rw [h1, h2]; exact c
  · rw [h1, h3]; exact d
  · rw [h2, h3]; exact e
theorem HRel.step (r : HRel C p mh) (x : Ext p q) (h1 : q.ι = p.ι) (h2 : q.ω = p.ω) (h3 : q.ο = p.ο) (k : ∀ a, p.F a → q.H a = p.H a) : HRel C q mh := by
  refine ⟨by rw [h1]; exact r.li, fun n o e => ?_, r.sep.congr h1 h2 h3, fun a f => ?_⟩
  · rcases r.obj n o e with ⟨z, e1⟩ | ⟨a, e1, ro⟩
    · exact .inl ⟨z, by rw [h1]; exact e1⟩
    · exact .inr ⟨a, by rw [h1]; exact e1, ro.ext x (k a (F_ι e1))⟩
  · have f' := (F_congr h1 h2 h3 a).mp f
    rw [k a f']
    exact r.hF a f'
theorem Rel.step (r : Rel C E p σm mh σ) (x : Ext p q) (h1 : q.ι = p.ι) (h2 : q.ω = p.ω) (h3 : q.ο = p.ο) (k : ∀ a, p.F a → q.H a = p.H a) : Rel C E q σm mh σ := by
  refine ⟨r.h.step x h1 h2 h3 k, r.lσ, by rw [h2]; exact r.lω, fun i s e => (r.slot i s e).ext x (by rw [h2]) k, r.ext.trans x, h3.trans r.oE, fun a ha => ?_⟩
  rw [h3] at ha
  exact (k a (.inr (.inr ha))).trans (r.oK a ha)

/-- a new object that nothing of ours knows -/
def Pt.up (p : Pt) (a : Addr) (o : HO) : Pt := { p with H := upd p.H a o }
theorem ext_up {a : Addr} {o : HO} (h : p.H a = none) : Ext p (p.up a o) := by
  refine ⟨fun n o h => .inl h, fun b u e _ => ?_, fun b f => .inl f⟩
  show upd p.H a o b = some u
  rw [upd_ne (ne_of_none e h)]; exact e
theorem Rel.up {a : Addr} {o : HO} (r : Rel C E p σm mh σ) (h : p.H a = none) : Rel C E (p.up a o) σm mh σ :=
  r.step (ext_up h) rfl rfl rfl fun b f => by
    show upd p.H a o b = p.H b
    exact upd_ne fun z => by subst z; exact r.h.hF _ f h
theorem HRel.up {a : Addr} {o : HO} (r : HRel C p mh) (h : p.H a = none) : HRel C (p.up a o) mh :=
  r.step (ext_up h) rfl rfl rfl fun b f => by
    show upd p.H a o b = p.H b
    exact upd_ne fun z => by subst z; exact r.hF _ f h
theorem nF_new {a : Addr} (r : HRel C p mh) (h : p.H a = none) : ¬ p.F a := fun f => r.hF a f h
/-- a new list, a new tuple, as a value -/
theorem rv_lst {a : Addr} {l : List Val} {vs : List V} (r : HRel C p mh) (h : p.H a = none) (v : RVs C p l vs) : RV C (p.up a (.lst vs)) (.lst l) (.ref a) := by
  unfold RV
  have nf : ¬ p.F a := nF_new r h
  exact ⟨a, vs, rfl, .inl ⟨fun f => nf f, .inl upd_same⟩, v.ext (ext_up h)⟩
theorem rv_tup {a : Addr} {l : List Val} {vs : List V} (r : HRel C p mh) (h : p.H a = none) (v : RVs C p l vs) : RV C (p.up a (.tup vs)) (.tup l) (.ref a) := by
  unfold RV
  have nf : ¬ p.F a := nF_new r h
  exact ⟨a, vs, rfl, ⟨fun f => nf f, upd_same⟩, v.ext (ext_up h)⟩

/-- what is mutable is changed at its place -/
theorem ext_wr {a : Addr} {o : HO} (f : p.F a) : Ext p (p.up a o) := by
  refine ⟨fun n o h => .inl h, fun b u e nf => ?_, fun b f => .inl f⟩
  show upd p.H a o b = some u
  rw [upd_ne fun z => nf (by rw [z]; exact f)]; exact e
theorem HRel.write {a : Addr} {o : HO} {n : Nat} {mo : MObj} (r : HRel C p mh) (e : p.ι[n]? = some (some a)) (ro : RO C (p.up a o) mo a) : HRel C (p.up a o) (mh.set n mo) := by
  have f : p.F a := F_ι e
  have hn : n < mh.length := by rw [← r.li]; exact (List.getElem?_eq_some_iff.mp e).1
  refine ⟨by rw [List.length_set]; exact r.li, fun m u em => ?_, r.sep.congr rfl rfl rfl, fun b fb => ?_⟩
  · by_cases q : m = n
    · subst q
      rw [List.getElem?_set_self hn] at em; cases em
      exact .inr ⟨a, e, ro⟩
    · rw [List.getElem?_set_ne (Ne.symm q)] at em
      rcases r.obj m u em with z | ⟨b, e1, rb⟩
      · exact .inl z
      · refine .inr ⟨b, e1, rb.ext (ext_wr f) ?_⟩
        show upd p.H a o b = p.H b
        exact upd_ne fun z => q (r.sep.ii m n a (by rw [← z]; exact e1) e)
  · show upd p.H a o b ≠ none
    by_cases q : b = a
    · rw [q, upd_same]; exact fun z => by cases z
    · rw [upd_ne q]; exact r.hF b fb
theorem Rel.write {a : Addr} {o : HO} {n : Nat} {mo : MObj} (r : Rel C E p σm mh σ) (e : p.ι[n]? = some (some a)) (ro : RO C (p.up a o) mo a) : Rel C E (p.up a o) σm (mh.set n mo) σ := by
  have f : p.F a := F_ι e
  refine ⟨r.h.write e ro, r.lσ, r.lω, fun i s es => ?_, r.ext.trans (ext_wr f), r.oE, fun b hb => ?_⟩
  · have h := r.slot i s es
    cases s with
    | unset => exact h
    | val v => obtain ⟨h1, y, h2, h3⟩ := h; exact ⟨h1, y, h2, h3.ext (ext_wr f)⟩
    | own l =>
      obtain ⟨b, vs, h1, h2, h3, h4⟩ := h
      refine ⟨b, vs, h1, h2, ?_, h4.ext (ext_wr f)⟩
      show upd p.H a o b = _
      rw [upd_ne fun z => r.h.sep.iw n i a e (by rw [← z]; exact h1)]; exact h3
  · show upd p.H a o b = _
    rw [upd_ne fun z => r.h.sep.io n a e (by rw [← z]; exact hb)]; exact r.oK b hb

/-- a new object of ours, by a number -/
def Pt.al (p : Pt) (a : Addr) (o : HO) : Pt := { p with ι := p.ι ++ [some a], H := upd p.H a o }
theorem ext_al {a : Addr} {o : HO} (h : p.H a = none) : Ext p (p.al a o) := by
  refine ⟨fun n u e => .inl ?_, fun b u e _ => ?_, fun b f => ?_⟩
  · show (p.ι ++ [some a])[n]? = some u
    rw [List.getElem?_append_left (List.getElem?_eq_some_iff.mp e).1]; exact e
  · show upd p.H a o b = some u
    rw [upd_ne (ne_of_none e h)]; exact e
  · rcases f with f | f | f
    · have f' : some b ∈ p.ι ++ [some a] := f
      rcases List.mem_append.mp f' with z | z
      · exact .inl (.inl z)
      · have : b = a := by simpa using z
        rw [this]; exact .inr h
    · exact .inl (.inr (.inl f))
    · exact .inl (.inr (.inr f))
theorem al_at {a : Addr} {o : HO} (r : HRel C p mh) : (p.al a o).ι[mh.length]? = some (some a) := by
  show (p.ι ++ [some a])[mh.length]? = _
  rw [← r.li, List.getElem?_append_right (Nat.le_refl _)]; simp
theorem HRel.al {a : Addr} {o : HO} {mo : MObj} (r : HRel C p mh) (h : p.H a = none) (ro : RO C (p.al a o) mo a) : HRel C (p.al a o) (mh ++ [mo]) := by
  have keep : ∀ b, p.F b → (p.al a o).H b = p.H b := fun b f => upd_ne fun z => by subst z; exact r.hF _ f h
  have new : ∀ (n : Nat) (b : Addr), (p.al a o).ι[n]? = some (some b) → p.ι[n]? = some (some b) ∨ (n = mh.length ∧ b = a) := fun n b e => by
    have e' : (p.ι ++ [some a])[n]? = some (some b) := e
    by_cases q : n < p.ι.length
    · rw [List.getElem?_append_left q] at e'; exact .inl e'
    · rw [List.getElem?_append_right (by omega)] at e'
      have hl : n - p.ι.length < 1 := by
        have := (List.getElem?_eq_some_iff.mp e').1
        simpa using this
      have hn : n = p.ι.length := by omega
      subst hn
      simp at e'
      exact .inr ⟨r.li, e'.symm⟩
  refine ⟨by show (p.ι ++ [some a]).length = _; simp [r.li], fun n u e => ?_, ⟨?_, ?_, ?_, ?_, ?_⟩, fun b f => ?_⟩
  · by_cases q : n < mh.length
    · rw [List.getElem?_append_left q] at e
      rcases r.obj n u e with ⟨z, e1⟩ | ⟨b, e1, rb⟩
      · refine .inl ⟨z, ?_⟩
        show (p.ι ++ [some a])[n]? = _
        rw [List.getElem?_append_left (by rw [r.li]; exact q)]; exact e1
      · refine .inr ⟨b, ?_, rb.ext (ext_al h) (keep b (F_ι e1))⟩
        show (p.ι ++ [some a])[n]? = _
        rw [List.getElem?_append_left (by rw [r.li]; exact q)]; exact e1
    · rw [List.getElem?_append_right (by omega)] at e
      have hl : n - mh.length < 1 := by
        have := (List.getElem?_eq_some_iff.mp e).1
        simpa using this
      have hn : n = mh.length := by omega
      subst hn
      simp at e
      subst e
      exact .inr ⟨a, al_at r, ro⟩
  · intro n m b e1 e2
    rcases new n b e1 with x | ⟨x, x'⟩ <;> rcases new m b e2 with y | ⟨y, y'⟩
    · exact r.sep.ii n m b x y
    · subst y'; exact absurd h (r.hF _ (F_ι x))
    · subst x'; exact absurd h (r.hF _ (F_ι y))
    · rw [x, y]
  · exact r.sep.ww
  · intro n m b e1 e2
    rcases new n b e1 with x | ⟨x, x'⟩
    · exact r.sep.iw n m b x e2
    · subst x'; exact r.hF _ (F_ω (p := p) e2) h
  · intro n b e1
    rcases new n b e1 with x | ⟨x, x'⟩
    · exact r.sep.io n b x
    · subst x'; exact fun z => r.hF _ (.inr (.inr z)) h
  · exact r.sep.wo
  · show upd p.H a o b ≠ none
    by_cases q : b = a
    · rw [q, upd_same]; exact fun z => by cases z
    · rw [upd_ne q]
      rcases (ext_al (o := o) h).new b f with z | z
      · exact r.hF b z
      · have f' : some b ∈ p.ι ++ [some a] ∨ some b ∈ p.ω ∨ b ∈ p.ο := f
        rcases f' with f' | f' | f'
        · rcases List.mem_append.mp f' with y | y
          · exact r.hF b (.inl y)
          · have : b = a := by simpa using y
            exact absurd this q
        · exact r.hF b (.inr (.inl f'))
        · exact r.hF b (.inr (.inr f'))
theorem Rel.al {a : Addr} {o : HO} {mo : MObj} (r : Rel C E p σm mh σ) (h : p.H a = none) (ro : RO C (p.al a o) mo a) : Rel C E (p.al a o) σm (mh ++ [mo]) σ := by
  have keep : ∀ b, p.F b → (p.al a o).H b = p.H b := fun b f => upd_ne fun z => by subst z; exact r.h.hF _ f h
  refine ⟨r.h.al h ro, r.lσ, r.lω, fun i s e => (r.slot i s e).ext (ext_al h) rfl keep, r.ext.trans (ext_al h), r.oE, fun b hb => ?_⟩
  exact (keep b (.inr (.inr hb))).trans (r.oK b hb)

/-! ### slots -/
def Pt.un (p : Pt) (i : Nat) : Pt := { p with ω := p.ω.set i none }
theorem F_un {i : Nat} {a : Addr} (f : (p.un i).F a) : p.F a := by
  rcases f with f | f | f
  · exact .inl f
  · obtain ⟨n, hn⟩ := List.getElem?_of_mem (show some a ∈ p.ω.set i none from f)
    by_cases q : n = i
    · subst q
      by_cases hl : n < p.ω.length
      · rw [List.getElem?_set_self hl] at hn; cases hn
      · rw [List.getElem?_eq_none (by rw [List.length_set]; omega)] at hn; cases hn
    · rw [List.getElem?_set_ne (Ne.symm q)] at hn
      exact F_ω hn
  · exact .inr (.inr f)
theorem ext_un {i : Nat} : Ext p (p.un i) := ⟨fun _ _ h => .inl h, fun _ _ h _ => h, fun _ f => .inl (F_un f)⟩
theorem un_at {i n : Nat} {a : Addr} (h : (p.un i).ω[n]? = some (some a)) : n ≠ i ∧ p.ω[n]? = some (some a) := by
  have h' : (p.ω.set i none)[n]? = some (some a) := h
  by_cases q : n = i
  · subst q
    by_cases hl : n < p.ω.length
    · rw [List.getElem?_set_self hl] at h'; cases h'
    · rw [List.getElem?_eq_none (by rw [List.length_set]; omega)] at h'; cases h'
  · rw [List.getElem?_set_ne (Ne.symm q)] at h'
    exact ⟨q, h'⟩
theorem HRel.un {i : Nat} (r : HRel C p mh) : HRel C (p.un i) mh := by
  refine ⟨r.li, fun n o e => ?_, ⟨r.sep.ii, fun n m a x y => r.sep.ww n m a (un_at x).2 (un_at y).2, fun n m a x y => r.sep.iw n m a x (un_at y).2, r.sep.io, fun n a x => r.sep.wo n a (un_at x).2⟩, fun a f => r.hF a (F_un f)⟩
  rcases r.obj n o e with z | ⟨a, e1, ro⟩
  · exact .inl z
  · exact .inr ⟨a, e1, ro.ext ext_un rfl⟩
/-- a value is stored -/
theorem Rel.setV {i : Nat} {v : Val} {x : V} (r : Rel C E p σm mh σ) (hi : i < σm.length) (h : RV C p v x) : Rel C E (p.un i) (σm.set i (.val v)) mh (σ.set i (some x)) := by
  refine ⟨r.h.un, by simp [r.lσ], by show (p.ω.set i none).length = _; simp [r.lω], fun n s e => ?_, r.ext.trans ext_un, r.oE, r.oK⟩
  by_cases q : n = i
  · subst q
    rw [List.getElem?_set_self hi] at e; cases e
    refine ⟨?_, x, by rw [List.getElem?_set_self (by rw [r.lσ]; exact hi)], h.ext ext_un⟩
    show (p.ω.set n none)[n]? = _
    rw [List.getElem?_set_self (by rw [r.lω]; exact hi)]
  · rw [List.getElem?_set_ne (Ne.symm q)] at e
    have h := r.slot n s e
    have hω : (p.un i).ω[n]? = p.ω[n]? := List.getElem?_set_ne (Ne.symm q)
    cases s with
    | unset => exact hω.trans h
    | val w => obtain ⟨h1, y, h2, h3⟩ := h; exact ⟨hω.trans h1, y, by rw [List.getElem?_set_ne (Ne.symm q)]; exact h2, h3.ext ext_un⟩
    | own l => obtain ⟨a, vs, h1, h2, h3, h4⟩ := h; exact ⟨a, vs, hω.trans h1, by rw [List.getElem?_set_ne (Ne.symm q)]; exact h2, h3, h4.ext ext_un⟩
/-- a slot is forgotten -/
theorem Rel.unset {i : Nat} {y : Option V} (r : Rel C E p σm mh σ) (hi : i < σm.length) : Rel C E (p.un i) (σm.set i .unset) mh (σ.set i y) := by
  refine ⟨r.h.un, by simp [r.lσ], by show (p.ω.set i none).length = _; simp [r.lω], fun n s e => ?_, r.ext.trans ext_un, r.oE, r.oK⟩
  by_cases q : n = i
  · subst q
    rw [List.getElem?_set_self hi] at e; cases e
    show (p.ω.set n none)[n]? = _
    rw [List.getElem?_set_self (by rw [r.lω]; exact hi)]
  · rw [List.getElem?_set_ne (Ne.symm q)] at e
    have h := r.slot n s e
    have hω : (p.un i).ω[n]? = p.ω[n]? := List.getElem?_set_ne (Ne.symm q)
    cases s with
    | unset => exact hω.trans h
    | val w => obtain ⟨h1, y, h2, h3⟩ := h; exact ⟨hω.trans h1, y, by rw [List.getElem?_set_ne (Ne.symm q)]; exact h2, h3.ext ext_un⟩
    | own l => obtain ⟨a, vs, h1, h2, h3, h4⟩ := h; exact ⟨a, vs, hω.trans h1, by rw [List.getElem?_set_ne (Ne.symm q)]; exact h2, h3, h4.ext ext_un⟩

/-- a new list is stored as a slot's own -/
def Pt.ow (p : Pt) (i : Nat) (a : Addr) (vs : List V) : Pt := { p with ω := p.ω.set i (some a), H := upd p.H a (.lst vs) }
theorem ow_at {i n : Nat} {a b : Addr} {vs : List V} (h : (p.ow i a vs).ω[n]? = some (some b)) : (n = i ∧ b = a) ∨ (n ≠ i ∧ p.ω[n]? = some (some b)) := by
  have h' : (p.ω.set i (some a))[n]? = some (some b) := h
  by_cases q : n = i
  · subst q
    by_cases hl : n < p.ω.length
    · rw [List.getElem?_set_self hl] at h'
      exact .inl ⟨rfl, by simpa using h'.symm⟩
    · rw [List.getElem?_eq_none (by rw [List.length_set]; omega)] at h'; cases h'
  · rw [List.getElem?_set_ne (Ne.symm q)] at h'
    exact .inr ⟨q, h'⟩
theorem F_ow {i : Nat} {a b : Addr} {vs : List V} (f : (p.ow i a vs).F b) : p.F b ∨ b = a := by
  rcases f with f | f | f
  · exact .inl (.inl f)
  · obtain ⟨n, hn⟩ := List.getElem?_of_mem (show some b ∈ (p.ow i a vs).ω from f)
    rcases ow_at hn with ⟨_, z⟩ | ⟨_, z⟩
    · exact .inr z
    · exact .inl (F_ω z)
  · exact .inl (.inr (.inr f))
theorem ext_ow {i : Nat} {a : Addr} {vs : List V} (h : p.H a = none) : Ext p (p.ow i a vs) := by
  refine ⟨fun _ _ h => .inl h, fun b u e _ => ?_, fun b f => ?_⟩
  · show upd p.H a _ b = some u
    rw [upd_ne (ne_of_none e h)]; exact e
  · rcases F_ow f with z | z
    · exact .inl z
    · rw [z]; exact .inr h
theorem Rel.ow {i : Nat} {a : Addr} {l : List Val} {vs : List V} (r : Rel C E p σm mh σ) (hi : i < σm.length) (h : p.H a = none) (v : RVs C p l vs) :
    Rel C E (p.ow i a vs) (σm.set i (.own l)) mh (σ.set i (some (.ref a))) := by
  have keep : ∀ b, p.F b → (p.ow i a vs).H b = p.H b := fun b f => upd_ne fun z => by subst z; exact r.h.hF _ f h
  have x : Ext p (p.ow i a vs) := ext_ow h
  refine ⟨⟨r.h.li, fun n o e => ?_, ⟨r.h.sep.ii, ?_, ?_, r.h.sep.io, ?_⟩, fun b f => ?_⟩, by simp [r.lσ], by show (p.ω.set i _).length = _; simp [r.lω], fun n s e => ?_, r.ext.trans x, r.oE, fun b hb => (keep b (.inr (.inr hb))).trans (r.oK b hb)⟩
  · rcases r.h.obj n o e with z | ⟨b, e1, ro⟩
    · exact .inl z
    · exact .inr ⟨b, e1, ro.ext x (keep b (F_ι e1))⟩
  · intro n m b e1 e2
    rcases ow_at e1 with ⟨y1, y2⟩ | ⟨y1, y2⟩ <;> rcases ow_at e2 with ⟨z1, z2⟩ | ⟨z1, z2⟩
    · rw [y1, z1]
    · subst y2; exact absurd h (r.h.hF _ (F_ω z2))
    · subst z2; exact absurd h (r.h.hF _ (F_ω y2))
    · exact r.h.sep.ww n m b y2 z2
  · intro n m b e1 e2
    rcases ow_at e2 with ⟨z1, z2⟩ | ⟨z1, z2⟩
    · subst z2; exact r.h.hF _ (F_ι (p := p) e1) h
    · exact r.h.sep.iw n m b e1 z2
  · intro n b e1
    rcases ow_at e1 with ⟨z1, z2⟩ | ⟨z1, z2⟩
    · subst z2; exact fun w => r.h.hF _ (.inr (.inr w)) h
    · exact r.h.sep.wo n b z2
  · show upd p.H a _ b ≠ none
    rcases F_ow f with z | z
    · rw [upd_ne fun w => by subst w; exact r.h.hF _ z h]; exact r.h.hF b z
    · rw [z, upd_same]; exact fun w => by cases w
  · by_cases q : n = i
    · subst q
      rw [List.getElem?_set_self hi] at e; cases e
      refine ⟨a, vs, ?_, by rw [List.getElem?_set_self (by rw [r.lσ]; exact hi)], upd_same, v.ext x⟩
      show (p.ω.set n (some a))[n]? = _
      rw [List.getElem?_set_self (by rw [r.lω]; exact hi)]
    · rw [List.getElem?_set_ne (Ne.symm q)] at e
      have h := r.slot n s e
      have hω : (p.ow i a vs).ω[n]? = p.ω[n]? := List.getElem?_set_ne (Ne.symm q)
      cases s with
      | unset => exact hω.trans h
      | val w => obtain ⟨h1, y, h2, h3⟩ := h; exact ⟨hω.trans h1, y, by rw [List.getElem?_set_ne (Ne.symm q)]; exact h2, h3.ext x⟩
      | own l => obtain ⟨b, ws, h1, h2, h3, h4⟩ := h; exact ⟨b, ws, hω.trans h1, by rw [List.getElem?_set_ne (Ne.symm q)]; exact h2, (keep b (F_ω h1)).trans h3, h4.ext x⟩
/-- a slot's own list is changed -/
theorem Rel.owr {i : Nat} {a : Addr} {l l' : List Val} {vs : List V} (r : Rel C E p σm mh σ) (e : σm[i]? = some (.own l)) (ha : p.ω[i]? = some (some a)) (v : RVs C p l' vs) : Rel C E (p.up a (.lst vs)) (σm.set i (.own l')) mh σ := by
  have f : p.F a := F_ω ha
  have x : Ext p (p.up a (.lst vs)) := ext_wr f
  have hi : i < σm.length := (List.getElem?_eq_some_iff.mp e).1
  have keep : ∀ b, b ≠ a → (p.up a (.lst vs)).H b = p.H b := fun b z => upd_ne z
  refine ⟨⟨r.h.li, fun n o en => ?_, r.h.sep.congr rfl rfl rfl, fun b fb => ?_⟩, by simp [r.lσ], by simp [Pt.up, r.lω], fun n s en => ?_, r.ext.trans x, r.oE, fun b hb => ?_⟩
  · rcases r.h.obj n o en with z | ⟨b, e1, ro⟩
    · exact .inl z
    · exact .inr ⟨b, e1, ro.ext x (keep b fun z => r.h.sep.iw n i a (by rw [← z]; exact e1) ha)⟩
  · show upd p.H a _ b ≠ none
    by_cases q : b = a
    · rw [q, upd_same]; exact fun z => by cases z
    · rw [upd_ne q]; exact r.h.hF b fb
  · by_cases q : n = i
    · subst q
      rw [List.getElem?_set_self hi] at en; cases en
      obtain ⟨b, ws, h1, h2, h3, h4⟩ := r.slot n _ e
      rw [ha] at h1; cases h1
      exact ⟨a, vs, ha, h2, upd_same, v.ext x⟩
    · rw [List.getElem?_set_ne (Ne.symm q)] at en
      have h := r.slot n s en
      cases s with
      | unset => exact h
      | val w => obtain ⟨h1, y, h2, h3⟩ := h; exact ⟨h1, y, h2, h3.ext x⟩
      | own l => obtain ⟨b, ws, h1, h2, h3, h4⟩ := h; exact ⟨b, ws, h1, h2, (keep b fun z => q (r.h.sep.ww n i a (by rw [← z]; exact h1) ha)).trans h3, h4.ext x⟩
  · exact (keep b fun z => r.h.sep.wo i a ha (by rw [← z]; exact hb)).trans (r.oK b hb)
/-- a slot's own list becomes a value -/
theorem Rel.frz {i : Nat} {l : List Val} (r : Rel C E p σm mh σ) (e : σm[i]? = some (.own l)) : Rel C E (p.un i) (σm.set i (.val (.lst l))) mh σ ∧ ∃ x, σ[i]? = some (some x) ∧ RV C (p.un i) (.lst l) x := by
  have hi : i < σm.length := (List.getElem?_eq_some_iff.mp e).1
  obtain ⟨a, vs, h1, h2, h3, h4⟩ := r.slot i _ e
  have nf : ¬ (p.un i).F a := fun f => by
    rcases f with f | f | f
    · obtain ⟨n, hn⟩ := List.getElem?_of_mem f
      exact r.h.sep.iw n i a hn h1
    · obtain ⟨n, hn⟩ := List.getElem?_of_mem (show some a ∈ (p.un i).ω from f)
      have := un_at hn
      exact this.1 (r.h.sep.ww n i a this.2 h1)
    · exact r.h.sep.wo i a h1 f
  have rv : RV C (p.un i) (.lst l) (.ref a) := by
    unfold RV
    exact ⟨a, vs, rfl, .inl ⟨nf, .inl h3⟩, h4.ext ext_un⟩
  refine ⟨⟨r.h.un, by simp [r.lσ], by show (p.ω.set i none).length = _; simp [r.lω], fun n s en => ?_, r.ext.trans ext_un, r.oE, r.oK⟩, _, h2, rv⟩
  by_cases q : n = i
  · subst q
    rw [List.getElem?_set_self hi] at en; cases en
    refine ⟨?_, _, h2, rv⟩
    show (p.ω.set n none)[n]? = _
    rw [List.getElem?_set_self (by rw [r.lω]; exact hi)]
  · rw [List.getElem?_set_ne (Ne.symm q)] at en
    have h := r.slot n s en
    have hω : (p.un i).ω[n]? = p.ω[n]? := List.getElem?_set_ne (Ne.symm q)
    cases s with
    | unset => exact hω.trans h
    | val w => obtain ⟨h1, y, h2, h3⟩ := h; exact ⟨hω.trans h1, y, h2, h3.ext ext_un⟩
    | own l => obtain ⟨a, vs, h1, h2, h3, h4⟩ := h; exact ⟨a, vs, hω.trans h1, h2, h3, h4.ext ext_un⟩
end
end Mi
/-! Mi2: results, judgements, the parts of expressions. -/
namespace Mi
open PySem L2

inductive Res (α : Type) where
  | ok (a : α) (h : MH) | exc (c : String) (f : Option Val) (h : MH) | bad
def Res.bind {α β : Type} (r : Res α) (k : α → MH → Res β) : Res β :=
  match r with
  | .ok a h => k a h
  | .exc c f h => .exc c f h
  | .bad => .bad
abbrev ME (α : Type) := Env → MH → Res α
def mMap {α β : Type} (f : α → β) (m : ME α) : ME β := fun σ h => (m σ h).bind fun a h1 => .ok (f a) h1

/-- an exception in the air, of such a class and field -/
def RX (C : Cn) (q : Pt) (c : String) (f : Option Val) (cls : Value) (d : Option Addr) : Prop :=
  cls = .ref (C.cn c) ∧ match f with
    | none => d = none
    | some v => ∃ dd fs y, d = some dd ∧ ¬ q.F dd ∧ q.H dd = some (.xd fs) ∧ fs.lookup ("row" : Str) = some y ∧ RV C q v y

abbrev RR (α β : Type) := Cn → Pt → Env → L2.St → α → β → Prop
def RVr : RR Val V := fun C p _ _ v x => RV C p v x
def RVsr : RR (List Val) (List V) := fun C p _ _ v x => RVs C p v x
/-- a value, or a list that a slot owns, as it stands now -/
def RVT : RR Val V := fun C p σm σ v x => RV C p v x ∨ ∃ (i : Nat) (l : List Val) (a : Addr), v = Val.lst l ∧ x = V.ref a ∧ σm[i]? = some (Slot.own l) ∧ σ[i]? = some (some (V.ref a))
theorem RV.t {C : Cn} {p : Pt} {σm : Env} {σ : L2.St} {v : Val} {x : V} (h : RV C p v x) : RVT C p σm σ v x := .inl h
theorem RVT.ext {C : Cn} {p q : Pt} {σm : Env} {σ : L2.St} {v : Val} {x : V} (e : Ext p q) (h : RVT C p σm σ v x) : RVT C q σm σ v x := h.imp (fun h => h.ext e) id
theorem RVT.here {C : Cn} {E p : Pt} {σm : Env} {mh : MH} {σ : L2.St} {v : Val} {x : V} (R : Rel C E p σm mh σ) (h : RVT C p σm σ v x) : RV C p v x ∨ ∃ (l : List Val) (a : Addr) (vs : List V), v = Val.lst l ∧ x = V.ref a ∧ p.H a = some (HO.lst vs) ∧ RVs C p l vs := by
  refine h.imp id fun ⟨i, l, a, h1, h2, h3, h4⟩ => ?_
  obtain ⟨b, vs, e0, e2, e3, rv⟩ := R.slot i _ h3
  rw [h4] at e2; cases e2
  exact ⟨l, a, vs, h1, h2, e3, rv⟩
/-- what is left to be shown where a mirror's result is known -/
def post {α β : Type} (R : RR α β) (C : Cn) (W : WX) (E p : Pt) (σm : Env) (σ : L2.St) (Q : β → Hp → Prop) : Res α → Prop
  | .ok v h => ∀ q x, Rel C E q σm h σ → Ext p q → R C q σm σ v x → Q x q.H
  | .exc c f h => ∀ q cls d, Rel C E q σm h σ → Ext p q → RX C q c f cls d → W cls d σ q.H
  | .bad => False
theorem post.ext {α β : Type} {R : RR α β} {C : Cn} {W : WX} {E p q : Pt} {σm : Env} {σ : L2.St} {Q : β → Hp → Prop} {r : Res α} (x : Ext p q) (h : post R C W E p σm σ Q r) : post R C W E q σm σ Q r := by
  cases r with
  | ok v m => exact fun q' y r e => h q' y r (x.trans e)
  | exc c f m => exact fun q' cls d r e => h q' cls d r (x.trans e)
  | bad => exact h
/-- from a part to the whole -/
theorem post.bind {α β γ δ : Type} {R : RR α β} {R' : RR γ δ} {C : Cn} {W : WX} {E p : Pt} {σm : Env} {σ : L2.St} {Q : β → Hp → Prop} {Q' : δ → Hp → Prop} {r : Res α} {k : α → MH → Res γ}
    (h : post R' C W E p σm σ Q' (r.bind k)) (f : ∀ v mh q x, Rel C E q σm mh σ → Ext p q → R C q σm σ v x → post R' C W E q σm σ Q' (k v mh) → Q x q.H) : post R C W E p σm σ Q r := by
  cases r with
  | ok v m => exact fun q x r e rv => f v m q x r e rv (post.ext e h)
  | exc c g m => exact h
  | bad => exact h

def tG {α β : Type} (R : RR α β) (C : Cn) (W : WX) (m : ME α) : L2.St → Hp → (β → Hp → Prop) → Prop := fun σ H Q => ∃ E p σm mh, p.H = H ∧ Rel C E p σm mh σ ∧ post R C W E p σm σ Q (m σm mh)

/-- an expression's mirror: a value that stays; a value as it stands now; a test; arguments -/
def EM (X : Cx) (cn : String → Addr) (W : WX) (e : Expr) (m : ME Val) : Prop := PE X e (tG RVr ⟨X.K, cn⟩ W m)
def ET (X : Cx) (cn : String → Addr) (W : WX) (e : Expr) (m : ME Val) : Prop := PE X e (tG RVT ⟨X.K, cn⟩ W m)
def RB : RR Bool Bool := fun _ _ _ _ a b => b = a
def TM (X : Cx) (cn : String → Addr) (W : WX) (e : Expr) (m : ME Bool) : Prop := PT X e (tG RB ⟨X.K, cn⟩ W m)
def TW (X : Cx) (cn : String → Addr) (W : WX) (e : Expr) (m : ME Bool) : Prop := PW X e (tG RB ⟨X.K, cn⟩ W m)
/-- a new list, not laid down as yet -/
def tFr (C : Cn) (W : WX) (m : ME (List Val)) : TE := fun σ H Q => ∃ E p σm mh, p.H = H ∧ Rel C E p σm mh σ ∧
  match m σm mh with
  | .ok l h => ∀ q a vs, Rel C E q σm h σ → Ext p q → q.H a = none → RVs C q l vs → Q (.ref a) (upd q.H a (.lst vs))
  | .exc c f h => ∀ q cls d, Rel C E q σm h σ → Ext p q → RX C q c f cls d → W cls d σ q.H
  | .bad => False
def EF (X : Cx) (cn : String → Addr) (W : WX) (e : Expr) (m : ME (List Val)) : Prop := PE X e (tFr ⟨X.K, cn⟩ W m)
def RVTs : RR (List Val) (List V) := fun C p σm σ l xs => Paired (RVT C p σm σ) l xs
def AM (X : Cx) (cn : String → Addr) (W : WX) (es : List Expr) (m : ME (List Val)) : Prop := PA X es (tG RVsr ⟨X.K, cn⟩ W m)
def AT (X : Cx) (cn : String → Addr) (W : WX) (es : List Expr) (m : ME (List Val)) : Prop := PA X es (tG RVTs ⟨X.K, cn⟩ W m)

section
variable {X : Cx} {cn : String → Addr} {W : WX} {e a b c : Expr} {pos : Pos}

theorem PE.wk {t t' : TE} (h : PE X e t) (k : ∀ σ H Q, t' σ H Q → t σ H Q) : PE X e t' := ⟨fun pins s σ H Q I w => h.run pins s σ H Q I (k σ H Q w)⟩
theorem PT.wk {t t' : TT} (h : PT X e t) (k : ∀ σ H Q, t' σ H Q → t σ H Q) : PT X e t' := ⟨fun pins s σ H Q I w => h.run pins s σ H Q I (k σ H Q w)⟩
theorem PW.wk {t t' : TT} (h : PW X e t) (k : ∀ σ H Q, t' σ H Q → t σ H Q) : PW X e t' := ⟨fun wh pins s σ H Q I w => h.run wh pins s σ H Q I (k σ H Q w)⟩
theorem PA.wk {es : List Expr} {t t' : TA} (h : PA X es t) (k : ∀ σ H Q, t' σ H Q → t σ H Q) : PA X es t' := ⟨fun ps pins s σ H Q I w => h.run ps pins s σ H Q I (k σ H Q w)⟩
theorem PS.wk {st : Stmt} {t t' : TS} (h : PS X st t) (k : ∀ D σ H, t' D σ H → t D σ H) : PS X st t' := ⟨fun pins s σ H D I w => h.run pins s σ H D I (k D σ H w)⟩

theorem EM.t {m : ME Val} (h : EM X cn W e m) : ET X cn W e m := PE.wk h fun σ H Q ⟨E, p, σm, mh, e1, R, k⟩ => ⟨E, p, σm, mh, e1, R, by
  cases r : m σm mh with
  | ok v h => rw [r] at k; exact fun q x R x' rv => k q x R x' rv.t
  | exc c f h => rw [r] at k; exact k
  | bad => rw [r] at k; exact k⟩
/-- a new list, as a value -/
theorem EF.v {m : ME (List Val)} (h : EF X cn W e m) : EM X cn W e (mMap Val.lst m) := PE.wk h fun σ H Q ⟨E, p, σm, mh, e1, R, k⟩ => ⟨E, p, σm, mh, e1, R, by
  unfold mMap at k
  cases r : m σm mh with
  | ok l h =>
    rw [r] at k
    intro q a vs R x hn rv
    exact k (q.up a (.lst vs)) (.ref a) (R.up hn) (x.trans (ext_up hn)) (rv_lst R.h hn rv)
  | exc c f h => rw [r] at k; exact k
  | bad => rw [r] at k; exact k⟩
/-- .. as an object by its number -/
def mNewL (m : ME (List Val)) : ME Val := fun σ h => (m σ h).bind fun l h1 => .ok (.ref h1.length) (h1 ++ [.lst l])
theorem EF.r {m : ME (List Val)} (h : EF X cn W e m) : EM X cn W e (mNewL m) := PE.wk h fun σ H Q ⟨E, p, σm, mh, e1, R, k⟩ => ⟨E, p, σm, mh, e1, R, by
  unfold mNewL at k
  cases r : m σm mh with
  | ok l h =>
    rw [r] at k
    intro q a vs R x hn rv
    refine k (q.al a (.lst vs)) (.ref a) (R.al hn ⟨vs, upd_same, rv.ext (ext_al hn)⟩) (x.trans (ext_al hn)) ?_
    show RV _ _ _ _
    unfold RV
    exact ⟨a, rfl, .inl (al_at R.h)⟩
  | exc c f h => rw [r] at k; exact k
  | bad => rw [r] at k; exact k⟩

/-! ### constants, names -/
@[simp] def mC (v : Val) : ME Val := fun _ h => .ok v h
theorem tC_of {v : Val} {x : V} (r : ∀ (C : Cn) p, RV C p v x) {C : Cn} {σ : L2.St} {H : Hp} {Q : VK} (h : tG RVr C W (mC v) σ H Q) : tC x σ H Q := by
  obtain ⟨E, p, σm, mh, rfl, R, k⟩ := h
  exact k p x R (Ext.refl p) (r C p)
theorem e_int {i : Int} {j : Nat} : EM X cn W (.Constant (.int i) j pos) (mC (.int i)) := PE.wk pe_int fun σ H Q h => tC_of (fun _ _ => by unfold RV; rfl) h
theorem e_bl {i : Bool} {j : Nat} : EM X cn W (.Constant (.bool i) j pos) (mC (.bl i)) := PE.wk pe_bl fun σ H Q h => tC_of (fun _ _ => by unfold RV; rfl) h
theorem e_non {j : Nat} : EM X cn W (.Constant .none j pos) (mC .non) := PE.wk pe_non fun σ H Q h => tC_of (fun _ _ => by unfold RV; rfl) h
theorem e_str {x : Str} {l : Tx} {j : Nat} (h : x = S l) : EM X cn W (.Constant (.str x) j pos) (mC (.str l)) := PE.wk pe_str fun σ H Q k => tC_of (fun _ _ => by unfold RV; rw [h]) k
/-- a constant of the module -/
theorem e_glob {x : Str} {v : Val} {y : V} {u : Value} (hg : Gl X x) (hm : X.mg x = some u) (r : RelV y u) (rv : ∀ p, RV ⟨X.K, cn⟩ p v y) (hd : (x == ("__debug__" : Str)) = false := by decide) : EM X cn W (.Name x pos) (mC v) :=
  PE.wk (pe_glob hg hm r hd) fun σ H Q ⟨E, p, σm, mh, e1, R, k⟩ => by subst e1; exact k p y R (Ext.refl p) (rv p)
def mV (i : Nat) : ME Val := fun σ h => match σ[i]? with
  | some (.val v) => .ok v h
  | _ => .bad
def mO (i : Nat) : ME Val := fun σ h => match σ[i]? with
  | some (.own l) => .ok (.lst l) h
  | _ => .bad
theorem e_var (i : Nat) {x : Str} (hN : X.N[i]? = some x := by rfl) (hv : Vis X.env.scope x := by first | exact Or.inl rfl | exact Or.inr (Or.inl rfl) | exact Or.inr (Or.inr rfl)) (hd : (x == ("__debug__" : Str)) = false := by decide)
    (hcd : (x == ("__classdict__" : Str)) = false := by decide) : EM X cn W (.Name x pos) (mV i) := PE.wk (pe_var hN hv hd hcd) fun σ H Q ⟨E, p, σm, mh, e1, R, k⟩ => by
  subst e1
  unfold mV at k
  cases hs : σm[i]? with
  | none => rw [hs] at k; exact k.elim
  | some s =>
    rw [hs] at k
    cases s with
    | unset => exact k.elim
    | own l => exact k.elim
    | val v =>
      obtain ⟨_, y, e2, rv⟩ := R.slot i _ hs
      exact ⟨y, e2, k p y R (Ext.refl p) rv⟩
theorem e_own (i : Nat) {x : Str} (hN : X.N[i]? = some x := by rfl) (hv : Vis X.env.scope x := by first | exact Or.inl rfl | exact Or.inr (Or.inl rfl) | exact Or.inr (Or.inr rfl)) (hd : (x == ("__debug__" : Str)) = false := by decide)
    (hcd : (x == ("__classdict__" : Str)) = false := by decide) : ET X cn W (.Name x pos) (mO i) := PE.wk (pe_var hN hv hd hcd) fun σ H Q ⟨E, p, σm, mh, e1, R, k⟩ => by
  subst e1
  unfold mO at k
  cases hs : σm[i]? with
  | none => rw [hs] at k; exact k.elim
  | some s =>
    rw [hs] at k
    cases s with
    | unset => exact k.elim
    | val v => exact k.elim
    | own l =>
      obtain ⟨a, vs, e0, e2, e3, rv⟩ := R.slot i _ hs
      exact ⟨.ref a, e2, k p (.ref a) R (Ext.refl p) (.inr ⟨i, l, a, rfl, rfl, hs, e2⟩)⟩

/-! ### argument lists -/
@[simp] def mNil : ME (List Val) := fun _ h => .ok [] h
def mCons (m : ME Val) (r : ME (List Val)) : ME (List Val) := fun σ h => (m σ h).bind fun v h1 => (r σ h1).bind fun l h2 => .ok (v :: l) h2
theorem a_nil : AM X cn W [] mNil := PA.wk pa_nil fun σ H Q ⟨E, p, σm, mh, e1, R, k⟩ => by
  subst e1
  exact k p [] R (Ext.refl p) .nil
theorem a_cons {es : List Expr} {m : ME Val} {r : ME (List Val)} (ha : EM X cn W e m) (hr : AM X cn W es r) (hs : starEach (e :: es) X.env = (false, eval e X.env) :: starEach es X.env := by rfl) : AM X cn W (e :: es) (mCons m r) :=
  PA.wk (pa_cons ha hr hs) fun σ H Q ⟨E, p, σm, mh, e1, R, k⟩ => ⟨E, p, σm, mh, e1, R, k.bind fun v mh1 q x R1 x1 rv k1 => ⟨E, q, σm, mh1, rfl, R1, k1.bind fun l mh2 q2 xs R2 x2 rs k2 => k2 q2 (x :: xs) R2 (Ext.refl q2) (.cons (rv.ext x2) rs)⟩⟩
theorem t_nil : AT X cn W [] mNil := PA.wk pa_nil fun σ H Q ⟨E, p, σm, mh, e1, R, k⟩ => by
  subst e1
  exact k p [] R (Ext.refl p) .nil
theorem Paired_imp {α β : Type} {F G : α → β → Prop} (f : ∀ a b, F a b → G a b) : ∀ {l : List α} {m : List β}, Paired F l m → Paired G l m
  | _, _, .nil => .nil
  | _, _, .cons r t => .cons (f _ _ r) (Paired_imp f t)
theorem t_cons {es : List Expr} {m : ME Val} {r : ME (List Val)} (ha : ET X cn W e m) (hr : AT X cn W es r) (hs : starEach (e :: es) X.env = (false, eval e X.env) :: starEach es X.env := by rfl) : AT X cn W (e :: es) (mCons m r) :=
  PA.wk (pa_cons ha hr hs) fun σ H Q ⟨E, p, σm, mh, e1, R, k⟩ => ⟨E, p, σm, mh, e1, R, k.bind fun v mh1 q x R1 x1 rv k1 => ⟨E, q, σm, mh1, rfl, R1, k1.bind fun l mh2 q2 xs R2 x2 rs k2 => k2 q2 (x :: xs) R2 (Ext.refl q2) (.cons (RVT.ext x2 rv) rs)⟩⟩
theorem AM.t {es : List Expr} {m : ME (List Val)} (h : AM X cn W es m) : AT X cn W es m := PA.wk h fun σ H Q ⟨E, p, σm, mh, e1, R, k⟩ => ⟨E, p, σm, mh, e1, R, by
  have go : ∀ {C : Cn} {q : Pt} {l : List Val} {xs : List V}, RVs C q l xs → Paired (RVT C q σm σ) l xs := fun {C q l} => by
    induction l with
    | nil => intro xs h; rw [h.nil_inv]; exact .nil
    | cons v l ih =>
      intro xs h
      obtain ⟨x, r, rfl, h1, h2⟩ := h.cons_inv
      exact .cons h1.t (ih h2)
  cases r : m σm mh with
  | ok v h => rw [r] at k; exact fun q x R x' rv => k q x R x' (go rv)
  | exc c f h => rw [r] at k; exact k
  | bad => rw [r] at k; exact k⟩
end
end Mi
/-! Mi3: operators by mirror values. -/
namespace Mi
open PySem L2 PyProof.Rows

/-! ### data -/
mutual
def toD : Val → PyData
  | .bl b => .bool b
  | .int i => .int i
  | .str s => .str (S s)
  | .tup l => .tuple (toDs l)
  | .lst l => .list (toDs l)
  | .non => .none
  | .ref _ => .none
  | .exc _ _ => .none
  | .ktp _ => .none
def toDs : List Val → List PyData
  | [] => []
  | v :: l => toD v :: toDs l
end
/-- signs that are Unicode's -/
def txOk (s : Tx) : Bool := s.all (· < 1114112)
/-- data at most n deep -/
def wfD : Nat → Val → Bool
  | _, .non => true
  | _, .bl _ => true
  | _, .int _ => true
  | _, .str s => txOk s
  | n + 1, .tup l => l.all (wfD n)
  | n + 1, .lst l => l.all (wfD n)
  | _, _ => false
mutual
/-- == of data -/
def veq : Val → Val → Bool
  | .non, .non => true
  | .bl a, .bl b => a == b
  | .bl a, .int j => (if a then 1 else 0) == j
  | .int i, .bl b => i == (if b then 1 else 0)
  | .int i, .int j => i == j
  | .str x, .str y => x == y
  | .tup l, .tup m => veqs l m
  | .lst l, .lst m => veqs l m
  | _, _ => false
def veqs : List Val → List Val → Bool
  | [], [] => true
  | x :: xs, y :: ys => veq x y && veqs xs ys
  | _, _ => false
end
theorem strOk_S (s : Tx) : PyData.strOk (S s) = txOk s := by
  unfold PyData.strOk txOk S
  simp
theorem toDs_eq (l : List Val) : toDs l = l.map toD := by
  induction l with
  | nil => unfold toDs; rfl
  | cons v l ih => unfold toDs; rw [ih]; rfl
theorem canLayAll0_all (l : List PyData) : PyData.canLayAll0 l = l.all PyData.canLay0 := by
  induction l with
  | nil => simp [PyData.canLayAll0]
  | cons v l ih => simp [PyData.canLayAll0, ih]
theorem depthAll_le {n : Nat} {l : List PyData} (h : ∀ d ∈ l, d.depth ≤ n) : PyData.depthAll l ≤ n := by
  induction l with
  | nil => simp [PyData.depthAll]
  | cons v l ih =>
    have h1 := h v List.mem_cons_self
    have h2 := ih fun d hd => h d (List.mem_cons_of_mem _ hd)
    simp only [PyData.depthAll]; omega
theorem wfD_shape : ∀ (n : Nat) (v : Val), wfD n v = true → (toD v).canLay0 = true ∧ (toD v).depth ≤ n
  | n, .non, _ => by simp [toD, PyData.canLay0, PyData.depth]
  | n, .bl _, _ => by simp [toD, PyData.canLay0, PyData.depth]
  | n, .int _, _ => by simp [toD, PyData.canLay0, PyData.depth]
  | n, .str s, h => by
    have h' : txOk s = true := by cases n <;> simpa [wfD] using h
    simp [toD, PyData.canLay0, PyData.depth, strOk_S, h']
  | 0, .tup l, h => by simp [wfD] at h
  | 0, .lst l, h => by simp [wfD] at h
  | n + 1, .tup l, h => by
    have h' : ∀ x ∈ l, wfD n x = true := by simpa [wfD] using h
    have ih := fun x hx => wfD_shape n x (h' x hx)
    simp only [toD, toDs_eq, PyData.canLay0, canLayAll0_all, PyData.depth, List.all_map, List.all_eq_true]
    refine ⟨fun x hx => (ih x hx).1, ?_⟩
    have : PyData.depthAll (l.map toD) ≤ n := depthAll_le fun d hd => by
      obtain ⟨x, hx, rfl⟩ := List.mem_map.mp hd
      exact (ih x hx).2
    omega
  | n + 1, .lst l, h => by
    have h' : ∀ x ∈ l, wfD n x = true := by simpa [wfD] using h
    have ih := fun x hx => wfD_shape n x (h' x hx)
    simp only [toD, toDs_eq, PyData.canLay0, canLayAll0_all, PyData.depth, List.all_map, List.all_eq_true]
    refine ⟨fun x hx => (ih x hx).1, ?_⟩
    have : PyData.depthAll (l.map toD) ≤ n := depthAll_le fun d hd => by
      obtain ⟨x, hx, rfl⟩ := List.mem_map.mp hd
      exact (ih x hx).2
    omega
  | n, .ref _, h => by cases n <;> simp [wfD] at h
  | n, .exc _ _, h => by cases n <;> simp [wfD] at h
  | n, .ktp _, h => by cases n <;> simp [wfD] at h
theorem wfD_shaped {v : Val} (h : wfD 64 v = true) : SeqAt.shaped (toD v) = true := by
  have := wfD_shape 64 v h
  unfold SeqAt.shaped
  simp [this.1, this.2]
theorem S_beq (a b : Tx) : (S a == S b) = (a == b) := by
  rw [Bool.eq_iff_iff]
  simp [S_eq]
mutual
theorem eqv_veq : ∀ (n : Nat) (a b : Val), wfD n a = true → wfD n b = true → PyData.eqv (toD a) (toD b) = veq a b
  | n, .tup l, .tup m, ha, hb => by
    cases n with
    | zero => simp [wfD] at ha
    | succ n =>
      simp only [toD, PyData.eqv, veq]
      exact eqvs_veqs n l m (by simpa [wfD] using ha) (by simpa [wfD] using hb)
  | n, .lst l, .lst m, ha, hb => by
    cases n with
    | zero => simp [wfD] at ha
    | succ n =>
      simp only [toD, PyData.eqv, veq]
      exact eqvs_veqs n l m (by simpa [wfD] using ha) (by simpa [wfD] using hb)
  | n, .non, b, ha, hb => by cases b <;> first | (simp [toD, PyData.eqv, veq]; done) | (cases n <;> simp [wfD] at hb)
  | n, .bl _, b, ha, hb => by cases b <;> first | (simp [toD, PyData.eqv, veq]; done) | (cases n <;> simp [wfD] at hb)
  | n, .int _, b, ha, hb => by cases b <;> first | (simp [toD, PyData.eqv, veq]; done) | (cases n <;> simp [wfD] at hb)
  | n, .str _, b, ha, hb => by cases b <;> first | (simp [toD, PyData.eqv, veq, S_beq]; done) | (cases n <;> simp [wfD] at hb)
  | n, .tup l, .non, ha, hb => by simp [toD, PyData.eqv, veq]
  | n, .tup l, .bl _, ha, hb => by simp [toD, PyData.eqv, veq]
  | n, .tup l, .int _, ha, hb => by simp [toD, PyData.eqv, veq]
  | n, .tup l, .str _, ha, hb => by simp [toD, PyData.eqv, veq]
  | n, .tup l, .lst _, ha, hb => by simp [toD, PyData.eqv, veq]
  | n, .tup l, .ref _, ha, hb => by cases n <;> simp [wfD] at hb
  | n, .tup l, .exc _ _, ha, hb => by cases n <;> simp [wfD] at hb
  | n, .tup l, .ktp _, ha, hb => by cases n <;> simp [wfD] at hb
  | n, .lst l, .non, ha, hb => by simp [toD, PyData.eqv, veq]
  | n, .lst l, .bl _, ha, hb => by simp [toD, PyData.eqv, veq]
  | n, .lst l, .int _, ha, hb => by simp [toD, PyData.eqv, veq]
  | n, .lst l, .str _, ha, hb => by simp [toD, PyData.eqv, veq]
  | n, .lst l, .tup _, ha, hb => by simp [toD, PyData.eqv, veq]
  | n, .lst l, .ref _, ha, hb => by cases n <;> simp [wfD] at hb
  | n, .lst l, .exc _ _, ha, hb => by cases n <;> simp [wfD] at hb
  | n, .lst l, .ktp _, ha, hb => by cases n <;> simp [wfD] at hb
  | n, .ref _, b, ha, hb => by cases n <;> simp [wfD] at ha
  | n, .exc _ _, b, ha, hb => by cases n <;> simp [wfD] at ha
  | n, .ktp _, b, ha, hb => by cases n <;> simp [wfD] at ha
theorem eqvs_veqs : ∀ (n : Nat) (l m : List Val), (∀ x ∈ l, wfD n x = true) → (∀ x ∈ m, wfD n x = true) → PyData.eqvAll (toDs l) (toDs m) = veqs l m
  | n, [], [], _, _ => by simp [toDs, PyData.eqvAll, veqs]
  | n, x :: l, [], _, _ => by simp [toDs, PyData.eqvAll, veqs]
  | n, [], y :: m, _, _ => by simp [toDs, PyData.eqvAll, veqs]
  | n, x :: l, y :: m, h1, h2 => by
    simp only [toDs, PyData.eqvAll, veqs]
    rw [eqv_veq n x y (h1 x List.mem_cons_self) (h2 y List.mem_cons_self), eqvs_veqs n l m (fun z hz => h1 z (List.mem_cons_of_mem _ hz)) fun z hz => h2 z (List.mem_cons_of_mem _ hz)]
end
mutual
theorem RV.dp {C : Cn} {p : Pt} : ∀ (n : Nat) {v : Val} {x : V}, wfD n v = true → RV C p v x → Dp C.K p.H x (toD v)
  | n, .non, x, _, h => by unfold RV at h; subst h; exact .non
  | n, .bl b, x, _, h => by unfold RV at h; subst h; exact .bl b
  | n, .int i, x, _, h => by unfold RV at h; subst h; exact .int i
  | n, .str s, x, _, h => by unfold RV at h; subst h; exact .str _
  | 0, .tup l, x, w, h => by simp [wfD] at w
  | 0, .lst l, x, w, h => by simp [wfD] at w
  | n + 1, .tup l, x, w, h => by
    unfold RV at h
    obtain ⟨a, vs, rfl, t, r⟩ := h
    exact .tup t.sq (RVs.dp n (by simpa [wfD] using w) r)
  | n + 1, .lst l, x, w, h => by
    unfold RV at h
    obtain ⟨a, vs, rfl, t, r⟩ := h
    exact .lst t.sq (RVs.dp n (by simpa [wfD] using w) r)
  | n, .ref _, x, w, h => by cases n <;> simp [wfD] at w
  | n, .exc _ _, x, w, h => by cases n <;> simp [wfD] at w
  | n, .ktp _, x, w, h => by cases n <;> simp [wfD] at w
theorem RVs.dp {C : Cn} {p : Pt} : ∀ (n : Nat) {l : List Val} {vs : List V}, (∀ x ∈ l, wfD n x = true) → RVs C p l vs → DpAll C.K p.H vs (toDs l)
  | n, [], vs, _, h => by rw [h.nil_inv]; exact .nil
  | n, v :: l, vs, w, h => by
    obtain ⟨x, r, rfl, h1, h2⟩ := h.cons_inv
    exact .cons (RV.dp n (w v List.mem_cons_self) h1) (RVs.dp n (fun z hz => w z (List.mem_cons_of_mem _ hz)) h2)
end

/-- what a value is at once: a list by its number is its content -/
def deref (h : MH) : Val → Val
  | .ref n => match h[n]? with
    | some (.lst l) => .lst l
    | _ => .ref n
  | v => v
section
variable {C : Cn} {E p : Pt} {σm : Env} {mh : MH} {σ : L2.St} {v : Val} {x : V}
/-- how a list may be read -/
theorem RVT.list {l : List Val} (R : Rel C E p σm mh σ) (h : RVT C p σm σ v x) (e : deref mh v = .lst l) : ∃ a vs, x = .ref a ∧ SqL C.K p.H a vs ∧ LsG C.K p.H a vs ∧ RVs C p l vs := by
  have fin : ∀ {l' : List Val}, (∃ a vs, x = V.ref a ∧ LstAt C.K p a vs ∧ RVs C p l' vs) → ∃ a vs, x = .ref a ∧ SqL C.K p.H a vs ∧ LsG C.K p.H a vs ∧ RVs C p l' vs := fun ⟨a, vs, h1, h2, h3⟩ => ⟨a, vs, h1, h2.sq, h2.g, h3⟩
  rcases h.here R with h | ⟨l', a, vs, e1, e2, e3, e4⟩
  · cases v with
    | lst l' =>
      have : l' = l := by simpa [deref] using e
      subst this
      unfold RV at h
      exact fin h
    | ref n =>
      unfold RV at h
      obtain ⟨a, h1, h2⟩ := h
      cases hm : mh[n]? with
      | none => simp [deref, hm] at e
      | some o =>
        simp only [deref, hm] at e
        cases o with
        | lst l' =>
          have : l' = l := by simpa using e
          subst this
          rcases R.h.obj n _ hm with ⟨z, _⟩ | ⟨b, hb, vs, e1, e2⟩
          · cases z
          · rcases h2 with h2 | h2
            · rw [h2] at hb; cases hb
              exact ⟨a, vs, h1, .inl (.inl e1), .inl (.inl e1), e2⟩
            · rw [h2] at hb; cases hb
        | _ => simp at e
    | _ => simp [deref] at e
  · subst e1
    have : l' = l := by simpa [deref] using e
    subst this
    exact ⟨a, vs, e2, .inl (.inl e3), .inl (.inl e3), e4⟩
theorem RVT.tup {l : List Val} (R : Rel C E p σm mh σ) (h : RVT C p σm σ (.tup l) x) : ∃ a vs, x = .ref a ∧ TupAt C.K p a vs ∧ RVs C p l vs := by
  rcases h with h | ⟨_, _, _, e, _⟩
  · unfold RV at h; exact h
  · cases e
theorem RVT.ktp {l : List Val} (h : RVT C p σm σ (.ktp l) x) : ∃ a vs, x = .ref a ∧ KT C.K a vs ∧ RVs C p l vs := by
  rcases h with h | ⟨_, _, _, e, _⟩
  · unfold RV at h; exact h
  · cases e
theorem RVT.int {i : Int} (h : RVT C p σm σ (.int i) x) : x = .int i := by
  rcases h with h | ⟨_, _, _, e, _⟩
  · unfold RV at h; exact h
  · cases e
theorem RVT.bl {i : Bool} (h : RVT C p σm σ (.bl i) x) : x = .bl i := by
  rcases h with h | ⟨_, _, _, e, _⟩
  · unfold RV at h; exact h
  · cases e
theorem RVT.str {i : Tx} (h : RVT C p σm σ (.str i) x) : x = .str (S i) := by
  rcases h with h | ⟨_, _, _, e, _⟩
  · unfold RV at h; exact h
  · cases e
theorem RVT.non (h : RVT C p σm σ .non x) : x = .non := by
  rcases h with h | ⟨_, _, _, e, _⟩
  · unfold RV at h; exact h
  · cases e
theorem RVT.dp {n : Nat} (R : Rel C E p σm mh σ) (h : RVT C p σm σ v x) (w : wfD n (deref mh v) = true) : Dp C.K p.H x (toD (deref mh v)) := by
  cases e : deref mh v with
  | lst l =>
    obtain ⟨a, vs, rfl, h1, _, h2⟩ := h.list R e
    rw [e] at w
    cases n with
    | zero => simp [wfD] at w
    | succ n => exact .lst h1 (RVs.dp n (by simpa [wfD] using w) h2)
  | ref k => rw [e] at w; cases n <;> simp [wfD] at w
  | exc _ _ => rw [e] at w; cases n <;> simp [wfD] at w
  | _ =>
    have e2 : v = deref mh v := by
      cases v with
      | ref k =>
        exfalso
        cases hm : mh[k]? with
        | none => simp [deref, hm] at e
        | some o => cases o <;> simp [deref, hm] at e
      | _ => rfl
    rw [← e, ← e2]
    rw [← e2] at w
    rcases h with h | ⟨_, l', _, z, _⟩
    · exact RV.dp n w h
    · rw [← e2] at e; rw [z] at e; cases e
end

/-! ### two-place operators -/
def Ent2 (K : PySem.W.Frag) (cn : String → Addr) (W : WX) (r : R2) (mo : Val → Val → MH → Res Val) : Prop :=
  ∀ (E q : Pt) (σm : Env) (mh : MH) (σ : L2.St) (vx vy : Val) (x y : V) (Q : VK), Rel ⟨K, cn⟩ E q σm mh σ → RVT ⟨K, cn⟩ q σm σ vx x → RVT ⟨K, cn⟩ q σm σ vy y → post RVr ⟨K, cn⟩ W E q σm σ Q (mo vx vy mh) → r x y q.H Q
def mBin (mo : Val → Val → MH → Res Val) (a b : ME Val) : ME Val := fun σ h => (a σ h).bind fun x h1 => (b σ h1).bind fun y h2 => mo x y h2
section
variable {X : Cx} {cn : String → Addr} {W : WX} {e a b c : Expr} {pos : Pos}
theorem tOp_of {r : R2} {mo : Val → Val → MH → Res Val} (he : Ent2 X.K cn W r mo) {ma mb : ME Val} {σ : L2.St} {H : Hp} {Q : VK}
    (h : tG RVr ⟨X.K, cn⟩ W (mBin mo ma mb) σ H Q) : tOp r (tG RVT ⟨X.K, cn⟩ W ma) (tG RVT ⟨X.K, cn⟩ W mb) σ H Q := by
  obtain ⟨E, p, σm, mh, e1, R, k⟩ := h
  exact ⟨E, p, σm, mh, e1, R, k.bind fun v mh1 q x R1 x1 rv k1 => ⟨E, q, σm, mh1, rfl, R1, k1.bind fun w mh2 q2 y R2 x2 rw k2 => he E q2 σm mh2 σ v w x y Q R2 (rv.ext x2) rw k2⟩⟩
theorem e_bin {op : Operator} {r : R2} {mo : Val → Val → MH → Res Val} {ma mb : ME Val} (ho : OpR X (binaryOp op) r) (he : Ent2 X.K cn W r mo) (ha : ET X cn W a ma) (hb : ET X cn W b mb) : EM X cn W (.BinOp a op b pos) (mBin mo ma mb) :=
  PE.wk (pe_op ho ha hb) fun σ H Q h => tOp_of he h
theorem e_cmp {op : CmpOp} {r : R2} {mo : Val → Val → MH → Res Val} {ma mb : ME Val} (ho : OpR X (compareOp op) r) (he : Ent2 X.K cn W r mo) (ha : ET X cn W a ma) (hb : ET X cn W b mb) (hm : behindInMarks op b = false) : EM X cn W (.Compare a [op] [b] pos) (mBin mo ma mb) :=
  PE.wk (pe_cmpR ho ha hb hm) fun σ H Q h => tOp_of he h

theorem post_fin {C : Cn} {E q : Pt} {σm : Env} {mh : MH} {σ : L2.St} {Q : VK} {v : Val} {x : V} (k : post RVr C W E q σm σ Q (.ok v mh)) (R : Rel C E q σm mh σ) (r : RV C q v x) : Q x q.H := k q x R (Ext.refl q) r

/-- a list's content read: its object -/
theorem rdM {pins : List (Addr × Obj)} {σ : L2.St} {H : Hp} {s : Shared} {l : Addr} {xs : List V} (I : Inv X pins σ H s) (h : LsG X.K H l xs) : xs.length ≤ sizeLine ∧ ∃ (its : List Value) (n : Nat), Vals xs its ∧ xs.length = its.length ∧ s.heap.get? l = some { cls := .type "list", data := .seq its.toArray n } := by
  rcases h with h | ⟨its, n, e, z, r⟩
  · obtain ⟨z, its, n, r, e⟩ := h.ok I.hok
    exact ⟨z, its, n, r, r.length, e⟩
  · exact ⟨by rw [r.length]; exact z, its, n, r, r.length, I.kIn _ _ e⟩
def rCatR (K : PySem.W.Frag) : R2 := fun x y H Q => ∃ l b xs zs, x = .ref l ∧ y = .ref b ∧ LsG K H l xs ∧ LsG K H b zs ∧ xs.length + zs.length ≤ sizeLine ∧ ∀ p, H p = none → Q (.ref p) (upd H p (.lst (xs ++ zs)))
theorem op_catR : OpR X (binaryOp .Add) (rCatR X.K) := by
  intro pins s σ H x y v u Q I rx ry h
  obtain ⟨l, b, xs, zs, rfl, rfl, hH, hB, hz, q⟩ := h
  cases rx
  cases ry
  obtain ⟨z, its, n, r, hl, e⟩ := rdM I hH
  obtain ⟨z2, its2, n2, r2, hl2, e2⟩ := rdM I hB
  refine PySem.P.add_list e e2 ?_ (by rw [List.size_toArray, List.size_toArray]; omega)
  have ea : its.toArray ++ its2.toArray = (its ++ its2).toArray := by simp
  rw [ea]
  exact ⟨.ref _, _, I.lnew (t' := s.toks) (r.append r2) (by rw [List.length_append]; omega), rfl, q _ I.fresh⟩

/-! #### + -/
@[simp] def addV (x y : Val) : Option Val := match x, y with
  | .int i, .int j => some (.int (i + j))
  | .str s, .str t => if s.length + t.length ≤ 16777216 then some (.str (s ++ t)) else none
  | .tup l, .tup m => if l.length + m.length ≤ 16777216 then some (.tup (l ++ m)) else none
  | .lst l, .lst m => if l.length + m.length ≤ 16777216 then some (.lst (l ++ m)) else none
  | _, _ => none
def lift (o : Option Val) (h : MH) : Res Val := match o with
  | some v => .ok v h
  | none => .bad
@[simp] def opAdd (x y : Val) (h : MH) : Res Val := lift (addV (deref h x) (deref h y)) h
def rAddM (K : PySem.W.Frag) : R2 := fun x y H Q => rI0 (fun i j => .int (i + j)) x y H Q ∨ (∃ i j, x = .str i ∧ y = .str j ∧ i.length + j.length ≤ sizeLine ∧ Q (.str (i ++ j)) H) ∨ rCatA K x y H Q ∨ rCatR K x y H Q
theorem op_addM : OpR X (binaryOp .Add) (rAddM X.K) := op_add.or (op_add_str.or (op_catA.or op_catR))
theorem S_app (a b : Tx) : S a ++ S b = S (a ++ b) := by
  show (⟨a.toArray ++ b.toArray⟩ : Str) = ⟨(a ++ b).toArray⟩
  simp
theorem deref_ne {h : MH} {v : Val} {w : Val} (e : deref h v = w) (nl : ∀ l, w ≠ .lst l) : v = w := by
  cases v with
  | ref k =>
    cases hm : h[k]? with
    | none => simpa only [deref, hm] using e
    | some o =>
      simp only [deref, hm] at e
      cases o with
      | lst l => exact absurd e.symm (nl l)
      | _ => exact e
  | _ => exact e
theorem ent_add : Ent2 X.K cn W (rAddM X.K) opAdd := by
  intro E q σm mh σ vx vy x y Q R hx hy k
  unfold opAdd at k
  cases ex : deref mh vx with
  | int i =>
    rw [ex] at k
    cases ey : deref mh vy with
    | int j =>
      rw [ey] at k
      have e1 := deref_ne ex (fun _ z => by cases z); subst e1
      have e2 := deref_ne ey (fun _ z => by cases z); subst e2
      exact .inl ⟨i, j, hx.int, hy.int, post_fin k R (by unfold RV; rfl)⟩
    | _ => rw [ey] at k; exact k.elim
  | str i =>
    rw [ex] at k
    cases ey : deref mh vy with
    | str j =>
      rw [ey] at k
      have e1 := deref_ne ex (fun _ z => by cases z); subst e1
      have e2 := deref_ne ey (fun _ z => by cases z); subst e2
      unfold addV at k
      by_cases hz : i.length + j.length ≤ 16777216
      · simp only [hz, if_true] at k
        refine .inr (.inl ⟨S i, S j, hx.str, hy.str, by rw [S_len, S_len, sizeLine_eq]; exact hz, ?_⟩)
        rw [S_app]
        exact post_fin k R (by unfold RV; rfl)
      · simp only [hz, if_false] at k; exact k.elim
    | _ => rw [ey] at k; exact k.elim
  | tup i =>
    rw [ex] at k
    cases ey : deref mh vy with
    | tup j =>
      rw [ey] at k
      have e1 := deref_ne ex (fun _ z => by cases z); subst e1
      have e2 := deref_ne ey (fun _ z => by cases z); subst e2
      unfold addV at k
      by_cases hz : i.length + j.length ≤ 16777216
      · simp only [hz, if_true] at k
        obtain ⟨a, vs, rfl, t1, r1⟩ := hx.tup R
        obtain ⟨b, ws, rfl, t2, r2⟩ := hy.tup R
        refine .inr (.inr (.inl ⟨a, b, vs, ws, rfl, rfl, t1.sq, t2.sq, by rw [r1.length, r2.length, sizeLine_eq]; exact hz, fun e => ?_, fun _ e => ?_, fun _ _ p hp => ?_⟩))
        · subst e
          have : i = [] := by have := r1.length; simpa using this.symm
          subst this
          refine post_fin k R ?_
          unfold RV
          exact ⟨b, ws, rfl, t2, r2⟩
        · subst e
          have : j = [] := by have := r2.length; simpa using this.symm
          subst this
          refine post_fin k R ?_
          unfold RV
          exact ⟨a, vs, rfl, t1, by simpa using r1⟩
        · exact k (q.up p (.tup (vs ++ ws))) (.ref p) (R.up hp) (ext_up hp) (rv_tup R.h hp (r1.append r2))
      · simp only [hz, if_false] at k; exact k.elim
    | _ => rw [ey] at k; exact k.elim
  | lst i =>
    rw [ex] at k
    cases ey : deref mh vy with
    | lst j =>
      rw [ey] at k
      unfold addV at k
      by_cases hz : i.length + j.length ≤ 16777216
      · simp only [hz, if_true] at k
        obtain ⟨a, vs, rfl, _, t1, r1⟩ := hx.list R ex
        obtain ⟨b, ws, rfl, _, t2, r2⟩ := hy.list R ey
        refine .inr (.inr (.inr ⟨a, b, vs, ws, rfl, rfl, t1, t2, by rw [r1.length, r2.length, sizeLine_eq]; exact hz, fun p hp => ?_⟩))
        exact k (q.up p (.lst (vs ++ ws))) (.ref p) (R.up hp) (ext_up hp) (rv_lst R.h hp (r1.append r2))
      · simp only [hz, if_false] at k; exact k.elim
    | _ => rw [ey] at k; exact k.elim
  | _ => rw [ex] at k; exact k.elim
theorem e_add {ma mb : ME Val} (ha : ET X cn W a ma) (hb : ET X cn W b mb) : EM X cn W (.BinOp a .Add b pos) (mBin opAdd ma mb) := e_bin op_addM ent_add ha hb
end
end Mi
/-! Mi4: further operators. -/
namespace Mi
open PySem L2 PyProof.Rows

/-! ### operators of two ints -/
@[simp] def intOp (c : Int → Int → Bool) (g : Int → Int → Val) (x y : Val) (h : MH) : Res Val := match x, y with
  | .int i, .int j => if c i j = true then .ok (g i j) h else .bad
  | _, _ => .bad
section
variable {X : Cx} {cn : String → Addr} {W : WX} {e a b c : Expr} {pos : Pos} {K : PySem.W.Frag}
theorem ent_int {c : Int → Int → Bool} {g : Int → Int → Val} {Cc : Int → Int → Prop} {gv : Int → Int → V} (hc : ∀ i j, c i j = true → Cc i j) (hg : ∀ C p i j, RV C p (g i j) (gv i j)) : Ent2 K cn W (rI Cc gv) (intOp c g) := by
  intro E q σm mh σ vx vy x y Q R hx hy k
  unfold intOp at k
  cases vx with
  | int i =>
    cases vy with
    | int j =>
      simp only at k
      by_cases z : c i j = true
      · rw [if_pos z] at k
        exact ⟨i, j, hx.int, hy.int, hc i j z, post_fin k R (hg _ _ _ _)⟩
      · rw [if_neg z] at k; exact k.elim
    | _ => exact k.elim
  | _ => exact k.elim
theorem ent_int0 {g : Int → Int → Val} {gv : Int → Int → V} (hg : ∀ C p i j, RV C p (g i j) (gv i j)) : Ent2 K cn W (rI0 gv) (intOp (fun _ _ => true) g) := by
  intro E q σm mh σ vx vy x y Q R hx hy k
  unfold intOp at k
  cases vx with
  | int i =>
    cases vy with
    | int j => exact ⟨i, j, hx.int, hy.int, post_fin k R (hg _ _ _ _)⟩
    | _ => exact k.elim
  | _ => exact k.elim
def opSub : Val → Val → MH → Res Val := intOp (fun _ _ => true) fun i j => .int (i - j)
def opDiv : Val → Val → MH → Res Val := intOp (fun _ j => decide (0 < j) && decide (j < 1073741824)) fun i j => .int (i / j)
def opMod : Val → Val → MH → Res Val := intOp (fun _ j => decide (0 < j)) fun i j => .int (i % j)
def opPow : Val → Val → MH → Res Val := intOp (fun i j => decide (0 ≤ j) && decide (j ≤ 1000000) && decide (i.natAbs < 2 ^ 64)) fun i j => .int (i ^ j.toNat)
theorem e_sub {ma mb : ME Val} (ha : ET X cn W a ma) (hb : ET X cn W b mb) : EM X cn W (.BinOp a .Sub b pos) (mBin opSub ma mb) := e_bin op_sub (ent_int0 fun _ _ _ _ => by unfold RV; rfl) ha hb
theorem e_div {ma mb : ME Val} (ha : ET X cn W a ma) (hb : ET X cn W b mb) : EM X cn W (.BinOp a .FloorDiv b pos) (mBin opDiv ma mb) := e_bin op_fdiv (ent_int (fun i j h => by simpa [CDiv] using h) fun _ _ _ _ => by unfold RV; rfl) ha hb
theorem e_mod {ma mb : ME Val} (ha : ET X cn W a ma) (hb : ET X cn W b mb) : EM X cn W (.BinOp a .Mod b pos) (mBin opMod ma mb) := e_bin op_mod (ent_int (fun i j h => by simpa using h) fun _ _ _ _ => by unfold RV; rfl) ha hb
theorem e_pow {ma mb : ME Val} (ha : ET X cn W a ma) (hb : ET X cn W b mb) : EM X cn W (.BinOp a .Pow b pos) (mBin opPow ma mb) := e_bin op_pow (ent_int (fun i j h => by
  simp only [Bool.and_eq_true, decide_eq_true_eq] at h
  exact ⟨h.1.1, h.1.2, h.2⟩) fun _ _ _ _ => by unfold RV; rfl) ha hb
/-- -a -/
def mNeg (m : ME Val) : ME Val := fun σ h => (m σ h).bind fun x h1 => match x with
  | .int i => .ok (.int (-i)) h1
  | _ => .bad
theorem e_neg {m : ME Val} (ha : ET X cn W a m) : EM X cn W (.UnaryOp .USub a pos) (mNeg m) := PE.wk (pe_un un_neg ha) fun σ H Q ⟨E, p, σm, mh, e1, R, k⟩ =>
  ⟨E, p, σm, mh, e1, R, k.bind fun v mh1 q x R1 x1 rv k1 => by
    cases v with
    | int i => exact ⟨i, rv.int, post_fin k1 R1 (by unfold RV; rfl)⟩
    | _ => exact k1.elim⟩

/-! ### * -/
@[simp] def mulV (x y : Val) : Option Val := match x, y with
  | .int i, .int j => if i.natAbs < 2 ^ 64 ∨ j.natAbs < 2 ^ 64 then some (.int (i * j)) else none
  | .str s, .int k => if -(2 ^ 63) ≤ k ∧ k < 2 ^ 63 ∧ s.length * k.toNat ≤ 16777216 then some (.str (List.replicate k.toNat s).flatten) else none
  | .lst l, .int k => if -(2 ^ 63) ≤ k ∧ k < 2 ^ 63 ∧ l.length * k.toNat ≤ 16777216 then some (.lst (List.replicate k.toNat l).flatten) else none
  | _, _ => none
@[simp] def opMul (x y : Val) (h : MH) : Res Val := lift (mulV (deref h x) (deref h y)) h
def rMulS : R2 := fun x y H Q => ∃ (z : Tx) (k : Int), x = .str (S z) ∧ y = .int k ∧ -(2 ^ 63) ≤ k ∧ k < 2 ^ 63 ∧ z.length * k.toNat ≤ 16777216 ∧ Q (.str (S (List.replicate k.toNat z).flatten)) H
theorem foldl_reps (z : Tx) : ∀ (n : Nat) (acc : Tx), (List.replicate n z.toArray).foldl (· ++ ·) acc.toArray = (acc ++ (List.replicate n z).flatten).toArray
  | 0, acc => by simp
  | n + 1, acc => by
    rw [List.replicate_succ, List.foldl_cons]
    have : acc.toArray ++ z.toArray = (acc ++ z).toArray := by simp
    rw [this, foldl_reps z n (acc ++ z), List.replicate_succ, List.flatten_cons, List.append_assoc]
theorem op_mulS : OpR X (binaryOp .Mult) rMulS := by
  intro pins s σ H x y v u Q I rx ry h
  obtain ⟨z, k, rfl, rfl, h1, h2, hz, q⟩ := h
  obtain ⟨t, rfl⟩ := rx
  obtain ⟨t', rfl⟩ := ry
  have e : Txt.mul (S z) k = S (List.replicate k.toNat z).flatten := by
    unfold Txt.mul
    by_cases h0 : k < 1
    · rw [if_pos h0]
      have : k.toNat = 0 := by omega
      rw [this]; rfl
    · rw [if_neg h0]
      by_cases h3 : (k == 1 || (S z).length == 0) = true
      · rw [if_pos h3]
        rw [Bool.or_eq_true] at h3
        rcases h3 with h3 | h3
        · have e1 : k = 1 := eq_of_beq h3
          rw [e1]
          show S z = S (List.replicate 1 z).flatten
          rw [List.replicate_one, List.flatten_singleton]
        · have e1 : (S z).length = 0 := eq_of_beq h3
          rw [S_len] at e1
          have e2 : z = [] := List.length_eq_zero_iff.mp e1
          rw [e2, List.flatten_replicate_nil]
      · rw [if_neg h3]
        have := foldl_reps z k.toNat []
        simp only [List.nil_append] at this
        show (⟨List.foldl (fun x1 x2 => x1 ++ x2) #[] (List.replicate k.toNat z.toArray)⟩ : Str) = ⟨_⟩
        rw [this]
  refine SB.mul (n := k) ⟨?_, fun h3 _ => ?_, fun h3 _ => ?_⟩ fun t' kk => ?_
  · rw [decide_eq_false (by omega), decide_eq_false (by omega)]; rfl
  · rw [S_len]
    intro hgt
    have hk : (0 : Int) < k := by omega
    have : ((z.length : Int)) * k ≤ 16777216 := by
      have e2 : ((z.length * k.toNat : Nat) : Int) ≤ ((16777216 : Nat) : Int) := Int.ofNat_le.mpr hz
      rw [Int.natCast_mul, Int.toNat_of_nonneg (by omega)] at e2
      exact e2
    have h4 : (z.length : Int) ≤ 16777216 := by
      have : (z.length : Int) * 1 ≤ (z.length : Int) * k := Int.mul_le_mul_of_nonneg_left (by omega) (by omega)
      omega
    have h5 : ((2 ^ 63 - 1 : Int)) / k ≥ z.length := by
      apply (Int.le_ediv_iff_mul_le hk).mpr
      omega
    omega
  · rw [S_len]
    unfold Builtin.Str.tooLong
    simp only [decide_eq_false_iff_not]
    rw [sizeLine_eq]; omega
  · rw [e]; exact ⟨.str _, H, I.tok _, ⟨_, rfl⟩, q⟩
def rRepR (K : PySem.W.Frag) : R2 := fun x y H Q => ∃ l k xs, x = .ref l ∧ y = .int k ∧ LsG K H l xs ∧ -(2 ^ 63) ≤ k ∧ k < 2 ^ 63 ∧ xs.length * k.toNat ≤ sizeLine ∧
  ∀ p, H p = none → Q (.ref p) (upd H p (.lst (List.replicate k.toNat xs).flatten))
theorem op_repR : OpR X (binaryOp .Mult) (rRepR X.K) := by
  intro pins s σ H x y v u Q I rx ry h
  obtain ⟨l, k, xs, rfl, rfl, hH, h1, h2, hz, q⟩ := h
  cases rx
  obtain ⟨t, rfl⟩ := ry
  obtain ⟨z, its, n, r, hl, e⟩ := rdM I hH
  have hlen : its.toArray.size * k.toNat ≤ sizeLine := by rw [List.size_toArray, ← hl]; exact hz
  have hcap : ¬ its.toArray.size * k.toNat > (2 ^ 63 - 1) / 8 := by
    have : (sizeLine : Nat) ≤ (2 ^ 63 - 1) / 8 := by decide
    omega
  have hfit : ¬ (!Builtin.List.listFitsIndex k) = true := by
    rw [fitsIndex_both h1 h2]
    exact Bool.false_ne_true
  have hlong : ¬ Builtin.List.listTooLong (its.toArray.size * k.toNat) = true := by
    rw [notLongL hlen]
    exact Bool.false_ne_true
  have hnew : List.foldl (fun x1 x2 => x1 ++ x2) #[] (List.replicate (if its.toArray.isEmpty = true then 0 else k.toNat) its.toArray) = (List.replicate k.toNat its).flatten.toArray := by
    have f0 : ∀ m : Nat, List.foldl (fun x1 x2 => x1 ++ x2) #[] (List.replicate m its.toArray) = (List.replicate m its).flatten.toArray := fun m => by
      have := foldl_rep its m []
      rw [List.nil_append] at this
      exact this
    rw [f0]
    cases its with
    | nil => simp
    | cons a r' => rw [if_neg (by simp)]
  refine wpAny_binaryOp_repeat_ref (T := "list") (U := "int") (by decide) ⟨_, e, rfl⟩ (fun s' => typeIs_int s' k t) noFill_list_mul F.fills_int_mul F.slot_int_rmul repeat_list F.slot_int_index.lookup
    (call_meets F.slot_int_rmul (typeIs_int s k t) F.entry_int_rmul (F.args_int_rmul_2 _ _) (int___rmul___int_list k t l its.toArray n)
      ⟨e, rfl, ⟨_, e, rfl⟩, call_meets F.slot_list_mul ⟨_, e, rfl⟩ F.entry_list_mul (F.args_list_mul_2 _ _) (AutoListH.list___mul___list_int_3 l its.toArray n k t hfit hcap hlong) ⟨e, ?_⟩⟩)
  rw [hnew]
  exact ⟨.ref _, _, I.lnew (t' := s.toks) (r.rep k.toNat) (by rw [PyProof.Rows.lm_len_rep_flat, Nat.mul_comm]; exact hz), rfl, q _ I.fresh⟩
def rMulM (K : PySem.W.Frag) : R2 := fun x y H Q => rI CMul (fun i j => .int (i * j)) x y H Q ∨ rMulS x y H Q ∨ rRepR K x y H Q
theorem op_mulM : OpR X (binaryOp .Mult) (rMulM X.K) := op_mul.or (op_mulS.or op_repR)
theorem ent_mul : Ent2 K cn W (rMulM K) opMul := by
  intro E q σm mh σ vx vy x y Q R hx hy k
  unfold opMul at k
  cases ey : deref mh vy with
  | int j =>
    rw [ey] at k
    have e2 := deref_ne ey (fun _ z => by cases z); subst e2
    cases ex : deref mh vx with
    | int i =>
      rw [ex] at k
      have e1 := deref_ne ex (fun _ z => by cases z); subst e1
      unfold mulV at k
      by_cases z : i.natAbs < 2 ^ 64 ∨ j.natAbs < 2 ^ 64
      · simp only [z, if_true] at k
        refine .inl ⟨i, j, hx.int, hy.int, ?_, post_fin k R (by unfold RV; rfl)⟩
        rcases z with z | z
        · exact .inl ⟨by omega, by omega⟩
        · exact .inr ⟨by omega, by omega⟩
      · simp only [z, if_false] at k; exact k.elim
    | str i =>
      rw [ex] at k
      have e1 := deref_ne ex (fun _ z => by cases z); subst e1
      unfold mulV at k
      by_cases z : -(2 ^ 63) ≤ j ∧ j < 2 ^ 63 ∧ i.length * j.toNat ≤ 16777216
      · simp only [z, and_self, if_true] at k
        exact .inr (.inl ⟨i, j, hx.str, hy.int, z.1, z.2.1, z.2.2, post_fin k R (by unfold RV; rfl)⟩)
      · simp only [z, if_false] at k; exact k.elim
    | lst i =>
      rw [ex] at k
      unfold mulV at k
      by_cases z : -(2 ^ 63) ≤ j ∧ j < 2 ^ 63 ∧ i.length * j.toNat ≤ 16777216
      · simp only [z, and_self, if_true] at k
        obtain ⟨a, vs, rfl, _, t1, r1⟩ := hx.list R ex
        refine .inr (.inr ⟨a, j, vs, rfl, hy.int, t1, z.1, z.2.1, by rw [r1.length, sizeLine_eq]; exact z.2.2, fun p hp => ?_⟩)
        exact k (q.up p (.lst _)) (.ref p) (R.up hp) (ext_up hp) (rv_lst R.h hp (r1.flat _))
      · simp only [z, if_false] at k; exact k.elim
    | _ => rw [ex] at k; exact k.elim
  | _ =>
    rw [ey] at k
    exfalso
    cases ex : deref mh vx <;> rw [ex] at k <;> exact k.elim
theorem e_mul {ma mb : ME Val} (ha : ET X cn W a ma) (hb : ET X cn W b mb) : EM X cn W (.BinOp a .Mult b pos) (mBin opMul ma mb) := e_bin op_mulM ent_mul ha hb

/-! ### comparisons -/
@[simp] def opEq (x y : Val) (h : MH) : Res Val := if wfD 64 (deref h x) && wfD 64 (deref h y) then .ok (.bl (veq (deref h x) (deref h y))) h else .bad
@[simp] def opNe (x y : Val) (h : MH) : Res Val := if wfD 64 (deref h x) && wfD 64 (deref h y) then .ok (.bl (!veq (deref h x) (deref h y))) h else .bad
theorem ent_eq : Ent2 K cn W (rEqD K) opEq := by
  intro E q σm mh σ vx vy x y Q R hx hy k
  unfold opEq at k
  by_cases z : (wfD 64 (deref mh vx) && wfD 64 (deref mh vy)) = true
  · rw [if_pos z] at k
    have z' := Bool.and_eq_true_iff.mp z
    refine ⟨_, _, hx.dp R z'.1, hy.dp R z'.2, wfD_shaped z'.1, wfD_shaped z'.2, ?_⟩
    rw [eqv_veq 64 _ _ z'.1 z'.2]
    exact post_fin k R (by unfold RV; rfl)
  · rw [if_neg z] at k; exact k.elim
theorem ent_ne : Ent2 K cn W (rNeD K) opNe := by
  intro E q σm mh σ vx vy x y Q R hx hy k
  unfold opNe at k
  by_cases z : (wfD 64 (deref mh vx) && wfD 64 (deref mh vy)) = true
  · rw [if_pos z] at k
    have z' := Bool.and_eq_true_iff.mp z
    refine ⟨_, _, hx.dp R z'.1, hy.dp R z'.2, wfD_shaped z'.1, wfD_shaped z'.2, ?_⟩
    rw [eqv_veq 64 _ _ z'.1 z'.2]
    exact post_fin k R (by unfold RV; rfl)
  · rw [if_neg z] at k; exact k.elim
/-- < and its like: of ints, of texts -/
@[simp] def ordOp (g : Int → Int → Bool) (g2 : Tx → Tx → Bool) (x y : Val) (h : MH) : Res Val := match x, y with
  | .int i, .int j => .ok (.bl (g i j)) h
  | .str i, .str j => .ok (.bl (g2 i j)) h
  | _, _ => .bad
theorem ent_ord {g : Int → Int → Bool} {g2 : Tx → Tx → Bool} {gs : Str → Str → Bool} (hg : ∀ i j, gs (S i) (S j) = g2 i j) :
    Ent2 K cn W (fun x y H Q => rI0 (fun i j => .bl (g i j)) x y H Q ∨ ∃ i j, x = .str i ∧ y = .str j ∧ Q (.bl (gs i j)) H) (ordOp g g2) := by
  intro E q σm mh σ vx vy x y Q R hx hy k
  unfold ordOp at k
  cases vx with
  | int i =>
    cases vy with
    | int j => exact .inl ⟨i, j, hx.int, hy.int, post_fin k R (by unfold RV; rfl)⟩
    | _ => exact k.elim
  | str i =>
    cases vy with
    | str j => exact .inr ⟨S i, S j, hx.str, hy.str, by rw [hg]; exact post_fin k R (by unfold RV; rfl)⟩
    | _ => exact k.elim
  | _ => exact k.elim
def opLt : Val → Val → MH → Res Val := ordOp (fun i j => decide (i < j)) fun i j => decide (i < j)
def opLe : Val → Val → MH → Res Val := ordOp (fun i j => decide (i ≤ j)) fun i j => !decide (j < i)
def opGt : Val → Val → MH → Res Val := ordOp (fun i j => decide (j < i)) fun i j => decide (j < i)
def opGe : Val → Val → MH → Res Val := ordOp (fun i j => decide (j ≤ i)) fun i j => !decide (i < j)
/-- an operator of comparison: what it asks, what its mirror is -/
structure CmpM (X : Cx) (cn : String → Addr) (W : WX) (op : CmpOp) (mo : Val → Val → MH → Res Val) where
  r : R2
  ok : OpR X (compareOp op) r
  ent : Ent2 X.K cn W r mo
def c_lt : CmpM X cn W .Lt opLt := ⟨_, op_lt.or op_lt_str, ent_ord fun _ _ => rfl⟩
def c_le : CmpM X cn W .LtE opLe := ⟨_, op_le.or op_le_str, ent_ord fun _ _ => rfl⟩
def c_gt : CmpM X cn W .Gt opGt := ⟨_, op_gt.or op_gt_str, ent_ord fun _ _ => rfl⟩
def c_ge : CmpM X cn W .GtE opGe := ⟨_, op_ge.or op_ge_str, ent_ord fun _ _ => rfl⟩
def c_eq (hu : X.A.units + 64 < cLine) : CmpM X cn W .Eq opEq := ⟨_, op_eqD hu, ent_eq⟩
def c_ne (hu : X.A.units + 64 < cLine) : CmpM X cn W .NotEq opNe := ⟨_, op_neD hu, ent_ne⟩
/-- is None -/
def isNon : Val → Bool
  | .non => true
  | _ => false
@[simp] def opIsN (x y : Val) (h : MH) : Res Val := match y with
  | .non => .ok (.bl (isNon x)) h
  | _ => .bad
@[simp] def opNotN (x y : Val) (h : MH) : Res Val := match y with
  | .non => .ok (.bl (!isNon x)) h
  | _ => .bad
theorem RVT.isN {C : Cn} {p : Pt} {σm : Env} {σ : L2.St} {v : Val} {x : V} (h : RVT C p σm σ v x) : decide (x = .non) = isNon v := by
  have go : ∀ {a : Addr}, decide (V.ref a = V.non) = false := fun {a} => decide_eq_false fun z => by cases z
  cases v with
  | non => rw [h.non]; rfl
  | bl b => rw [h.bl]; rfl
  | int b => rw [h.int]; rfl
  | str b => rw [h.str]; rfl
  | tup l =>
    rcases h with h | ⟨_, _, _, e, _⟩
    · unfold RV at h; obtain ⟨a, vs, rfl, _⟩ := h; exact go
    · cases e
  | lst l =>
    rcases h with h | ⟨_, _, a, _, e, _⟩
    · unfold RV at h; obtain ⟨a, vs, rfl, _⟩ := h; exact go
    · rw [e]; exact go
  | ktp l =>
    rcases h with h | ⟨_, _, _, e, _⟩
    · unfold RV at h; obtain ⟨a, vs, rfl, _⟩ := h; exact go
    · cases e
  | ref n =>
    rcases h with h | ⟨_, _, _, e, _⟩
    · unfold RV at h; obtain ⟨a, rfl, _⟩ := h; exact go
    · cases e
  | exc c f =>
    rcases h with h | ⟨_, _, _, e, _⟩
    · cases f with
      | none => unfold RV at h; obtain ⟨a, rfl, _⟩ := h; exact go
      | some w => unfold RV at h; obtain ⟨a, _, _, _, rfl, _⟩ := h; exact go
    · cases e
theorem ent_isN : Ent2 K cn W (fun x y H Q => y = .non ∧ Q (.bl (decide (x = .non))) H) opIsN := by
  intro E q σm mh σ vx vy x y Q R hx hy k
  unfold opIsN at k
  cases vy with
  | non => exact ⟨hy.non, by rw [hx.isN]; exact post_fin k R (by unfold RV; rfl)⟩
  | _ => exact k.elim
theorem ent_notN : Ent2 K cn W (fun x y H Q => y = .non ∧ Q (.bl (!decide (x = .non))) H) opNotN := by
  intro E q σm mh σ vx vy x y Q R hx hy k
  unfold opNotN at k
  cases vy with
  | non => exact ⟨hy.non, by rw [hx.isN]; exact post_fin k R (by unfold RV; rfl)⟩
  | _ => exact k.elim
def c_isN : CmpM X cn W .Is opIsN := ⟨_, op_isN, ent_isN⟩
def c_notN : CmpM X cn W .IsNot opNotN := ⟨_, op_notN, ent_notN⟩
/-- is True, is False: of truths, numbers, None -/
@[simp] def opIsB (x y : Val) (h : MH) : Res Val := match x, y with
  | .bl a, .bl b => .ok (.bl (a == b)) h
  | .non, .bl _ => .ok (.bl false) h
  | .int _, .bl _ => .ok (.bl false) h
  | _, _ => .bad
@[simp] def opNotB (x y : Val) (h : MH) : Res Val := match x, y with
  | .bl a, .bl b => .ok (.bl (!(a == b))) h
  | .non, .bl _ => .ok (.bl true) h
  | .int _, .bl _ => .ok (.bl true) h
  | _, _ => .bad
def rIsP (neg : Bool) : R2 := fun x y H Q => ∃ b : Bool, y = .bl b ∧ ((∃ a : Bool, x = .bl a ∧ Q (.bl (neg ^^ (a == b))) H) ∨ ((x = .non ∨ ∃ i, x = .int i) ∧ Q (.bl neg) H))
theorem same_bl {M : Model} {A : Around} {E : Value → Shared → Prop} {s : Shared} {x : V} {v : Value} {b : Bool} {R : Bool → Shared → Prop} (rx : RelV x v)
    (h : (∃ a : Bool, x = .bl a ∧ R (a == b) s) ∨ ((x = .non ∨ ∃ i, x = .int i) ∧ R false s)) : wpAny M A (isSame v (.bool b)) R E s := by
  rcases h with ⟨a, rfl, q⟩ | ⟨rfl | ⟨i, rfl⟩, q⟩
  · cases (show v = Value.bool a from rx)
    refine wpAny_isSame_plain rfl ?_
    have e : (Value.bool a == Value.bool b) = (a == b) := by cases a <;> cases b <;> rfl
    rw [e]; exact q
  · cases rx
    exact wpAny_isSame_plain rfl q
  · obtain ⟨t, rfl⟩ := rx
    exact wpAny_isSame_plain rfl q
theorem op_isP {X : Cx} : OpR X (compareOp .Is) (rIsP false) := by
  intro pins s σ H x y v u Q I rx ry h
  obtain ⟨b, rfl, h⟩ := h
  cases (show u = Value.bool b from ry)
  show wpAny _ _ ((isSame v (Value.bool b)) >>= fun z => pure (Value.bool z)) _ _ s
  refine wpAny_bind (same_bl rx ?_)
  rcases h with ⟨a, e, q⟩ | ⟨e, q⟩
  · exact .inl ⟨a, e, wpAny_pure (fin_bl I q (by simp))⟩
  · exact .inr ⟨e, wpAny_pure (fin_bl I q rfl)⟩
theorem op_notP {X : Cx} : OpR X (compareOp .IsNot) (rIsP true) := by
  intro pins s σ H x y v u Q I rx ry h
  obtain ⟨b, rfl, h⟩ := h
  cases (show u = Value.bool b from ry)
  show wpAny _ _ ((isSame v (Value.bool b)) >>= fun z => pure (Value.bool (!z))) _ _ s
  refine wpAny_bind (same_bl rx ?_)
  rcases h with ⟨a, e, q⟩ | ⟨e, q⟩
  · exact .inl ⟨a, e, wpAny_pure (fin_bl I q (by simp))⟩
  · exact .inr ⟨e, wpAny_pure (fin_bl I q rfl)⟩
theorem ent_isB : Ent2 K cn W (rIsP false) opIsB := by
  intro E q σm mh σ vx vy x y Q R hx hy k
  unfold opIsB at k
  cases vy with
  | bl b =>
    cases vx with
    | bl a => exact ⟨b, hy.bl, .inl ⟨a, hx.bl, by rw [Bool.false_xor]; exact post_fin k R (by unfold RV; rfl)⟩⟩
    | non => exact ⟨b, hy.bl, .inr ⟨.inl hx.non, post_fin k R (by unfold RV; rfl)⟩⟩
    | int i => exact ⟨b, hy.bl, .inr ⟨.inr ⟨_, hx.int⟩, post_fin k R (by unfold RV; rfl)⟩⟩
    | _ => exact k.elim
  | _ => cases vx <;> exact k.elim
theorem ent_notB : Ent2 K cn W (rIsP true) opNotB := by
  intro E q σm mh σ vx vy x y Q R hx hy k
  unfold opNotB at k
  cases vy with
  | bl b =>
    cases vx with
    | bl a => exact ⟨b, hy.bl, .inl ⟨a, hx.bl, by rw [Bool.true_xor]; exact post_fin k R (by unfold RV; rfl)⟩⟩
    | non => exact ⟨b, hy.bl, .inr ⟨.inl hx.non, post_fin k R (by unfold RV; rfl)⟩⟩
    | int i => exact ⟨b, hy.bl, .inr ⟨.inr ⟨_, hx.int⟩, post_fin k R (by unfold RV; rfl)⟩⟩
    | _ => exact k.elim
  | _ => cases vx <;> exact k.elim
def c_isB : CmpM X cn W .Is opIsB := ⟨_, op_isP, ent_isB⟩
def c_notB : CmpM X cn W .IsNot opNotB := ⟨_, op_notP, ent_notB⟩

/-- x in y: a sign in a text, a thing in a list or tuple -/
def inV? (x y : Val) : Option Bool := match y with
  | .str z => match x with
    | .str [c] => some (decide (c ∈ z))
    | _ => none
  | .lst l => if wfD 64 x && l.all (wfD 63) then some (l.any fun z => veq z x) else none
  | .tup l => if wfD 64 x && l.all (wfD 63) then some (l.any fun z => veq z x) else none
  | .ktp l => if wfD 64 x && l.all (wfD 63) then some (l.any fun z => veq z x) else none
  | _ => none
@[simp] def opIn (x y : Val) (h : MH) : Res Val := match inV? (deref h x) (deref h y) with
  | some b => .ok (.bl b) h
  | none => .bad
@[simp] def opNotIn (x y : Val) (h : MH) : Res Val := match inV? (deref h x) (deref h y) with
  | some b => .ok (.bl (!b)) h
  | none => .bad
def rInT (K : PySem.W.Frag) (n : Bool) : R2 := fun x y H Q => ∃ d ds, Dp K H x d ∧ Dp K H y (.tuple ds) ∧ SeqAt.shaped d = true ∧ SeqAt.shaped (.tuple ds) = true ∧ Q (.bl (n != ds.any fun z => PyData.eqv z d)) H
theorem op_inT (hu : X.A.units + 65 < cLine) : OpR X (compareOp .In) (rInT X.K false) := by
  intro pins s σ H x y v u Q I rx ry h
  obtain ⟨d, ds, hd, he, sd, se, q⟩ := h
  obtain ⟨as, r1⟩ := Dp.reads I d x v hd rx
  obtain ⟨bs, r2⟩ := Dp.reads I (.tuple ds) y u he ry
  exact SeqAt.in_tuple_reads r2 r1 (SeqAt.canLay_of_shaped se) (SeqAt.canLay_of_shaped sd) (room_in_shaped sd hu) ⟨.bl _, H, I, rfl, by simpa using q⟩
theorem op_notInT (hu : X.A.units + 65 < cLine) : OpR X (compareOp .NotIn) (rInT X.K true) := by
  intro pins s σ H x y v u Q I rx ry h
  obtain ⟨d, ds, hd, he, sd, se, q⟩ := h
  obtain ⟨as, r1⟩ := Dp.reads I d x v hd rx
  obtain ⟨bs, r2⟩ := Dp.reads I (.tuple ds) y u he ry
  exact SeqAt.notIn_tuple_reads r2 r1 (SeqAt.canLay_of_shaped se) (SeqAt.canLay_of_shaped sd) (room_in_shaped sd hu) ⟨.bl _, H, I, rfl, by simpa using q⟩
theorem any_toD {n : Nat} {l : List Val} {x : Val} (hl : ∀ z ∈ l, wfD n z = true) (hx : wfD n x = true) : ((toDs l).any fun z => PyData.eqv z (toD x)) = l.any fun z => veq z x := by
  rw [toDs_eq, List.any_map]
  have : ∀ m : List Val, (∀ z ∈ m, wfD n z = true) → (m.any ((fun z => PyData.eqv z (toD x)) ∘ toD)) = m.any fun z => veq z x := fun m hm => by
    induction m with
    | nil => rfl
    | cons z m ih =>
      rw [List.any_cons, List.any_cons, ih fun w hw => hm w (List.mem_cons_of_mem _ hw)]
      show (PyData.eqv (toD z) (toD x) || _) = _
      rw [eqv_veq n z x (hm z List.mem_cons_self) hx]
  exact this l hl
theorem wfD_mono : ∀ (n : Nat) (v : Val) (m : Nat), n ≤ m → wfD n v = true → wfD m v = true
  | n, .non, m, _, _ => by cases m <;> simp [wfD]
  | n, .bl _, m, _, _ => by cases m <;> simp [wfD]
  | n, .int _, m, _, _ => by cases m <;> simp [wfD]
  | n, .str s, m, _, h => by
    have h' : txOk s = true := by cases n <;> simpa [wfD] using h
    cases m <;> simpa [wfD] using h'
  | 0, .tup l, m, _, h => by simp [wfD] at h
  | 0, .lst l, m, _, h => by simp [wfD] at h
  | n + 1, .tup l, 0, hm, h => absurd hm (by omega)
  | n + 1, .lst l, 0, hm, h => absurd hm (by omega)
  | n + 1, .tup l, m + 1, hm, h => by
    have h' : ∀ x ∈ l, wfD n x = true := by simpa [wfD] using h
    simp only [wfD, List.all_eq_true]
    exact fun x hx => wfD_mono n x m (by omega) (h' x hx)
  | n + 1, .lst l, m + 1, hm, h => by
    have h' : ∀ x ∈ l, wfD n x = true := by simpa [wfD] using h
    simp only [wfD, List.all_eq_true]
    exact fun x hx => wfD_mono n x m (by omega) (h' x hx)
  | n, .ref _, m, _, h => by cases n <;> simp [wfD] at h
  | n, .exc _ _, m, _, h => by cases n <;> simp [wfD] at h
  | n, .ktp _, m, _, h => by cases n <;> simp [wfD] at h
def rSign (n : Bool) : R2 := fun x y H Q => ∃ (c : Nat) (z : Str), x = .str ⟨#[c]⟩ ∧ y = .str z ∧ Q (.bl (n != decide (c ∈ z.cps.toList))) H
theorem op_in_sign' : OpR X (compareOp .In) (rSign false) := by
  intro pins s σ H x y v u Q I rx ry ⟨c, z, e1, e2, q⟩
  exact op_in_sign pins s σ H x y v u Q I rx ry ⟨c, z, e1, e2, by simpa using q⟩
theorem op_notIn_sign' : OpR X (compareOp .NotIn) (rSign true) := by
  intro pins s σ H x y v u Q I rx ry ⟨c, z, e1, e2, q⟩
  exact op_notIn_sign pins s σ H x y v u Q I rx ry ⟨c, z, e1, e2, by simpa using q⟩
def rInD' (K : PySem.W.Frag) (n : Bool) : R2 := fun x y H Q => ∃ d ds, Dp K H x d ∧ Dp K H y (.list ds) ∧ SeqAt.shaped d = true ∧ SeqAt.shaped (.list ds) = true ∧ Q (.bl (n != ds.any fun z => PyData.eqv z d)) H
theorem op_inD' (hu : X.A.units + 65 < cLine) : OpR X (compareOp .In) (rInD' X.K false) := by
  intro pins s σ H x y v u Q I rx ry ⟨d, ds, h1, h2, h3, h4, q⟩
  exact op_inD hu pins s σ H x y v u Q I rx ry ⟨d, ds, h1, h2, h3, h4, by simpa using q⟩
theorem op_notInD' (hu : X.A.units + 65 < cLine) : OpR X (compareOp .NotIn) (rInD' X.K true) := by
  intro pins s σ H x y v u Q I rx ry ⟨d, ds, h1, h2, h3, h4, q⟩
  exact op_notInD hu pins s σ H x y v u Q I rx ry ⟨d, ds, h1, h2, h3, h4, by simpa using q⟩
theorem ent_in' (n : Bool) {mo : Val → Val → MH → Res Val} (hm : ∀ x y h, mo x y h = match inV? (deref h x) (deref h y) with
    | some b => .ok (.bl (n != b)) h
    | none => .bad) : Ent2 K cn W (fun x y H Q => rSign n x y H Q ∨ rInD' K n x y H Q ∨ rInT K n x y H Q) mo := by
  intro E q σm mh σ vx vy x y Q R hx hy k
  rw [hm] at k
  cases ey : deref mh vy with
  | str z =>
    have e2 := deref_ne ey (fun _ z => by cases z); subst e2
    rw [ey] at k
    cases ex : deref mh vx with
    | str i =>
      have e1 := deref_ne ex (fun _ z => by cases z); subst e1
      rw [ex] at k
      match i, k, hx with
      | [], k, _ => exact k.elim
      | [c], k, hx =>
        refine .inl ⟨c, S z, hx.str, hy.str, ?_⟩
        exact post_fin k R (by unfold RV; rfl)
      | _ :: _ :: _, k, _ => exact k.elim
    | _ => rw [ex] at k; exact k.elim
  | lst l =>
    rw [ey] at k
    unfold inV? at k
    by_cases z : (wfD 64 (deref mh vx) && l.all (wfD 63)) = true
    · simp only [z, if_true] at k
      have z' := Bool.and_eq_true_iff.mp z
      have wl : wfD 64 (Val.lst l) = true := by simpa [wfD] using z'.2
      have hd := hy.dp (n := 64) R (by rw [ey]; exact wl)
      rw [ey] at hd
      refine .inr (.inl ⟨_, toDs l, hx.dp R z'.1, by simpa [toD] using hd, wfD_shaped z'.1, by have := wfD_shaped wl; simpa [toD] using this, ?_⟩)
      rw [any_toD (n := 64) (fun w hw => wfD_mono 63 w 64 (by omega) (List.all_eq_true.mp z'.2 w hw)) z'.1]
      exact post_fin k R (by unfold RV; rfl)
    · simp only [z] at k; exact k.elim
  | tup l =>
    have e2 := deref_ne ey (fun _ z => by cases z)
    rw [ey] at k
    unfold inV? at k
    by_cases z : (wfD 64 (deref mh vx) && l.all (wfD 63)) = true
    · simp only [z, if_true] at k
      have z' := Bool.and_eq_true_iff.mp z
      have wl : wfD 64 (Val.tup l) = true := by simpa [wfD] using z'.2
      have hd := hy.dp (n := 64) R (by rw [ey]; exact wl)
      rw [ey] at hd
      refine .inr (.inr ⟨_, toDs l, hx.dp R z'.1, by simpa [toD] using hd, wfD_shaped z'.1, by have := wfD_shaped wl; simpa [toD] using this, ?_⟩)
      rw [any_toD (n := 64) (fun w hw => wfD_mono 63 w 64 (by omega) (List.all_eq_true.mp z'.2 w hw)) z'.1]
      exact post_fin k R (by unfold RV; rfl)
    · simp only [z] at k; exact k.elim
  | ktp l =>
    have e2 := deref_ne ey (fun _ z => by cases z); subst e2
    rw [ey] at k
    unfold inV? at k
    by_cases z : (wfD 64 (deref mh vx) && l.all (wfD 63)) = true
    · simp only [z, if_true] at k
      have z' := Bool.and_eq_true_iff.mp z
      have wl : wfD 64 (Val.tup l) = true := by simpa [wfD] using z'.2
      obtain ⟨a, vs, rfl, t1, r1⟩ := hy.ktp
      refine .inr (.inr ⟨_, toDs l, hx.dp R z'.1, .tup t1.sq (RVs.dp 63 (List.all_eq_true.mp z'.2) r1), wfD_shaped z'.1, by have := wfD_shaped wl; simpa [toD] using this, ?_⟩)
      rw [any_toD (n := 64) (fun w hw => wfD_mono 63 w 64 (by omega) (List.all_eq_true.mp z'.2 w hw)) z'.1]
      exact post_fin k R (by unfold RV; rfl)
    · simp only [z] at k; exact k.elim
  | _ => rw [ey] at k; exact k.elim
def c_in (hu : X.A.units + 65 < cLine) : CmpM X cn W .In opIn := ⟨_, op_in_sign'.or ((op_inD' hu).or (op_inT hu)), ent_in' false fun x y h => by
  unfold opIn
  cases inV? (deref h x) (deref h y) with
  | none => rfl
  | some b => cases b <;> rfl⟩
def c_notIn (hu : X.A.units + 65 < cLine) : CmpM X cn W .NotIn opNotIn := ⟨_, op_notIn_sign'.or ((op_notInD' hu).or (op_notInT hu)), ent_in' true fun x y h => by
  unfold opNotIn
  cases inV? (deref h x) (deref h y) with
  | none => rfl
  | some b => cases b <;> rfl⟩
theorem e_cmpM {op : CmpOp} {mo : Val → Val → MH → Res Val} {ma mb : ME Val} (c : CmpM X cn W op mo) (ha : ET X cn W a ma) (hb : ET X cn W b mb) (hm : behindInMarks op b = false) : EM X cn W (.Compare a [op] [b] pos) (mBin mo ma mb) := e_cmp c.ok c.ent ha hb hm
end
end Mi
/-! Mi5: tests, subscripts, slices, displays, calls of built-ins. -/
namespace Mi
open PySem L2 PyProof.Rows

section
variable {X : Cx} {cn : String → Addr} {W : WX} {e a b c : Expr} {es rest : List Expr} {pos : Pos} {K : PySem.W.Frag}

/-! ### tests -/
@[simp] def truthV (h : MH) (v : Val) : Option Bool := match deref h v with
  | .non => some false
  | .bl b => some b
  | .int i => some (i != 0)
  | .str s => if s.length ≤ 16777216 then some (!s.isEmpty) else none
  | .lst l => some (!l.isEmpty)
  | .tup l => some (!l.isEmpty)
  | _ => none
def mTruth (m : ME Val) : ME Bool := fun σ h => (m σ h).bind fun v h1 => match truthV h1 v with
  | some b => .ok b h1
  | none => .bad
theorem RVs.isE {C : Cn} {p : Pt} {l : List Val} {vs : List V} (h : RVs C p l vs) : vs.isEmpty = l.isEmpty := by
  cases l with
  | nil => rw [h.nil_inv]; rfl
  | cons v l => obtain ⟨x, r, rfl, _⟩ := h.cons_inv; rfl
theorem tru_of {C : Cn} {E p : Pt} {σm : Env} {mh : MH} {σ : L2.St} {v : Val} {x : V} {b : Bool} (R : Rel C E p σm mh σ) (h : RVT C p σm σ v x) (e : truthV mh v = some b) : TruV C.K x p.H b := by
  unfold truthV at e
  cases d : deref mh v with
  | non => rw [d] at e; have := deref_ne d (fun _ z => by cases z); subst this; rw [h.non]; cases e; rfl
  | bl b => rw [d] at e; have := deref_ne d (fun _ z => by cases z); subst this; rw [h.bl]; cases e; rfl
  | int b => rw [d] at e; have := deref_ne d (fun _ z => by cases z); subst this; rw [h.int]; cases e; rfl
  | str s =>
    rw [d] at e; have := deref_ne d (fun _ z => by cases z); subst this; rw [h.str]
    by_cases z : s.length ≤ 16777216
    · simp only [z, if_true] at e
      refine ⟨by rw [S_len, sizeLine_eq]; exact z, ?_⟩
      rw [S_len]
      cases e
      cases s with
      | nil => rfl
      | cons c s =>
        have : ((c :: s).length : Int) ≠ 0 := by rw [List.length_cons]; omega
        simp only [List.isEmpty_cons, Bool.not_false]
        exact (bne_iff_ne.mpr this).symm
    · simp only [z, if_false] at e; cases e
  | lst l =>
    rw [d] at e
    obtain ⟨a, vs, rfl, h1, _, h2⟩ := h.list R d
    exact .inl ⟨vs, h1, by rw [h2.isE]; cases e; rfl⟩
  | tup l =>
    rw [d] at e; have := deref_ne d (fun _ z => by cases z); subst this
    obtain ⟨a, vs, rfl, h1, h2⟩ := h.tup R
    exact .inr (.inl ⟨vs, h1.sq, by rw [h2.isE]; cases e; rfl⟩)
  | ktp l => rw [d] at e; cases e
  | ref n => rw [d] at e; cases e
  | exc c f => rw [d] at e; cases e
theorem t_truth {m : ME Val} (ha : ET X cn W a m) (he : ∀ whole, isTrue a X.env whole = (do let v ← whole; standAt a.pos; holding [v] (truthy v)) := by intro _; rfl) : TM X cn W a (mTruth m) :=
  PT.wk (pt_truth ha he) fun σ H Q ⟨E, p, σm, mh, e1, R, k⟩ => ⟨E, p, σm, mh, e1, R, k.bind fun v mh1 q x R1 x1 rv k1 => by
    cases d : truthV mh1 v with
    | none => rw [d] at k1; exact k1.elim
    | some b => rw [d] at k1; exact ⟨b, tru_of R1 rv d, k1 q b R1 (Ext.refl q) rfl⟩⟩
/-- a truth's test -/
@[simp] def asB : Val → MH → Res Bool := fun v h => match v with
  | .bl b => .ok b h
  | _ => .bad
def mAsB (m : ME Val) : ME Bool := fun σ h => (m σ h).bind asB
theorem tOp_asB {r : R2} {mo : Val → Val → MH → Res Val} (he : Ent2 X.K cn W r mo) {ma mb : ME Val} {σ : L2.St} {H : Hp} {Q : Bool → Hp → Prop}
    (h : tG RB ⟨X.K, cn⟩ W (mAsB (mBin mo ma mb)) σ H Q) : tOp r (tG RVT ⟨X.K, cn⟩ W ma) (tG RVT ⟨X.K, cn⟩ W mb) σ H fun x H' => ∃ k, x = .bl k ∧ Q k H' := by
  obtain ⟨E, p, σm, mh, e1, R, k⟩ := h
  refine tOp_of he ⟨E, p, σm, mh, e1, R, ?_⟩
  unfold mAsB at k
  refine k.bind fun v mh1 q x R1 x1 rv k1 => ?_
  cases v with
  | bl b =>
    have rv' : RV _ _ _ _ := rv
    unfold RV at rv'
    exact ⟨b, rv', k1 q b R1 (Ext.refl q) rfl⟩
  | _ => exact k1.elim
theorem t_cmp {op : CmpOp} {mo : Val → Val → MH → Res Val} {ma mb : ME Val} (c : CmpM X cn W op mo) (ha : ET X cn W a ma) (hb : ET X cn W b mb) (hm : behindInMarks op b = false) : TM X cn W (.Compare a [op] [b] pos) (mAsB (mBin mo ma mb)) :=
  PT.wk (pt_cmpR c.ok ha hb hm) fun σ H Q h => tOp_asB c.ent h
/-- a op b op' c -/
def mChain (mo mo' : Val → Val → MH → Res Val) (a b c : ME Val) : ME Val := fun σ h => (a σ h).bind fun x h1 => (b σ h1).bind fun y h2 => (mo x y h2).bind fun z h3 => match z with
  | .bl true => (c σ h3).bind fun w h4 => mo' y w h4
  | .bl false => .ok (.bl false) h3
  | _ => .bad
theorem tChain_of {r r' : R2} {mo mo' : Val → Val → MH → Res Val} (he : Ent2 X.K cn W r mo) (he' : Ent2 X.K cn W r' mo') {ma mb mc : ME Val} {σ : L2.St} {H : Hp} {Q : VK}
    (h : tG RVr ⟨X.K, cn⟩ W (mChain mo mo' ma mb mc) σ H Q) : tChain r r' (tG RVT ⟨X.K, cn⟩ W ma) (tG RVT ⟨X.K, cn⟩ W mb) (tG RVT ⟨X.K, cn⟩ W mc) σ H Q := by
  obtain ⟨E, p, σm, mh, e1, R, k⟩ := h
  refine ⟨E, p, σm, mh, e1, R, k.bind fun v mh1 q x R1 x1 rv k1 => ⟨E, q, σm, mh1, rfl, R1, k1.bind fun w mh2 q2 y R2 x2 rw k2 => he E q2 σm mh2 σ v w x y _ R2 (rv.ext x2) rw ?_⟩⟩
  refine k2.bind fun z mh3 q3 zv R3 x3 rz k3 => ?_
  have rz' : RV _ _ _ _ := rz
  cases z with
  | bl t =>
    unfold RV at rz'
    refine ⟨t, rz', ?_⟩
    cases t with
    | true => exact iteT ⟨E, q3, σm, mh3, rfl, R3, k3.bind fun u mh4 q4 uv R4 x4 ru k4 => he' E q4 σm mh4 σ w u y uv Q R4 (rw.ext (x3.trans x4)) ru k4⟩
    | false => exact iteF (post_fin k3 R3 (by unfold RV; rfl))
  | _ => exact k3.elim
theorem e_chain {op op' : CmpOp} {mo mo' : Val → Val → MH → Res Val} {ma mb mc : ME Val} (o : CmpM X cn W op mo) (o' : CmpM X cn W op' mo') (ha : ET X cn W a ma) (hb : ET X cn W b mb) (hc : ET X cn W c mc)
    (hm : lastMarks [op, op'] [b, c] = false := by with_unfolding_all rfl) : EM X cn W (.Compare a [op, op'] [b, c] pos) (mChain mo mo' ma mb mc) := PE.wk (pe_chain o.ok o'.ok ha hb hc hm) fun σ H Q h => tChain_of o.ent o'.ent h
theorem t_chain {op op' : CmpOp} {mo mo' : Val → Val → MH → Res Val} {ma mb mc : ME Val} (o : CmpM X cn W op mo) (o' : CmpM X cn W op' mo') (ha : ET X cn W a ma) (hb : ET X cn W b mb) (hc : ET X cn W c mc)
    (hm : lastMarks [op, op'] [b, c] = false := by with_unfolding_all rfl) : TM X cn W (.Compare a [op, op'] [b, c] pos) (mAsB (mChain mo mo' ma mb mc)) := PT.wk (pt_chain o.ok o'.ok ha hb hc hm) fun σ H Q ⟨E, p, σm, mh, e1, R, k⟩ => by
  refine tChain_of o.ent o'.ent ⟨E, p, σm, mh, e1, R, ?_⟩
  unfold mAsB at k
  refine k.bind fun v mh1 q x R1 x1 rv k1 => ?_
  cases v with
  | bl b =>
    have rv' : RV _ _ _ _ := rv
    unfold RV at rv'
    exact ⟨b, rv', k1 q b R1 (Ext.refl q) rfl⟩
  | _ => exact k1.elim
def mAnd (a b : ME Bool) : ME Bool := fun σ h => (a σ h).bind fun c h1 => if c = true then b σ h1 else .ok false h1
def mOr (a b : ME Bool) : ME Bool := fun σ h => (a σ h).bind fun c h1 => if c = true then .ok true h1 else b σ h1
def mNot (a : ME Bool) : ME Bool := fun σ h => (a σ h).bind fun c h1 => .ok (!c) h1
theorem w_and1 {m : ME Bool} (ha : TM X cn W a m) : TW X cn W (.BoolOp .And [a] pos) m := pw_and1 ha
theorem w_or1 {m : ME Bool} (ha : TM X cn W a m) : TW X cn W (.BoolOp .Or [a] pos) m := pw_or1 ha
theorem w_and {m n : ME Bool} (ha : TM X cn W a m) (hb : TW X cn W (.BoolOp .And (b :: rest) pos) n) : TW X cn W (.BoolOp .And (a :: b :: rest) pos) (mAnd m n) :=
  PW.wk (pw_and ha hb) fun σ H Q ⟨E, p, σm, mh, e1, R, k⟩ => ⟨E, p, σm, mh, e1, R, k.bind fun v mh1 q x R1 x1 rv k1 => by
    cases rv
    cases v with
    | true => exact iteT ⟨E, q, σm, mh1, rfl, R1, k1⟩
    | false => exact iteF (k1 q false R1 (Ext.refl q) rfl)⟩
theorem w_or {m n : ME Bool} (ha : TM X cn W a m) (hb : TW X cn W (.BoolOp .Or (b :: rest) pos) n) : TW X cn W (.BoolOp .Or (a :: b :: rest) pos) (mOr m n) :=
  PW.wk (pw_or ha hb) fun σ H Q ⟨E, p, σm, mh, e1, R, k⟩ => ⟨E, p, σm, mh, e1, R, k.bind fun v mh1 q x R1 x1 rv k1 => by
    cases rv
    cases v with
    | false => exact iteF ⟨E, q, σm, mh1, rfl, R1, k1⟩
    | true => exact iteT (k1 q true R1 (Ext.refl q) rfl)⟩
theorem TW.t {m : ME Bool} (h : TW X cn W e m) : TM X cn W e m := PW.pt h
theorem t_not {m : ME Bool} (ha : TM X cn W a m) : TM X cn W (.UnaryOp .Not a pos) (mNot m) :=
  PT.wk (pt_not ha) fun σ H Q ⟨E, p, σm, mh, e1, R, k⟩ => ⟨E, p, σm, mh, e1, R, k.bind fun v mh1 q x R1 x1 rv k1 => by
    cases rv
    exact k1 q (!v) R1 (Ext.refl q) rfl⟩
/-- the same as values, of truths -/
def mAndV (a b : ME Val) : ME Val := fun σ h => (a σ h).bind fun c h1 => match c with
  | .bl true => b σ h1
  | .bl false => .ok (.bl false) h1
  | _ => .bad
def mOrV (a b : ME Val) : ME Val := fun σ h => (a σ h).bind fun c h1 => match c with
  | .bl false => b σ h1
  | .bl true => .ok (.bl true) h1
  | _ => .bad
def mNotV (a : ME Val) : ME Val := fun σ h => (a σ h).bind fun c h1 => match c with
  | .bl b => .ok (.bl (!b)) h1
  | _ => .bad
theorem e_one {op} {m : ME Val} (h : EM X cn W a m) : EM X cn W (.BoolOp op [a] pos) m := pe_one h
theorem e_and {m n : ME Val} (ha : EM X cn W a m) (hb : EM X cn W (.BoolOp .And (b :: rest) pos) n) : EM X cn W (.BoolOp .And (a :: b :: rest) pos) (mAndV m n) :=
  PE.wk (pe_and ha hb) fun σ H Q ⟨E, p, σm, mh, e1, R, k⟩ => ⟨E, p, σm, mh, e1, R, k.bind fun v mh1 q x R1 x1 rv k1 => by
    have rv' : RV _ _ _ _ := rv
    cases v with
    | bl t =>
      unfold RV at rv'
      refine ⟨t, rv', ?_⟩
      cases t with
      | true => exact iteT ⟨E, q, σm, mh1, rfl, R1, k1⟩
      | false => exact iteF (post_fin k1 R1 (by unfold RV; rfl))
    | _ => exact k1.elim⟩
theorem e_or {m n : ME Val} (ha : EM X cn W a m) (hb : EM X cn W (.BoolOp .Or (b :: rest) pos) n) : EM X cn W (.BoolOp .Or (a :: b :: rest) pos) (mOrV m n) :=
  PE.wk (pe_or ha hb) fun σ H Q ⟨E, p, σm, mh, e1, R, k⟩ => ⟨E, p, σm, mh, e1, R, k.bind fun v mh1 q x R1 x1 rv k1 => by
    have rv' : RV _ _ _ _ := rv
    cases v with
    | bl t =>
      unfold RV at rv'
      refine ⟨t, rv', ?_⟩
      cases t with
      | false => exact iteF ⟨E, q, σm, mh1, rfl, R1, k1⟩
      | true => exact iteT (post_fin k1 R1 (by unfold RV; rfl))
    | _ => exact k1.elim⟩
theorem e_not {m : ME Val} (ha : EM X cn W a m) : EM X cn W (.UnaryOp .Not a pos) (mNotV m) :=
  PE.wk (pe_not ha) fun σ H Q ⟨E, p, σm, mh, e1, R, k⟩ => ⟨E, p, σm, mh, e1, R, k.bind fun v mh1 q x R1 x1 rv k1 => by
    have rv' : RV _ _ _ _ := rv
    cases v with
    | bl t =>
      unfold RV at rv'
      exact ⟨t, rv', post_fin k1 R1 (by unfold RV; rfl)⟩
    | _ => exact k1.elim⟩
def mIf {α : Type} (c : ME Bool) (a b : ME α) : ME α := fun σ h => (c σ h).bind fun t h1 => if t = true then a σ h1 else b σ h1
theorem e_if {mc : ME Bool} {ma mb : ME Val} (hc : TM X cn W c mc) (ha : EM X cn W a ma) (hb : EM X cn W b mb) : EM X cn W (.IfExp c a b pos) (mIf mc ma mb) :=
  PE.wk (pe_ifExp hc ha hb) fun σ H Q ⟨E, p, σm, mh, e1, R, k⟩ => ⟨E, p, σm, mh, e1, R, k.bind fun v mh1 q x R1 x1 rv k1 => by
    cases rv
    cases v with
    | true => exact iteT ⟨E, q, σm, mh1, rfl, R1, k1⟩
    | false => exact iteF ⟨E, q, σm, mh1, rfl, R1, k1⟩⟩
theorem t_if {mc ma mb : ME Bool} (hc : TM X cn W c mc) (ha : EM X cn W a (mMap Val.bl ma)) (hb : EM X cn W b (mMap Val.bl mb)) : EM X cn W (.IfExp c a b pos) (mIf mc (mMap Val.bl ma) (mMap Val.bl mb)) := e_if hc ha hb

/-! ### subscripts -/
@[simp] def ixV (x y : Val) : Option Val := match x, y with
  | .lst l, .int i => atI l i
  | .tup l, .int i => atI l i
  | .ktp l, .int i => atI l i
  | .str s, .int i => if s.length ≤ 16777216 then (atI s i).map fun c => .str [c] else none
  | _, _ => none
@[simp] def opIx (x y : Val) (h : MH) : Res Val := lift (ixV (deref h x) (deref h y)) h
theorem RVs.atI {C : Cn} {p : Pt} {l : List Val} {vs : List V} {i : Int} {v : Val} (h : RVs C p l vs) (e : L2.atI l i = some v) : ∃ x, L2.atI vs i = some x ∧ RV C p v x := by
  unfold L2.atI at e ⊢
  rw [h.length]
  cases q : ixN l.length i with
  | none => rw [q] at e; cases e
  | some j =>
    rw [q] at e
    obtain ⟨x, h1, h2⟩ := h.get (i := j) (v := v) e
    exact ⟨x, h1, h2⟩
theorem ent_ix : Ent2 K cn W (rIx K) opIx := by
  intro E q σm mh σ vx vy x y Q R hx hy k
  unfold opIx at k
  cases ey : deref mh vy with
  | int i =>
    rw [ey] at k
    have e2 := deref_ne ey (fun _ z => by cases z); subst e2
    cases ex : deref mh vx with
    | lst l =>
      rw [ex] at k
      simp only [ixV] at k
      cases ea : atI l i with
      | none => rw [ea] at k; exact k.elim
      | some v =>
        rw [ea] at k
        obtain ⟨a, vs, rfl, h1, _, h2⟩ := hx.list R ex
        obtain ⟨z, h3, h4⟩ := h2.atI ea
        exact .inl ⟨a, vs, i, z, rfl, hy.int, h1, h3, post_fin k R h4⟩
    | tup l =>
      have e1 := deref_ne ex (fun _ z => by cases z); subst e1
      rw [ex] at k
      simp only [ixV] at k
      cases ea : atI l i with
      | none => rw [ea] at k; exact k.elim
      | some v =>
        rw [ea] at k
        obtain ⟨a, vs, rfl, h1, h2⟩ := hx.tup R
        obtain ⟨z, h3, h4⟩ := h2.atI ea
        exact .inr (.inl ⟨a, vs, i, z, rfl, hy.int, h1.sq, h3, post_fin k R h4⟩)
    | ktp l =>
      have e1 := deref_ne ex (fun _ z => by cases z); subst e1
      rw [ex] at k
      simp only [ixV] at k
      cases ea : atI l i with
      | none => rw [ea] at k; exact k.elim
      | some v =>
        rw [ea] at k
        obtain ⟨a, vs, rfl, h1, h2⟩ := hx.ktp
        obtain ⟨z, h3, h4⟩ := h2.atI ea
        exact .inr (.inl ⟨a, vs, i, z, rfl, hy.int, h1.sq, h3, post_fin k R h4⟩)
    | str l =>
      have e1 := deref_ne ex (fun _ z => by cases z); subst e1
      rw [ex] at k
      simp only [ixV] at k
      by_cases hz : l.length ≤ 16777216
      · simp only [hz, if_true] at k
        cases ea : atI l i with
        | none => rw [ea] at k; exact k.elim
        | some v =>
          rw [ea] at k
          exact .inr (.inr ⟨S l, i, v, hx.str, hy.int, by rw [S_len, sizeLine_eq]; exact hz, ea, post_fin k R (by unfold RV; rfl)⟩)
      · simp only [hz, if_false] at k; exact k.elim
    | _ => rw [ex] at k; exact k.elim
  | _ =>
    rw [ey] at k
    exfalso
    cases ex : deref mh vx <;> rw [ex] at k <;> exact k.elim
theorem e_ix {ma mb : ME Val} (ha : ET X cn W a ma) (hb : ET X cn W b mb) (hs : PlainIx b := by exact fun _ _ => rfl) : EM X cn W (.Subscript a b pos) (mBin opIx ma mb) := PE.wk (pe_ix ix_seq ha hb hs) fun σ H Q h => tOp_of ent_ix h

/-! ### slices -/
@[simp] def mNoP : ME (Option Int) := fun _ h => .ok none h
def mP (m : ME Val) : ME (Option Int) := fun σ h => (m σ h).bind fun v h1 => match v with
  | .int i => .ok (some i) h1
  | _ => .bad
def ROI : RR (Option Int) (Option Int) := fun _ _ _ _ a b => b = a
def PM (X : Cx) (cn : String → Addr) (W : WX) (e : Option Expr) (m : ME (Option Int)) : Prop := PO X e (tG ROI ⟨X.K, cn⟩ W m)
theorem PO.wk {o : Option Expr} {t t' : TO} (h : PO X o t) (k : ∀ σ H Q, t' σ H Q → t σ H Q) : PO X o t' := ⟨fun pins s σ H Q I w => h.run pins s σ H Q I (k σ H Q w)⟩
theorem p_none : PM X cn W none mNoP := PO.wk po_none fun σ H Q ⟨E, p, σm, mh, e1, R, k⟩ => by
  subst e1
  exact k p none R (Ext.refl p) rfl
theorem p_some {m : ME Val} (h : ET X cn W e m) : PM X cn W (some e) (mP m) := PO.wk (po_some h) fun σ H Q ⟨E, p, σm, mh, e1, R, k⟩ => ⟨E, p, σm, mh, e1, R, k.bind fun v mh1 q x R1 x1 rv k1 => by
  cases v with
  | int i => exact ⟨i, rv.int, k1 q (some i) R1 (Ext.refl q) rfl⟩
  | _ => exact k1.elim⟩
def cutL {α : Type} (xs : List α) (lo hi : Option Int) : List α := (xs.drop (HT.sIx xs.length 0 lo)).take (HT.sIx xs.length xs.length hi - HT.sIx xs.length 0 lo)
theorem RVs.cut {C : Cn} {p : Pt} {l : List Val} {vs : List V} (h : RVs C p l vs) (lo hi : Option Int) : RVs C p (cutL l lo hi) (cutV vs lo hi) := by
  unfold cutL cutV
  rw [h.length]
  exact (h.drop _).take _
theorem cutL_whole {α : Type} {xs : List α} {lo hi : Option Int} (h : HT.sIx xs.length 0 lo = 0 ∧ HT.sIx xs.length xs.length hi = xs.length) : cutL xs lo hi = xs := by
  unfold cutL
  rw [h.1, h.2]; simp
@[simp] def slV (v : Val) (lo hi : Option Int) : Option Val := match v with
  | .lst l => some (.lst (cutL l lo hi))
  | .tup l => some (.tup (cutL l lo hi))
  | .ktp l => if HT.sIx l.length 0 lo = 0 ∧ HT.sIx l.length l.length hi = l.length then none else some (.tup (cutL l lo hi))
  | .str s => if s.length ≤ 16777216 then some (.str (cutL s lo hi)) else none
  | _ => none
def mSl (m : ME Val) (lo hi : ME (Option Int)) : ME Val := fun σ h => (m σ h).bind fun v h1 => (lo σ h1).bind fun l h2 => (hi σ h2).bind fun u h3 => lift (slV (deref h3 v) l u) h3
theorem e_slice {lo hi : Option Expr} {p2 : Pos} {m : ME Val} {ml mu : ME (Option Int)} (he : ET X cn W e m) (hl : PM X cn W lo ml) (hu : PM X cn W hi mu) : EM X cn W (.Subscript e (.Slice lo hi none p2) pos) (mSl m ml mu) :=
  PE.wk (pe_slice (sl_list.or (sl_tupA.or sl_str)) he hl hu) fun σ H Q ⟨E, p, σm, mh, e1, R, k⟩ => ⟨E, p, σm, mh, e1, R, k.bind fun v mh1 q x R1 x1 rv k1 => ⟨E, q, σm, mh1, rfl, R1, k1.bind fun l mh2 q2 l' R2 x2 el k2 => ⟨E, q2, σm, mh2, rfl, R2, k2.bind fun u mh3 q3 u' R3 x3 eu k3 => by
    cases el
    cases eu
    have rv3 := rv.ext (x2.trans x3)
    cases ex : deref mh3 v with
    | lst y =>
      rw [ex] at k3
      obtain ⟨a, vs, rfl, h1, _, h2⟩ := rv3.list R3 ex
      exact .inl ⟨a, vs, rfl, h1, fun p hp => k3 (q3.up p (.lst _)) (.ref p) (R3.up hp) (ext_up hp) (rv_lst R3.h hp (h2.cut l u))⟩
    | tup y =>
      have e1 := deref_ne ex (fun _ z => by cases z); subst e1
      rw [ex] at k3
      obtain ⟨a, vs, rfl, h1, h2⟩ := rv3.tup R3
      refine .inr (.inl ⟨a, vs, rfl, h1.sq, fun hw => post_fin k3 R3 ?_, fun _ p hp => k3 (q3.up p (.tup _)) (.ref p) (R3.up hp) (ext_up hp) (rv_tup R3.h hp (h2.cut l u))⟩)
      rw [cutL_whole (by rw [h2.length] at hw; exact hw)]
      unfold RV
      exact ⟨a, vs, rfl, h1, h2⟩
    | ktp y =>
      have e1 := deref_ne ex (fun _ z => by cases z); subst e1
      rw [ex] at k3
      simp only [slV] at k3
      obtain ⟨a, vs, rfl, h1, h2⟩ := rv3.ktp
      by_cases hw : HT.sIx y.length 0 l = 0 ∧ HT.sIx y.length y.length u = y.length
      · rw [if_pos hw] at k3; exact k3.elim
      · rw [if_neg hw] at k3
        exact .inr (.inl ⟨a, vs, rfl, h1.sq, fun hw' => absurd (by rw [h2.length] at hw'; exact hw') hw, fun _ p hp => k3 (q3.up p (.tup _)) (.ref p) (R3.up hp) (ext_up hp) (rv_tup R3.h hp (h2.cut l u))⟩)
    | str y =>
      have e1 := deref_ne ex (fun _ z => by cases z); subst e1
      rw [ex] at k3
      simp only [slV] at k3
      by_cases hz : y.length ≤ 16777216
      · simp only [hz, if_true] at k3
        refine .inr (.inr ⟨S y, rv3.str, by rw [S_len, sizeLine_eq]; exact hz, ?_⟩)
        refine post_fin k3 R3 ?_
        unfold RV
        rw [show cutS (S y) l u = S (cutL y l u) from by unfold cutS cutL; rw [S_len]; rfl]
      · simp only [hz, if_false] at k3; exact k3.elim
    | _ => rw [ex] at k3; exact k3.elim⟩⟩⟩

/-! ### displays -/
def mTup (m : ME (List Val)) : ME Val := fun σ h => (m σ h).bind fun l h1 => if l.length ≤ 16777216 then .ok (.tup l) h1 else .bad
theorem e_tup {x1} {m : ME (List Val)} (h : AM X cn W es m) : EM X cn W (.Tuple es x1 pos) (mTup m) := PE.wk (pe_tup h) fun σ H Q ⟨E, p, σm, mh, e1, R, k⟩ => ⟨E, p, σm, mh, e1, R, k.bind fun l mh1 q xs R1 x1 rv k1 => by
  have rv' : RVs _ _ _ _ := rv
  by_cases hz : l.length ≤ 16777216
  · rw [if_pos hz] at k1
    exact ⟨by rw [rv'.length, sizeLine_eq]; exact hz, fun p hp => k1 (q.up p (.tup xs)) (.ref p) (R1.up hp) (ext_up hp) (rv_tup R1.h hp rv')⟩
  · rw [if_neg hz] at k1; exact k1.elim⟩
theorem e_tup0 {x1} : EM X cn W (.Tuple [] x1 pos) (mC (.tup [])) := PE.wk (e_tup (X := X) (cn := cn) (W := W) a_nil) fun σ H Q ⟨E, p, σm, mh, e1, R, k⟩ => ⟨E, p, σm, mh, e1, R, k⟩
def mLst (m : ME (List Val)) : ME (List Val) := fun σ h => (m σ h).bind fun l h1 => if l.length ≤ 16777216 then .ok l h1 else .bad
theorem f_lst {m : ME (List Val)} (h : AM X cn W es m) : EF X cn W (.List es pos) (mLst m) := PE.wk (pe_lst h) fun σ H Q ⟨E, p, σm, mh, e1, R, k⟩ => by
  refine ⟨E, p, σm, mh, e1, R, ?_⟩
  unfold mLst at k
  cases r : m σm mh with
  | ok l h =>
    rw [r] at k
    intro q xs R1 x1 rv
    have rv' : RVs _ _ _ _ := rv
    simp only [Res.bind] at k
    by_cases hz : l.length ≤ 16777216
    · rw [if_pos hz] at k
      exact ⟨by rw [rv'.length, sizeLine_eq]; exact hz, fun p hp => k q p xs R1 x1 hp rv'⟩
    · rw [if_neg hz] at k; exact k.elim
  | exc c f h => rw [r] at k; exact k
  | bad => rw [r] at k; exact k

/-! ### calls of built-ins -/
def EntC (K : PySem.W.Frag) (cn : String → Addr) (W : WX) (r : List V → Hp → VK → Prop) (mo : List Val → MH → Res Val) : Prop :=
  ∀ (E q : Pt) (σm : Env) (mh : MH) (σ : L2.St) (vs : List Val) (xs : List V) (Q : VK), Rel ⟨K, cn⟩ E q σm mh σ → RVTs ⟨K, cn⟩ q σm σ vs xs → post RVr ⟨K, cn⟩ W E q σm σ Q (mo vs mh) → r xs q.H Q
def EntF (K : PySem.W.Frag) (cn : String → Addr) (r : List V → Hp → VK → Prop) (mo : List Val → MH → Res (List Val)) : Prop :=
  ∀ (E q : Pt) (σm : Env) (mh : MH) (σ : L2.St) (vs : List Val) (xs : List V) (Q : VK), Rel ⟨K, cn⟩ E q σm mh σ → RVTs ⟨K, cn⟩ q σm σ vs xs →
    (match mo vs mh with
      | .ok l h => h = mh ∧ ∀ a ws, q.H a = none → RVs ⟨K, cn⟩ q l ws → Q (.ref a) (upd q.H a (.lst ws))
      | _ => False) → r xs q.H Q
def mCall {α : Type} (mo : List Val → MH → Res α) (m : ME (List Val)) : ME α := fun σ h => (m σ h).bind mo
theorem tCB_of {r : List V → Hp → VK → Prop} {mo : List Val → MH → Res Val} {m : ME (List Val)} (he : EntC X.K cn W r mo) {σ : L2.St} {H : Hp} {Q : VK} (h : tG RVr ⟨X.K, cn⟩ W (mCall mo m) σ H Q) : tCB r (tG RVTs ⟨X.K, cn⟩ W m) σ H Q := by
  obtain ⟨E, p, σm, mh, e1, R, k⟩ := h
  exact ⟨E, p, σm, mh, e1, R, k.bind fun l mh1 q xs R1 x1 rv k1 => he E q σm mh1 σ l xs Q R1 rv k1⟩
theorem tCB_ofF {r : List V → Hp → VK → Prop} {mo : List Val → MH → Res (List Val)} {m : ME (List Val)} (he : EntF X.K cn r mo) (hm : ∀ l h, match mo l h with | .ok _ h' => h' = h | .exc _ _ _ => False | .bad => True) {σ : L2.St} {H : Hp} {Q : VK} (h : tFr ⟨X.K, cn⟩ W (mCall mo m) σ H Q) : tCB r (tG RVTs ⟨X.K, cn⟩ W m) σ H Q := by
  obtain ⟨E, p, σm, mh, e1, R, k⟩ := h
  refine ⟨E, p, σm, mh, e1, R, ?_⟩
  unfold mCall at k
  cases r : m σm mh with
  | ok l h1 =>
    rw [r] at k
    intro q xs R1 x1 rv
    refine he E q σm h1 σ l xs Q R1 rv ?_
    have z := hm l h1
    simp only [Res.bind] at k
    cases r2 : mo l h1 with
    | ok l2 h2 =>
      rw [r2] at k z
      subst z
      exact ⟨rfl, fun a ws ha rs => k q a ws R1 x1 ha rs⟩
    | exc c f h2 => rw [r2] at z; exact z.elim
    | bad => rw [r2] at k; exact k.elim
  | exc c f h => rw [r] at k; exact k
  | bad => rw [r] at k; exact k
variable {id T : String} {x : Str} {p0 : Pos}
theorem e_callB {r : List V → Hp → VK → Prop} {mo : List Val → MH → Res Val} {m : ME (List Val)} (hc : CallR X (.builtin id) r) (he : EntC X.K cn W r mo) (hm : X.mg x = none) (hv : bootBuiltins x = some (.builtin id)) (ha : AT X cn W (e :: es) m)
    (hg : Gl X x := by rfl) (hn : x ≠ "__name__" := by decide) (hdb : (x == ("__debug__" : Str)) = false := by decide)
    (hs : starEach (e :: es) X.env = (false, eval e X.env) :: starEach es X.env := by rfl) (hpl : (backTo pos (starEach es X.env)).any (·.1) = false := by rfl) : EM X cn W (.Call (.Name x p0) (e :: es) [] pos) (mCall mo m) :=
  PE.wk (pe_callB hc hg hm hv ha hn hdb hs hpl) fun σ H Q h => tCB_of he h
theorem e_callT {r : List V → Hp → VK → Prop} {mo : List Val → MH → Res Val} {m : ME (List Val)} (hc : CallR X (.type T) r) (he : EntC X.K cn W r mo) (hm : X.mg x = none) (hv : bootBuiltins x = some (.type T)) (ha : AT X cn W (e :: es) m)
    (hg : Gl X x := by rfl) (hn : x ≠ "__name__" := by decide) (hdb : (x == ("__debug__" : Str)) = false := by decide)
    (hs : starEach (e :: es) X.env = (false, eval e X.env) :: starEach es X.env := by rfl) (hpl : (backTo pos (starEach es X.env)).any (·.1) = false := by rfl) : EM X cn W (.Call (.Name x p0) (e :: es) [] pos) (mCall mo m) :=
  PE.wk (pe_callTy hc hg hm hv ha hn hdb hs hpl) fun σ H Q h => tCB_of he h
theorem f_callT {r : List V → Hp → VK → Prop} {mo : List Val → MH → Res (List Val)} {m : ME (List Val)} (hc : CallR X (.type T) r) (he : EntF X.K cn r mo) (ho : ∀ l h, match mo l h with | .ok _ h' => h' = h | .exc _ _ _ => False | .bad => True) (hm : X.mg x = none) (hv : bootBuiltins x = some (.type T)) (ha : AT X cn W (e :: es) m)
    (hg : Gl X x := by rfl) (hn : x ≠ "__name__" := by decide) (hdb : (x == ("__debug__" : Str)) = false := by decide)
    (hs : starEach (e :: es) X.env = (false, eval e X.env) :: starEach es X.env := by rfl) (hpl : (backTo pos (starEach es X.env)).any (·.1) = false := by rfl) : EF X cn W (.Call (.Name x p0) (e :: es) [] pos) (mCall mo m) :=
  PE.wk (pe_callTy hc hg hm hv ha hn hdb hs hpl) fun σ H Q h => tCB_ofF he ho h

theorem RVTs.one {C : Cn} {p : Pt} {σm : Env} {σ : L2.St} {v : Val} {xs : List V} (h : RVTs C p σm σ [v] xs) : ∃ x, xs = [x] ∧ RVT C p σm σ v x := by
  cases h with
  | cons r t => cases t; exact ⟨_, rfl, r⟩
theorem RVTs.two {C : Cn} {p : Pt} {σm : Env} {σ : L2.St} {v w : Val} {xs : List V} (h : RVTs C p σm σ [v, w] xs) : ∃ x y, xs = [x, y] ∧ RVT C p σm σ v x ∧ RVT C p σm σ w y := by
  cases h with
  | cons r t =>
    cases t with
    | cons r2 t2 => cases t2; exact ⟨_, _, rfl, r, r2⟩
/-- a call of one value -/
theorem entC_1 {r : List V → Hp → VK → Prop} {f : MH → Val → Option Val} (h : ∀ (E q : Pt) (σm : Env) (mh : MH) (σ : L2.St) (v w : Val) (x : V) (Q : VK), Rel ⟨K, cn⟩ E q σm mh σ → RVT ⟨K, cn⟩ q σm σ v x → f mh v = some w → post RVr ⟨K, cn⟩ W E q σm σ Q (.ok w mh) → r [x] q.H Q) :
    EntC K cn W r (fun l h => match l with | [v] => lift (f h v) h | _ => .bad) := by
  intro E q σm mh σ vs xs Q R rv k
  match vs, rv, k with
  | [], _, k => exact k.elim
  | [v], rv, k =>
    obtain ⟨x, rfl, rx⟩ := rv.one
    simp only at k
    cases e : f mh v with
    | none => rw [e] at k; exact k.elim
    | some w => rw [e] at k; exact h E q σm mh σ v w x Q R rx e k
  | _ :: _ :: _, _, k => exact k.elim
theorem entC_2 {r : List V → Hp → VK → Prop} {f : MH → Val → Val → Option Val} (h : ∀ (E q : Pt) (σm : Env) (mh : MH) (σ : L2.St) (v v' w : Val) (x x' : V) (Q : VK), Rel ⟨K, cn⟩ E q σm mh σ → RVT ⟨K, cn⟩ q σm σ v x → RVT ⟨K, cn⟩ q σm σ v' x' → f mh v v' = some w → post RVr ⟨K, cn⟩ W E q σm σ Q (.ok w mh) → r [x, x'] q.H Q) :
    EntC K cn W r (fun l h => match l with | [v, v'] => lift (f h v v') h | _ => .bad) := by
  intro E q σm mh σ vs xs Q R rv k
  match vs, rv, k with
  | [], _, k => exact k.elim
  | [_], _, k => exact k.elim
  | [v, v'], rv, k =>
    obtain ⟨x, x', rfl, rx, rx'⟩ := rv.two
    simp only at k
    cases e : f mh v v' with
    | none => rw [e] at k; exact k.elim
    | some w => rw [e] at k; exact h E q σm mh σ v v' w x x' Q R rx rx' e k
  | _ :: _ :: _ :: _, _, k => exact k.elim
abbrev fn1 (f : MH → Val → Option Val) : List Val → MH → Res Val := fun l h => match l with | [v] => lift (f h v) h | _ => .bad
abbrev fn2 (f : MH → Val → Val → Option Val) : List Val → MH → Res Val := fun l h => match l with | [v, v'] => lift (f h v v') h | _ => .bad
end

section
variable {X : Cx} {cn : String → Addr} {W : WX}
/-- a built-in's name: what it asks, what its mirror is -/
structure CallB (X : Cx) (cn : String → Addr) (W : WX) (v : Value) (mo : List Val → MH → Res Val) where
  r : List V → Hp → VK → Prop
  ok : CallR X v r
  ent : EntC X.K cn W r mo

@[simp] def lenV (h : MH) (v : Val) : Option Val := match deref h v with
  | .str s => if s.length ≤ 16777216 then some (.int s.length) else none
  | .lst l => some (.int l.length)
  | .tup l => some (.int l.length)
  | .ktp l => some (.int l.length)
  | _ => none
def b_len : CallB X cn W (.builtin "len") (fn1 lenV) := ⟨_, call_len, entC_1 fun E q σm mh σ v w x Q R rv e k => by
  unfold lenV at e
  cases d : deref mh v with
  | str s =>
    rw [d] at e; have := deref_ne d (fun _ z => by cases z); subst this; rw [rv.str]
    by_cases z : s.length ≤ 16777216
    · simp only [z, if_true, Option.some.injEq] at e
      subst e
      exact ⟨_, s.length, rfl, ⟨by rw [S_len, sizeLine_eq]; exact z, (S_len s).symm⟩, post_fin k R (by unfold RV; rfl)⟩
    · simp only [z, if_false] at e; cases e
  | lst l =>
    rw [d] at e
    simp only [Option.some.injEq] at e
    subst e
    obtain ⟨a, vs, rfl, h1, _, h2⟩ := rv.list R d
    exact ⟨_, l.length, rfl, .inl ⟨vs, h1, h2.length.symm⟩, post_fin k R (by unfold RV; rfl)⟩
  | tup l =>
    rw [d] at e; have := deref_ne d (fun _ z => by cases z); subst this
    simp only [Option.some.injEq] at e
    subst e
    obtain ⟨a, vs, rfl, h1, h2⟩ := rv.tup R
    exact ⟨_, l.length, rfl, .inr ⟨vs, h1.sq, h2.length.symm⟩, post_fin k R (by unfold RV; rfl)⟩
  | ktp l =>
    rw [d] at e; have := deref_ne d (fun _ z => by cases z); subst this
    simp only [Option.some.injEq] at e
    subst e
    obtain ⟨a, vs, rfl, h1, h2⟩ := rv.ktp
    exact ⟨_, l.length, rfl, .inr ⟨vs, h1.sq, h2.length.symm⟩, post_fin k R (by unfold RV; rfl)⟩
  | _ => rw [d] at e; cases e⟩
@[simp] def absV' (_ : MH) (v : Val) : Option Val := match v with
  | .int i => some (.int (if i < 0 then -i else i))
  | _ => none
def b_abs : CallB X cn W (.builtin "abs") (fn1 absV') := ⟨_, call_abs, entC_1 fun E q σm mh σ v w x Q R rv e k => by
  cases v with
  | int i => simp only [absV', Option.some.injEq] at e; subst e; exact ⟨i, by rw [rv.int], post_fin k R (by unfold RV; rfl)⟩
  | _ => cases e⟩
@[simp] def max2V (_ : MH) (v v' : Val) : Option Val := match v, v' with
  | .int i, .int j => some (.int (if j > i then j else i))
  | _, _ => none
@[simp] def min2V (_ : MH) (v v' : Val) : Option Val := match v, v' with
  | .int i, .int j => some (.int (if j < i then j else i))
  | _, _ => none
def b_max2 (hc : X.calm = true) : CallB X cn W (.builtin "max") (fn2 max2V) := ⟨_, call_max2 hc, entC_2 fun E q σm mh σ v v' w x x' Q R rv rv' e k => by
  cases v with
  | int i =>
    cases v' with
    | int j => simp only [max2V, Option.some.injEq] at e; subst e; exact ⟨i, j, by rw [rv.int, rv'.int], post_fin k R (by unfold RV; rfl)⟩
    | _ => cases e
  | _ => cases e⟩
def b_min2 (hc : X.calm = true) : CallB X cn W (.builtin "min") (fn2 min2V) := ⟨_, call_min2 hc, entC_2 fun E q σm mh σ v v' w x x' Q R rv rv' e k => by
  cases v with
  | int i =>
    cases v' with
    | int j => simp only [min2V, Option.some.injEq] at e; subst e; exact ⟨i, j, by rw [rv.int, rv'.int], post_fin k R (by unfold RV; rfl)⟩
    | _ => cases e
  | _ => cases e⟩
@[simp] def intV (_ : MH) (v : Val) : Option Val := match v with
  | .int i => some (.int i)
  | .bl b => some (.int (if b then 1 else 0))
  | _ => none
def b_int : CallB X cn W (.type "int") (fn1 intV) := ⟨_, call_int1, entC_1 fun E q σm mh σ v w x Q R rv e k => by
  cases v with
  | int i => simp only [intV, Option.some.injEq] at e; subst e; exact .inl ⟨i, by rw [rv.int], post_fin k R (by unfold RV; rfl)⟩
  | bl i => simp only [intV, Option.some.injEq] at e; subst e; exact .inr ⟨i, by rw [rv.bl], post_fin k R (by unfold RV; rfl)⟩
  | _ => cases e⟩
@[simp] def divmodV (_ : MH) (v v' : Val) : Option Val := match v, v' with
  | .int i, .int j => if 0 < j ∧ j < 1073741824 then some (.tup [.int (i / j), .int (i % j)]) else none
  | _, _ => none
def b_divmod : CallB X cn W (.builtin "divmod") (fn2 divmodV) := ⟨_, call_divmod, entC_2 fun E q σm mh σ v v' w x x' Q R rv rv' e k => by
  cases v with
  | int i =>
    cases v' with
    | int j =>
      simp only [divmodV] at e
      by_cases z : 0 < j ∧ j < 1073741824
      · simp only [z, and_self, if_true, Option.some.injEq] at e
        subst e
        refine ⟨i, j, by rw [rv.int, rv'.int], z, fun p hp => ?_⟩
        refine k (q.up p (.tup _)) (.ref p) (R.up hp) (ext_up hp) (rv_tup R.h hp (.cons ?_ (.cons ?_ .nil))) <;> (unfold RV; rfl)
      · simp only [z, if_false] at e; cases e
    | _ => cases e
  | _ => cases e⟩
/-- list(x): of a list or a tuple -/
@[simp] def listF (l : List Val) (h : MH) : Res (List Val) := match l with
  | [v] => match deref h v with
    | .lst y => .ok y h
    | .tup y => .ok y h
    | _ => .bad
  | _ => .bad
theorem entF_list : EntF X.K cn (fun xs H Q => ∃ p ys, xs = [.ref p] ∧ (SqL X.K H p ys ∨ SqT X.K H p ys) ∧ ∀ l, H l = none → Q (.ref l) (upd H l (.lst ys))) listF := by
  intro E q σm mh σ vs xs Q R rv k
  match vs, rv, k with
  | [], _, k => exact k.elim
  | [v], rv, k =>
    obtain ⟨x, rfl, rx⟩ := rv.one
    simp only [listF] at k
    cases d : deref mh v with
    | lst y =>
      rw [d] at k
      obtain ⟨a, ws, rfl, h1, _, h2⟩ := rx.list R d
      exact ⟨a, ws, rfl, .inl h1, fun l hl => k.2 l ws hl h2⟩
    | tup y =>
      rw [d] at k
      have := deref_ne d (fun _ z => by cases z); subst this
      obtain ⟨a, ws, rfl, h1, h2⟩ := rx.tup R
      exact ⟨a, ws, rfl, .inr h1.sq, fun l hl => k.2 l ws hl h2⟩
    | _ => rw [d] at k; exact k.elim
  | _ :: _ :: _, _, k => exact k.elim
theorem listF_ok (l : List Val) (h : MH) : match listF l h with | .ok _ h' => h' = h | .exc _ _ _ => False | .bad => True := by
  unfold listF
  match l with
  | [] => trivial
  | [v] =>
    simp only
    cases deref h v <;> trivial
  | _ :: _ :: _ => trivial
/-- isinstance(x, T), T a built-in class -/
@[simp] def tyN (h : MH) (v : Val) : Option String := match deref h v with
  | .non => some "NoneType"
  | .bl _ => some "bool"
  | .int _ => some "int"
  | .str _ => some "str"
  | .tup _ => some "tuple"
  | .ktp _ => some "tuple"
  | .lst _ => some "list"
  | _ => none
theorem tyN_ok {C : Cn} {E p : Pt} {σm : Env} {mh : MH} {σ : L2.St} {v : Val} {x : V} {T : String} (R : Rel C E p σm mh σ) (h : RVT C p σm σ v x) (e : tyN mh v = some T) : TyX C.K p.H x (.type T) := by
  unfold tyN at e
  cases d : deref mh v with
  | non => rw [d] at e; have := deref_ne d (fun _ z => by cases z); subst this; rw [h.non]; cases e; exact .base .non
  | bl b => rw [d] at e; have := deref_ne d (fun _ z => by cases z); subst this; rw [h.bl]; cases e; exact .base (.bl b)
  | int b => rw [d] at e; have := deref_ne d (fun _ z => by cases z); subst this; rw [h.int]; cases e; exact .base (.int b)
  | str b => rw [d] at e; have := deref_ne d (fun _ z => by cases z); subst this; rw [h.str]; cases e; exact .base (.str _)
  | tup l =>
    rw [d] at e; have := deref_ne d (fun _ z => by cases z); subst this; cases e
    obtain ⟨a, vs, rfl, h1, _⟩ := h.tup R
    exact .base (.tup h1.2)
  | ktp l =>
    rw [d] at e; have := deref_ne d (fun _ z => by cases z); subst this; cases e
    obtain ⟨a, vs, rfl, ⟨o, its, n, h1, h2, _⟩, _⟩ := h.ktp
    exact .kTuple h1 h2
  | lst l =>
    rw [d] at e; cases e
    obtain ⟨a, vs, rfl, _, (h1 | ⟨o, h1⟩) | ⟨its, n, h1, _⟩, _⟩ := h.list R d
    · exact .base (.lst h1)
    · exact .base (.frz h1)
    · exact .kList h1 rfl
  | ref n => rw [d] at e; cases e
  | exc c f => rw [d] at e; cases e
@[simp] def isiV (T : String) (h : MH) (v : Val) : Option Val := (tyN h v).bind fun t => (kitB t T).map Val.bl
def mIsi (T : String) (m : ME Val) : ME Val := fun σ h => (m σ h).bind fun v h1 => lift (isiV T h1 v) h1
theorem e_isi {T : String} {e : Expr} {p0 p1 pos : Pos} {x : Str} {m : ME Val} (ha : ET X cn W e m) (hx : X.mg x = none) (hi : X.mg "isinstance" = none) (hv : bootBuiltins x = some (.type T)) (hv2 : bootBuiltins "isinstance" = some (.builtin "isinstance")) (hgx : Gl X x := by rfl) (hg : Gl X "isinstance" := by rfl)
    (hn : x ≠ "__name__" := by decide) (hdb : (x == ("__debug__" : Str)) = false := by decide)
    (hs : starEach [e, .Name x p1] X.env = (false, eval e X.env) :: starEach [.Name x p1] X.env := by rfl) (hpl : (backTo pos (starEach [.Name x p1] X.env)).any (·.1) = false := by rfl)
    (hs2 : starEach [.Name x p1] X.env = (false, eval (.Name x p1) X.env) :: starEach [] X.env := by rfl) : EM X cn W (.Call (.Name "isinstance" p0) [e, .Name x p1] [] pos) (mIsi T m) :=
  PE.wk (pe_callB call_isi hg hi hv2 (pa_cons ha (pa_cons (pe_bltn (v := .ty T) hgx hx hv rfl hn hdb) pa_nil hs2) hs) (by decide) (by decide) hs hpl) fun σ H Q ⟨E, p, σm, mh, e1, R, k⟩ => ⟨E, p, σm, mh, e1, R, k.bind fun v mh1 q x R1 x1 rv k1 => by
    unfold isiV at k1
    cases d : tyN mh1 v with
    | none => rw [d] at k1; exact k1.elim
    | some t =>
      rw [d] at k1
      simp only [Option.bind_some] at k1
      cases d2 : kitB t T with
      | none => rw [d2] at k1; exact k1.elim
      | some b =>
        rw [d2] at k1
        exact ⟨x, .ty T, _, _, b, rfl, .ty T, tyN_ok R1 rv d, kit_ty d2, post_fin k1 R1 (by unfold RV; rfl)⟩⟩
end
end Mi
/-! Mi6: statements, targets, loops, defs and their calls. -/
namespace Mi
open PySem L2 PyProof.Rows

inductive SRes where
  | next (σ : Env) (h : MH) | ret (v : Val) (h : MH) | brk (σ : Env) (h : MH) | cont (σ : Env) (h : MH) | exc (c : String) (f : Option Val) (σ : Env) (h : MH) | bad
abbrev MS := Env → MH → SRes
def ofE {α : Type} (r : Res α) (σ : Env) (k : α → MH → SRes) : SRes := match r with
  | .ok v h => k v h
  | .exc c f h => .exc c f σ h
  | .bad => .bad
def SRes.seq (r : SRes) (k : MS) : SRes := match r with
  | .next σ h => k σ h
  | r => r
def postS (C : Cn) (W : WX) (E p : Pt) (D : Ends) : SRes → Prop
  | .next σm h => ∀ q σ, Rel C E q σm h σ → Ext p q → D.nx σ q.H
  | .brk σm h => ∀ q σ, Rel C E q σm h σ → Ext p q → D.bk σ q.H
  | .cont σm h => ∀ q σ, Rel C E q σm h σ → Ext p q → D.ct σ q.H
  | .ret v h => ∀ q σm σ x, Rel C E q σm h σ → Ext p q → RV C q v x → D.rt x q.H
  | .exc c f σm h => ∀ q σ cls d, Rel C E q σm h σ → Ext p q → RX C q c f cls d → W cls d σ q.H
  | .bad => False
theorem postS.ext {C : Cn} {W : WX} {E p q : Pt} {D : Ends} {r : SRes} (x : Ext p q) (h : postS C W E p D r) : postS C W E q D r := by
  cases r with
  | next σm m => exact fun q' σ r e => h q' σ r (x.trans e)
  | brk σm m => exact fun q' σ r e => h q' σ r (x.trans e)
  | cont σm m => exact fun q' σ r e => h q' σ r (x.trans e)
  | ret v m => exact fun q' σm σ y r e => h q' σm σ y r (x.trans e)
  | exc c f σm m => exact fun q' σ cls d r e => h q' σ cls d r (x.trans e)
  | bad => exact h
theorem postS.of {α β : Type} {R : RR α β} {C : Cn} {W : WX} {E p : Pt} {D : Ends} {σm : Env} {σ : L2.St} {Q : β → Hp → Prop} {r : Res α} {k : α → MH → SRes}
    (h : postS C W E p D (ofE r σm k)) (f : ∀ v mh q x, Rel C E q σm mh σ → Ext p q → R C q σm σ v x → postS C W E q D (k v mh) → Q x q.H) : post R C W E p σm σ Q r := by
  cases r with
  | ok v m => exact fun q x r e rv => f v m q x r e rv (postS.ext e h)
  | exc c g m => exact fun q cls d r e rx => h q σ cls d r e rx
  | bad => exact h
def tS (C : Cn) (W : WX) (m : MS) : TS := fun D σ H => ∃ E p σm mh, p.H = H ∧ Rel C E p σm mh σ ∧ postS C W E p D (m σm mh)
def SM (X : Cx) (cn : String → Addr) (W : WX) (st : Stmt) (m : MS) : Prop := PS X st (tS ⟨X.K, cn⟩ W m)
def BM (X : Cx) (cn : String → Addr) (W : WX) (st : List Stmt) (m : MS) : Prop := PSs X st (tS ⟨X.K, cn⟩ W m)

theorem PSs.wk {X : Cx} {st : List Stmt} {t t' : TS} (h : PSs X st t) (k : ∀ D σ H, t' D σ H → t D σ H) : PSs X st t' := ⟨fun pins s σ H D I w => h.run pins s σ H D I (k D σ H w)⟩
section
variable {X : Cx} {cn : String → Addr} {W : WX} {e a b c : Expr} {st : Stmt} {rest body orelse : List Stmt} {es : List Expr} {pos : Pos}

@[simp] def sSkip : MS := fun σ h => .next σ h
def sSeq (a b : MS) : MS := fun σ h => (a σ h).seq b
theorem b_nil : BM X cn W [] sSkip := PSs.wk pss_nil fun D σ H ⟨E, p, σm, mh, e1, R, k⟩ => by
  subst e1
  exact k p σ R (Ext.refl p)
theorem b_cons {m n : MS} (h : SM X cn W st m) (k : BM X cn W rest n) : BM X cn W (st :: rest) (sSeq m n) := PSs.wk (pss_cons h k) fun D σ H ⟨E, p, σm, mh, e1, R, w⟩ => by
  refine ⟨E, p, σm, mh, e1, R, ?_⟩
  unfold sSeq at w
  cases r : m σm mh with
  | next σ1 h1 => rw [r] at w; exact fun q σ2 R2 x2 => ⟨E, q, σ1, h1, rfl, R2, postS.ext x2 w⟩
  | ret v h1 => rw [r] at w; exact w
  | brk σ1 h1 => rw [r] at w; exact w
  | cont σ1 h1 => rw [r] at w; exact w
  | exc c f σ1 h1 => rw [r] at w; exact w
  | bad => rw [r] at w; exact w
theorem b_one {m : MS} (h : SM X cn W st m) : BM X cn W [st] m := pss_one h
theorem s_pass : SM X cn W (.Pass pos) sSkip := PS.wk ps_pass fun D σ H ⟨E, p, σm, mh, e1, R, k⟩ => by
  subst e1
  exact k p σ R (Ext.refl p)
@[simp] def sBrk : MS := fun σ h => .brk σ h
@[simp] def sCont : MS := fun σ h => .cont σ h
theorem s_break : SM X cn W (.Break pos) sBrk := PS.wk ps_break fun D σ H ⟨E, p, σm, mh, e1, R, k⟩ => by
  subst e1
  exact k p σ R (Ext.refl p)
theorem s_continue : SM X cn W (.Continue pos) sCont := PS.wk ps_continue fun D σ H ⟨E, p, σm, mh, e1, R, k⟩ => by
  subst e1
  exact k p σ R (Ext.refl p)
def sExpr (m : ME Val) : MS := fun σ h => ofE (m σ h) σ fun _ h1 => .next σ h1
theorem s_expr {m : ME Val} (h : EM X cn W e m) (hs : swapsWith e none pos.line X.env = pure false := by rfl) : SM X cn W (.Expr e pos) (sExpr m) := PS.wk (ps_expr h hs) fun D σ H ⟨E, p, σm, mh, e1, R, k⟩ =>
  ⟨E, p, σm, mh, e1, R, postS.of k fun v mh1 q x R1 x1 rv k1 => k1 q σ R1 (Ext.refl q)⟩
def sRet (m : ME Val) : MS := fun σ h => ofE (m σ h) σ fun v h1 => .ret v h1
theorem s_ret {m : ME Val} (h : EM X cn W e m) : SM X cn W (.Return (some e) pos) (sRet m) := PS.wk (ps_ret h) fun D σ H ⟨E, p, σm, mh, e1, R, k⟩ =>
  ⟨E, p, σm, mh, e1, R, postS.of k fun v mh1 q x R1 x1 rv k1 => k1 q σm σ x R1 (Ext.refl q) rv⟩
@[simp] def sRetN : MS := fun _ h => .ret .non h
theorem s_retN : SM X cn W (.Return none pos) sRetN := PS.wk ps_retN fun D σ H ⟨E, p, σm, mh, e1, R, k⟩ => by
  subst e1
  exact k p σm σ .non R (Ext.refl p) (by unfold RV; rfl)
/-- a slot's own list is handed back -/
def sRetO (i : Nat) : MS := fun σ h => match σ[i]? with
  | some (.own l) => .ret (.lst l) h
  | _ => .bad
theorem s_retO (i : Nat) {x : Str} {p0 : Pos} (hN : X.N[i]? = some x := by rfl) (hv : Vis X.env.scope x := by first | exact Or.inl rfl | exact Or.inr (Or.inl rfl) | exact Or.inr (Or.inr rfl)) (hd : (x == ("__debug__" : Str)) = false := by decide)
    (hcd : (x == ("__classdict__" : Str)) = false := by decide) : SM X cn W (.Return (some (.Name x p0)) pos) (sRetO i) := PS.wk (ps_ret (pe_var hN hv hd hcd)) fun D σ H ⟨E, p, σm, mh, e1, R, k⟩ => by
  subst e1
  unfold sRetO at k
  cases hs : σm[i]? with
  | none => rw [hs] at k; exact k.elim
  | some s =>
    rw [hs] at k
    cases s with
    | own l =>
      obtain ⟨R1, y, e2, rv⟩ := R.frz hs
      exact ⟨y, e2, k (p.un i) _ σ y R1 ext_un rv⟩
    | _ => exact k.elim
def sIf (c : ME Bool) (a b : MS) : MS := fun σ h => ofE (c σ h) σ fun t h1 => if t = true then a σ h1 else b σ h1
theorem s_if {mc : ME Bool} {m n : MS} {x y : List Stmt} (hc : TM X cn W c mc) (ha : BM X cn W x m) (hb : BM X cn W y n) : SM X cn W (.If c x y pos) (sIf mc m n) := PS.wk (ps_if hc ha hb) fun D σ H ⟨E, p, σm, mh, e1, R, k⟩ =>
  ⟨E, p, σm, mh, e1, R, postS.of k fun v mh1 q x R1 x1 rv k1 => by
    cases rv
    cases v with
    | true => exact iteT ⟨E, q, σm, mh1, rfl, R1, k1⟩
    | false => exact iteF ⟨E, q, σm, mh1, rfl, R1, k1⟩⟩

/-! ### targets -/
abbrev MG := Val → Env → MH → SRes
/-- after a target: what follows -/
def postG (C : Cn) (W : WX) (E p : Pt) (Q : L2.St → Hp → Prop) : SRes → Prop
  | .next σm h => ∀ q σ, Rel C E q σm h σ → Ext p q → Q σ q.H
  | .exc c f σm h => ∀ q σ cls d, Rel C E q σm h σ → Ext p q → RX C q c f cls d → W cls d σ q.H
  | _ => False
def tGt (C : Cn) (W : WX) (m : MG) : TG := fun x σ H Q => ∃ E p σm mh v, p.H = H ∧ Rel C E p σm mh σ ∧ RV C p v x ∧ postG C W E p Q (m v σm mh)
def GM (X : Cx) (cn : String → Addr) (W : WX) (t : Expr) (m : MG) : Prop := PG X t (tGt ⟨X.K, cn⟩ W m)
theorem PG.wk {t : Expr} {g g' : TG} (h : PG X t g) (k : ∀ x σ H Q, g' x σ H Q → g x σ H Q) : PG X t g' := ⟨fun pins s σ H v u Q I r w => h.run pins s σ H v u Q I r (k v σ H Q w)⟩
theorem PGs.wk {ts : List Expr} {g g' : TGs} (h : PGs X ts g) (k : ∀ x σ H Q, g' x σ H Q → g x σ H Q) : PGs X ts g' := ⟨fun pins s σ H v u Q I r w => h.run pins s σ H v u Q I r (k v σ H Q w)⟩
def gSet (i : Nat) : MG := fun v σ h => if i < σ.length then .next (σ.set i (.val v)) h else .bad
theorem g_name (i : Nat) {x : Str} (hN : X.N.Nodup) (hi : X.N[i]? = some x := by rfl) (hx : Loc X.env.scope x := by first | exact Or.inl rfl | exact Or.inr rfl) (hf : X.fn x = true ∨ X.env.scope.names.lookup x = some .local := by first | exact .inl rfl | exact .inr rfl) : GM X cn W (.Name x pos) (gSet i) :=
  PG.wk (pg_name hN hi hx hf) fun x σ H Q ⟨E, p, σm, mh, v, e1, R, rv, k⟩ => by
    subst e1
    unfold gSet at k
    by_cases z : i < σm.length
    · rw [if_pos z] at k
      exact k (p.un i) _ (R.setV z rv) ext_un
    · rw [if_neg z] at k; exact k.elim
abbrev MGs := List Val → Env → MH → SRes
def tGts (C : Cn) (W : WX) (m : MGs) : TGs := fun xs σ H Q => ∃ E p σm mh l, p.H = H ∧ Rel C E p σm mh σ ∧ RVs C p l xs ∧ postG C W E p Q (m l σm mh)
def GMs (X : Cx) (cn : String → Addr) (W : WX) (ts : List Expr) (m : MGs) : Prop := PGs X ts (tGts ⟨X.K, cn⟩ W m)
theorem postG.ext {C : Cn} {E p q : Pt} {Q : L2.St → Hp → Prop} {r : SRes} (x : Ext p q) (h : postG C W E p Q r) : postG C W E q Q r := by
  cases r with
  | next σm m => exact fun q' σ r e => h q' σ r (x.trans e)
  | exc c f σm m => exact fun q' σ cls d r e => h q' σ cls d r (x.trans e)
  | _ => exact h
@[simp] def gsNil : MGs := fun l σ h => match l with
  | [] => .next σ h
  | _ => .bad
def gsCons (g : MG) (r : MGs) : MGs := fun l σ h => match l with
  | v :: l => (g v σ h).seq fun σ1 h1 => r l σ1 h1
  | [] => .bad
theorem g_nil : GMs X cn W [] gsNil := PGs.wk pgs_nil fun xs σ H Q ⟨E, p, σm, mh, l, e1, R, rv, k⟩ => by
  subst e1
  cases l with
  | nil => exact ⟨rv.nil_inv, k p σ R (Ext.refl p)⟩
  | cons v l => exact k.elim
theorem g_cons {t : Expr} {ts : List Expr} {g : MG} {r : MGs} (h : GM X cn W t g) (k : GMs X cn W ts r) (hs : (assignEach (t :: ts) X.env).map (·.2) = assign t X.env :: (assignEach ts X.env).map (·.2) := by rfl) : GMs X cn W (t :: ts) (gsCons g r) :=
  PGs.wk (pgs_cons h k hs) fun xs σ H Q ⟨E, p, σm, mh, l, e1, R, rv, w⟩ => by
    cases l with
    | nil => exact w.elim
    | cons v l =>
      obtain ⟨x, y, rfl, h1, h2⟩ := rv.cons_inv
      refine ⟨x, y, rfl, E, p, σm, mh, v, e1, R, h1, ?_⟩
      simp only [gsCons] at w
      cases r1 : g v σm mh with
      | next σ1 m1 =>
        rw [r1] at w
        exact fun q σ2 R2 x2 => ⟨E, q, σ1, m1, l, rfl, R2, h2.ext x2, postG.ext x2 w⟩
      | exc c f σ1 m1 => rw [r1] at w; exact w
      | ret v h => rw [r1] at w; exact w.elim
      | brk σ h => rw [r1] at w; exact w.elim
      | cont σ h => rw [r1] at w; exact w.elim
      | bad => rw [r1] at w; exact w.elim
def gTupM (n : Nat) (r : MGs) : MG := fun v σ h => match v with
  | .tup l => if l.length = n then r l σ h else .bad
  | _ => .bad
theorem g_tup {k : Nat} {n : Nat} {r : MGs} (hc : X.calm = true) (h : GMs X cn W es r) (hn : (assignEach es X.env).length = n := by rfl) (hst : (assignEach es X.env).findIdx? (·.1) = none := by rfl) : GM X cn W (.Tuple es k pos) (gTupM n r) :=
  PG.wk (pg_tup hc h hn hst) fun x σ H Q ⟨E, p, σm, mh, v, e1, R, rv, w⟩ => by
    cases v with
    | tup l =>
      simp only [gTupM] at w
      by_cases z : l.length = n
      · rw [if_pos z] at w
        unfold RV at rv
        obtain ⟨a, vs, rfl, h1, h2⟩ := rv
        exact ⟨a, vs, rfl, by subst e1; exact h1.sq, by rw [h2.length]; exact z, E, p, σm, mh, l, e1, R, h2, w⟩
      · rw [if_neg z] at w; exact w.elim
    | _ => exact w.elim
/-- o[i] = v: a list by its number -/
@[simp] def putL (o i v : Val) (h : MH) : Option MH := match o, i with
  | .ref n, .int k => match h[n]? with
    | some (.lst l) => (ixN l.length k).map fun j => h.set n (.lst (l.set j v))
    | _ => none
  | _, _ => none
def gSubR (mo mi : ME Val) : MG := fun v σ h => ofE (mo σ h) σ fun o h1 => ofE (mi σ h1) σ fun i h2 => match putL o i v h2 with
  | some h3 => .next σ h3
  | none => .bad
theorem g_subR {o i : Expr} {mo mi : ME Val} (ho : EM X cn W o mo) (hi : EM X cn W i mi) (ha : ∀ v, assign (.Subscript o i pos) X.env v = (do
      let ov ← holding [v] (eval o X.env)
      let iv ← holding [v, ov] (eval i X.env)
      standAt pos
      holding [v, ov, iv] (setItem ov iv v)
      release [v, ov, iv] []) := by intro _; rfl) : GM X cn W (.Subscript o i pos) (gSubR mo mi) := PG.wk (pg_sub ho hi set_list ha) fun x σ H Q ⟨E, p, σm, mh, v, e1, R, rv, w⟩ => by
  have go : ∀ {α β : Type} {Rr : RR α β} {p : Pt} {D : Ends} {Q' : β → Hp → Prop} {r : Res α} {k : α → MH → SRes}, postG ⟨X.K, cn⟩ W E p Q (ofE r σm k) → (∀ v mh q x, Rel ⟨X.K, cn⟩ E q σm mh σ → Ext p q → Rr ⟨X.K, cn⟩ q σm σ v x → postG ⟨X.K, cn⟩ W E q Q (k v mh) → Q' x q.H) → post Rr ⟨X.K, cn⟩ W E p σm σ Q' r := fun {α β Rr p D Q' r k} h f => by
    cases r with
    | ok v m => exact fun q x r e rv => f v m q x r e rv (postG.ext e h)
    | exc c g m => exact fun q cls d r e rx => h q σ cls d r e rx
    | bad => exact h
  refine ⟨E, p, σm, mh, e1, R, go (D := ⟨fun _ _ => True, fun _ _ => True, fun _ _ => True, fun _ _ => True⟩) w fun ov mh1 q ox R1 x1 ro k1 => ⟨E, q, σm, mh1, rfl, R1, go (D := ⟨fun _ _ => True, fun _ _ => True, fun _ _ => True, fun _ _ => True⟩) k1 fun iv mh2 q2 ix R2 x2 ri k2 => ?_⟩⟩
  cases ov with
  | ref n =>
    cases iv with
    | int k =>
      simp only [putL] at k2
      cases hm : mh2[n]? with
      | none => rw [hm] at k2; exact k2.elim
      | some ob =>
        rw [hm] at k2
        cases ob with
        | lst l =>
          simp only at k2
          cases hj : ixN l.length k with
          | none => rw [hj] at k2; exact k2.elim
          | some j =>
            rw [hj] at k2
            have ro' : RV ⟨X.K, cn⟩ q2 (.ref n) ox := RV.ext x2 ro
            unfold RV at ro'
            obtain ⟨a, rfl, ha⟩ := ro'
            have ri' : RV ⟨X.K, cn⟩ q2 (.int k) ix := ri
            unfold RV at ri'
            rcases R2.h.obj n _ hm with ⟨z, _⟩ | ⟨a', ea, vs, e3, e4⟩
            · cases z
            · have : a = a' := by
                rcases ha with ha | ha
                · rw [ea] at ha; cases ha; rfl
                · rw [ea] at ha; cases ha
              subst this
              have f : q2.F a := F_ι ea
              refine ⟨a, vs, k, j, rfl, ri', e3, by rw [e4.length]; exact hj, ?_⟩
              exact k2 (q2.up a (.lst (vs.set j x))) σ (R2.write ea ⟨_, upd_same, ((e4.set j (RV.ext (x1.trans x2) rv)).ext (ext_wr f))⟩) (ext_wr f)
        | _ => exact k2.elim
    | _ => exact k2.elim
  | _ => exact k2.elim
def sAsg (m : ME Val) (g : MG) : MS := fun σ h => ofE (m σ h) σ fun v h1 => g v σ h1
theorem postS_G {C : Cn} {E p : Pt} {D : Ends} {r : SRes} (hr : ∀ v h, r ≠ .ret v h) (hb : ∀ v h, r ≠ .brk v h) (hc : ∀ v h, r ≠ .cont v h) (h : postS C W E p D r) : postG C W E p D.nx r := by
  cases r with
  | next σm m => exact h
  | exc c f σm m => exact h
  | ret v m => exact absurd rfl (hr v m)
  | brk v m => exact absurd rfl (hb v m)
  | cont v m => exact absurd rfl (hc v m)
  | bad => exact h
/-- a target neither returns nor leaves a loop -/
def plainG (r : SRes) : SRes := match r with
  | .next σ h => .next σ h
  | .exc c f σ h => .exc c f σ h
  | _ => .bad
theorem postS_pG {C : Cn} {E p : Pt} {D : Ends} {r : SRes} (h : postS C W E p D (plainG r)) : postG C W E p D.nx r := by
  cases r <;> exact h
def sAsgG (m : ME Val) (g : MG) : MS := fun σ h => ofE (m σ h) σ fun v h1 => plainG (g v σ h1)
theorem s_asg {tg : Expr} {m : ME Val} {g : MG} (he : EM X cn W e m) (hg : GM X cn W tg g) (hs : swapsWithSole [tg] e pos.line X.env = pure false := by rfl) (hw : swappedStores [tg] e X.env = pure none := by rfl)
    (h1 : (assignEach [tg] X.env).map (·.2) = [assign tg X.env] := by rfl) : SM X cn W (.Assign [tg] e pos) (sAsgG m g) := PS.wk (ps_asg he hg hs hw h1) fun D σ H ⟨E, p, σm, mh, e1, R, k⟩ =>
  ⟨E, p, σm, mh, e1, R, postS.of k fun v mh1 q x R1 x1 rv k1 => ⟨E, q, σm, mh1, v, rfl, R1, rv, postS_pG k1⟩⟩
/-- name = value -/
def sSet (i : Nat) (m : ME Val) : MS := fun σ h => ofE (m σ h) σ fun v h1 => if i < σ.length then .next (σ.set i (.val v)) h1 else .bad
theorem s_set (i : Nat) {x : Str} {pos' : Pos} {m : ME Val} (hN : X.N.Nodup) (he : EM X cn W e m) (hi : X.N[i]? = some x := by rfl) (hx : Loc X.env.scope x := by first | exact Or.inl rfl | exact Or.inr rfl) (hs : swapsWith e (some (.Name x pos')) pos.line X.env = pure false := by rfl)
    (hf : X.fn x = true ∨ X.env.scope.names.lookup x = some .local := by first | exact .inl rfl | exact .inr rfl) : SM X cn W (.Assign [.Name x pos'] e pos) (sSet i m) := PS.wk (ps_set hN hi hx he hs hf) fun D σ H ⟨E, p, σm, mh, e1, R, k⟩ =>
  ⟨E, p, σm, mh, e1, R, postS.of k fun v mh1 q x R1 x1 rv k1 => by
    by_cases z : i < σm.length
    · rw [if_pos z] at k1
      exact k1 (q.un i) _ (R1.setV z rv) ext_un
    · rw [if_neg z] at k1; exact k1.elim⟩
/-- name = a new list, the name's own -/
def sSetO (i : Nat) (m : ME (List Val)) : MS := fun σ h => ofE (m σ h) σ fun v h1 => if i < σ.length then .next (σ.set i (.own v)) h1 else .bad
theorem tFr_ow {i : Nat} {m : ME (List Val)} {D : Ends} {σ : L2.St} {H : Hp} (h : tS ⟨X.K, cn⟩ W (sSetO i m) D σ H) : tFr ⟨X.K, cn⟩ W m σ H fun x H1 => D.nx (σ.set i (some x)) H1 := by
  obtain ⟨E, p, σm, mh, e1, R, k⟩ := h
  refine ⟨E, p, σm, mh, e1, R, ?_⟩
  unfold sSetO at k
  cases r : m σm mh with
  | ok l h =>
    rw [r] at k
    intro q a vs R1 x1 hn rv
    simp only [ofE] at k
    by_cases z : i < σm.length
    · rw [if_pos z] at k
      exact k (q.ow i a vs) _ (R1.ow z hn rv) (x1.trans (ext_ow hn))
    · rw [if_neg z] at k; exact k.elim
  | exc c f h => rw [r] at k; exact fun q cls d R1 x1 rx => k q σ cls d R1 x1 rx
  | bad => rw [r] at k; exact k
theorem s_setO (i : Nat) {x : Str} {pos' : Pos} {m : ME (List Val)} (hN : X.N.Nodup) (he : EF X cn W e m) (hi : X.N[i]? = some x := by rfl) (hx : Loc X.env.scope x := by first | exact Or.inl rfl | exact Or.inr rfl) (hs : swapsWith e (some (.Name x pos')) pos.line X.env = pure false := by rfl)
    (hf : X.fn x = true ∨ X.env.scope.names.lookup x = some .local := by first | exact .inl rfl | exact .inr rfl) : SM X cn W (.Assign [.Name x pos'] e pos) (sSetO i m) := PS.wk (ps_set hN hi hx he hs hf) fun D σ H h => tFr_ow h
/-- a slot's own list becomes a value: ahead of a statement -/
def sFrz (i : Nat) : MS := fun σ h => match σ[i]? with
  | some (.own l) => .next (σ.set i (.val (.lst l))) h
  | _ => .bad
theorem b_frz (i : Nat) {m : MS} (h : BM X cn W rest m) : BM X cn W rest (sSeq (sFrz i) m) := PSs.wk h fun D σ H ⟨E, p, σm, mh, e1, R, k⟩ => by
  subst e1
  unfold sSeq sFrz at k
  cases hs : σm[i]? with
  | none => rw [hs] at k; exact k.elim
  | some s =>
    rw [hs] at k
    cases s with
    | own l =>
      obtain ⟨R1, y, e2, rv⟩ := R.frz hs
      exact ⟨E, p.un i, _, mh, rfl, R1, postS.ext ext_un k⟩
    | _ => exact k.elim

/-! ### methods of lists -/
/-- a method of lists: from the content and the arguments the new content and the value -/
abbrev LF := List Val → List Val → Option (List Val × Val)
structure LMeth (X : Cx) (cn : String → Addr) (id : String) (f : LF) where
  r : V → List V → Hp → VK → Prop
  ok : MtR X id r
  ent : ∀ (q : Pt) (a : Addr) (l : List Val) (vs : List V) (args : List Val) (xs : List V) (l' : List Val) (w : Val) (Q : VK), q.H a = some (.lst vs) → RVs ⟨X.K, cn⟩ q l vs → RVs ⟨X.K, cn⟩ q args xs → f l args = some (l', w) →
    (∀ vs' y, RVs ⟨X.K, cn⟩ q l' vs' → RV ⟨X.K, cn⟩ q w y → Q y (upd q.H a (.lst vs'))) → r (.ref a) xs q.H Q
/-- of an object by its number -/
def mMeth (f : LF) (mo : ME Val) (m : ME (List Val)) : ME Val := fun σ h => (mo σ h).bind fun o h1 => match o with
  | .ref n => match h1[n]? with
    | some (.lst _) => (m σ h1).bind fun args h2 => match h2[n]? with
      | some (.lst l) => match f l args with
        | some (l', w) => .ok w (h2.set n (.lst l'))
        | none => .bad
      | _ => .bad
    | _ => .bad
  | _ => .bad
theorem tBM_of {id : String} {f : LF} (L : LMeth X cn id f) {mo : ME Val} {m : ME (List Val)} {σ : L2.St} {H : Hp} {Q : VK} (h : tG RVr ⟨X.K, cn⟩ W (mMeth f mo m) σ H Q) :
    tG RVr ⟨X.K, cn⟩ W mo σ H fun x H1 => tyV X.K "list" x H1 ∧ tG RVsr ⟨X.K, cn⟩ W m σ H1 fun xs H2 => L.r x xs H2 Q := by
  obtain ⟨E, p, σm, mh, e1, R, k⟩ := h
  refine ⟨E, p, σm, mh, e1, R, k.bind fun o mh1 q x R1 x1 rv k1 => ?_⟩
  cases o with
  | ref n =>
    have rv' : RV ⟨X.K, cn⟩ q (.ref n) x := rv
    unfold RV at rv'
    obtain ⟨a, rfl, ha⟩ := rv'
    simp only at k1
    cases hm : mh1[n]? with
    | none => rw [hm] at k1; exact k1.elim
    | some ob =>
      rw [hm] at k1
      cases ob with
      | lst l0 =>
        rcases R1.h.obj n _ hm with ⟨z, _⟩ | ⟨a', ea, vs0, e3, e4⟩
        · cases z
        have ha' : q.ι[n]? = some (some a) := by
          rcases ha with ha | ha
          · exact ha
          · rw [ea] at ha; cases ha
        rw [ea] at ha'; cases ha'
        refine ⟨.inl ⟨rfl, vs0, .inl (.inl e3)⟩, E, q, σm, mh1, rfl, R1, k1.bind fun args mh2 q2 xs R2 x2 rs k2 => ?_⟩
        cases hm2 : mh2[n]? with
        | none => rw [hm2] at k2; exact k2.elim
        | some ob2 =>
          rw [hm2] at k2
          cases ob2 with
          | lst l =>
            simp only at k2
            cases hf : f l args with
            | none => rw [hf] at k2; exact k2.elim
            | some lw =>
              obtain ⟨l', w⟩ := lw
              rw [hf] at k2
              rcases R2.h.obj n _ hm2 with ⟨z, _⟩ | ⟨a2, ea2, vs, e5, e6⟩
              · cases z
              have ha2 : q2.ι[n]? = some (some a) := by
                rcases x2.idx n _ ea with h | h
                · exact h
                · rw [ea2] at h; cases h
              rw [ea2] at ha2; cases ha2
              have F2 : q2.F a := F_ι ea2
              refine L.ent q2 a l vs args xs l' w Q e5 e6 rs hf fun vs' y r1 r2 => ?_
              exact k2 (q2.up a (.lst vs')) y (R2.write ea2 ⟨_, upd_same, r1.ext (ext_wr F2)⟩) (ext_wr F2) (RV.ext (ext_wr F2) r2)
          | _ => exact k2.elim
      | _ => exact k1.elim
  | _ => exact k1.elim
theorem e_meth {name : Str} {id : String} {f : LF} {o : Expr} {apos cpos : Pos} {mo : ME Val} {m : ME (List Val)} (L : LMeth X cn id f) (slot : PySem.Slot "list" name id) (hty : typeOf (.builtin id) = pure (.type "method_descriptor")) (ho : EM X cn W o mo) (ha : AM X cn W (e :: es) m)
    (hbase : attributeBase o name X.env (eval o X.env) = eval o X.env := by rfl)
    (hfew : ((backTo cpos (starEach (e :: es) X.env)).all (fun x => !x.1) && (backToKw cpos (keywordEach [] X.env)).all (fun x => x.1.isSome) && decide ((e :: es).length + ([] : List Keyword).length + (if ([] : List Keyword).isEmpty then 0 else 1) < 30)) = true := by rfl)
    (hline : (apos.endLine == cpos.line) = true := by rfl) (hs : starEach (e :: es) X.env = (false, eval e X.env) :: starEach es X.env := by rfl) (hplain : (backTo cpos (starEach es X.env)).any (·.1) = false := by rfl) :
    EM X cn W (.Call (.Attribute o name apos) (e :: es) [] cpos) (mMeth f mo m) :=
  PE.wk (pe_bm PySem.F.plainAttrs_list slot hty L.ok ho ha hbase hfew hline hs hplain) fun σ H Q h => tBM_of L h
theorem e_meth0 {name : Str} {id : String} {f : LF} {o : Expr} {apos cpos : Pos} {mo : ME Val} (L : LMeth X cn id f) (slot : PySem.Slot "list" name id) (hty : typeOf (.builtin id) = pure (.type "method_descriptor")) (ho : EM X cn W o mo)
    (hbase : attributeBase o name X.env (eval o X.env) = eval o X.env := by rfl) (hline : (apos.endLine == cpos.line) = true := by rfl) : EM X cn W (.Call (.Attribute o name apos) [] [] cpos) (mMeth f mo mNil) :=
  PE.wk (pe_bm0 PySem.F.plainAttrs_list slot hty L.ok ho hbase hline) fun σ H Q h => by
    obtain ⟨E, p, σm, mh, e1, R, k⟩ := tBM_of L h
    refine ⟨E, p, σm, mh, e1, R, ?_⟩
    cases r : mo σm mh with
    | ok v m =>
      rw [r] at k
      intro q x R1 x1 rv
      obtain ⟨h1, E', p', σm', mh', e2, R', k'⟩ := k q x R1 x1 rv
      exact ⟨h1, by rw [← e2]; exact k' p' [] R' (Ext.refl p') .nil⟩
    | exc c f m => rw [r] at k; exact k
    | bad => rw [r] at k; exact k
/-- of a name's own list, as a statement -/
def sOwn (f : LF) (i : Nat) (m : ME (List Val)) : MS := fun σ h => match σ[i]? with
  | some (.own l) => ofE (m σ h) σ fun args h1 => match f l args with
    | some (l', _) => .next (σ.set i (.own l')) h1
    | none => .bad
  | _ => .bad
theorem tOwn_of {id : String} {f : LF} (L : LMeth X cn id f) {i : Nat} {m : ME (List Val)} {D : Ends} {σ : L2.St} {H : Hp} (h : tS ⟨X.K, cn⟩ W (sOwn f i m) D σ H) :
    tVar i σ H fun x H1 => tyV X.K "list" x H1 ∧ tG RVsr ⟨X.K, cn⟩ W m σ H1 fun xs H2 => L.r x xs H2 fun _ H3 => D.nx σ H3 := by
  obtain ⟨E, p, σm, mh, e1, R, k⟩ := h
  subst e1
  unfold sOwn at k
  cases hs : σm[i]? with
  | none => rw [hs] at k; exact k.elim
  | some s =>
    rw [hs] at k
    cases s with
    | own l =>
      obtain ⟨a, vs0, e0, e2, e3, _⟩ := R.slot i _ hs
      refine ⟨.ref a, e2, .inl ⟨rfl, vs0, .inl (.inl e3)⟩, E, p, σm, mh, rfl, R, postS.of k fun args mh2 q2 xs R2 x2 rs k2 => ?_⟩
      cases hf : f l args with
      | none => rw [hf] at k2; exact k2.elim
      | some lw =>
        obtain ⟨l', w⟩ := lw
        rw [hf] at k2
        obtain ⟨b, vs, f0, f2, f3, f4⟩ := R2.slot i _ hs
        rw [e2] at f2; cases f2
        have F2 : q2.F a := F_ω f0
        refine L.ent q2 a l vs args xs l' w _ f3 f4 rs hf fun vs' y r1 r2 => ?_
        exact k2 (q2.up a (.lst vs')) σ (R2.owr hs f0 r1) (ext_wr F2)
    | _ => exact k.elim
theorem s_own (i : Nat) {name : Str} {id : String} {f : LF} {x : Str} {p0 apos cpos : Pos} {m : ME (List Val)} (L : LMeth X cn id f) (slot : PySem.Slot "list" name id) (hty : typeOf (.builtin id) = pure (.type "method_descriptor")) (ha : AM X cn W (e :: es) m)
    (hN : X.N[i]? = some x := by rfl) (hv : Vis X.env.scope x := by first | exact Or.inl rfl | exact Or.inr (Or.inl rfl) | exact Or.inr (Or.inr rfl))
    (hbase : attributeBase (.Name x p0) name X.env (eval (.Name x p0) X.env) = eval (.Name x p0) X.env := by rfl)
    (hfew : ((backTo cpos (starEach (e :: es) X.env)).all (fun x => !x.1) && (backToKw cpos (keywordEach [] X.env)).all (fun x => x.1.isSome) && decide ((e :: es).length + ([] : List Keyword).length + (if ([] : List Keyword).isEmpty then 0 else 1) < 30)) = true := by rfl)
    (hline : (apos.endLine == cpos.line) = true := by rfl) (hs : starEach (e :: es) X.env = (false, eval e X.env) :: starEach es X.env := by rfl) (hplain : (backTo cpos (starEach es X.env)).any (·.1) = false := by rfl)
    (hsw : swapsWith (.Call (.Attribute (.Name x p0) name apos) (e :: es) [] cpos) none pos.line X.env = pure false := by rfl) (hd : (x == ("__debug__" : Str)) = false := by decide) (hcd : (x == ("__classdict__" : Str)) = false := by decide) :
    SM X cn W (.Expr (.Call (.Attribute (.Name x p0) name apos) (e :: es) [] cpos) pos) (sOwn f i m) :=
  PS.wk (ps_expr (pe_bm PySem.F.plainAttrs_list slot hty L.ok (pe_var hN hv hd hcd) ha hbase hfew hline hs hplain) hsw) fun D σ H h => tOwn_of L h
theorem s_own0 (i : Nat) {name : Str} {id : String} {f : LF} {x : Str} {p0 apos cpos : Pos} (L : LMeth X cn id f) (slot : PySem.Slot "list" name id) (hty : typeOf (.builtin id) = pure (.type "method_descriptor"))
    (hN : X.N[i]? = some x := by rfl) (hv : Vis X.env.scope x := by first | exact Or.inl rfl | exact Or.inr (Or.inl rfl) | exact Or.inr (Or.inr rfl))
    (hbase : attributeBase (.Name x p0) name X.env (eval (.Name x p0) X.env) = eval (.Name x p0) X.env := by rfl) (hline : (apos.endLine == cpos.line) = true := by rfl)
    (hsw : swapsWith (.Call (.Attribute (.Name x p0) name apos) [] [] cpos) none pos.line X.env = pure false := by rfl) (hd : (x == ("__debug__" : Str)) = false := by decide) (hcd : (x == ("__classdict__" : Str)) = false := by decide) :
    SM X cn W (.Expr (.Call (.Attribute (.Name x p0) name apos) [] [] cpos) pos) (sOwn f i mNil) :=
  PS.wk (ps_expr (pe_bm0 PySem.F.plainAttrs_list slot hty L.ok (pe_var hN hv hd hcd) hbase hline) hsw) fun D σ H h => by
    obtain ⟨x, e1, h1, E', p', σm', mh', e2, R', k'⟩ := tOwn_of L h
    exact ⟨x, e1, h1, by rw [← e2]; exact k' p' [] R' (Ext.refl p') .nil⟩
def fApp : LF := fun l a => match a with
  | [v] => if l.length < 16777216 then some (l ++ [v], .non) else none
  | _ => none
def l_append : LMeth X cn "list.append" fApp := ⟨rAppend, mt_append, fun q a l vs args xs l' w Q e r rs hf k => by
  match args, rs, hf with
  | [], _, hf => cases hf
  | [v], rs, hf =>
    obtain ⟨x, t, rfl, h1, h2⟩ := rs.cons_inv
    rw [h2.nil_inv]
    unfold fApp at hf
    by_cases z : l.length < 16777216
    · simp only [z, if_true, Option.some.injEq, Prod.mk.injEq] at hf
      obtain ⟨rfl, rfl⟩ := hf
      exact ⟨a, vs, x, rfl, rfl, e, by rw [r.length, sizeLine_eq]; exact z, k _ _ (r.append (.cons h1 .nil)) (by unfold RV; rfl)⟩
    · simp only [z, if_false] at hf; cases hf
  | _ :: _ :: _, _, hf => cases hf⟩

/-- o[i] = v of a name's own list -/
def sOwnPut (i : Nat) (mv mi : ME Val) : MS := fun σ h => ofE (mv σ h) σ fun v h1 => match σ[i]? with
  | some (.own l) => ofE (mi σ h1) σ fun k h2 => match k with
    | .int k => match ixN l.length k with
      | some j => .next (σ.set i (.own (l.set j v))) h2
      | none => .bad
    | _ => .bad
  | _ => .bad
theorem s_ownPut (i : Nat) {x : Str} {p0 spos : Pos} {ix : Expr} {mv mi : ME Val} (hv : EM X cn W e mv) (hi : EM X cn W ix mi) (hN : X.N[i]? = some x := by rfl) (hvis : Vis X.env.scope x := by first | exact Or.inl rfl | exact Or.inr (Or.inl rfl) | exact Or.inr (Or.inr rfl))
    (hs : swapsWithSole [.Subscript (.Name x p0) ix spos] e pos.line X.env = pure false := by rfl) (hw : swappedStores [.Subscript (.Name x p0) ix spos] e X.env = pure none := by rfl)
    (h1 : (assignEach [.Subscript (.Name x p0) ix spos] X.env).map (·.2) = [assign (.Subscript (.Name x p0) ix spos) X.env] := by rfl)
    (ha : ∀ v, assign (.Subscript (.Name x p0) ix spos) X.env v = (do
      let ov ← holding [v] (eval (.Name x p0) X.env)
      let iv ← holding [v, ov] (eval ix X.env)
      standAt spos
      holding [v, ov, iv] (setItem ov iv v)
      release [v, ov, iv] []) := by intro _; rfl) (hd : (x == ("__debug__" : Str)) = false := by decide) (hcd : (x == ("__classdict__" : Str)) = false := by decide) :
    SM X cn W (.Assign [.Subscript (.Name x p0) ix spos] e pos) (sOwnPut i mv mi) :=
  PS.wk (ps_asg hv (pg_sub (pe_var hN hvis hd hcd) hi set_list ha) hs hw h1) fun D σ H ⟨E, p, σm, mh, e1, R, k⟩ => ⟨E, p, σm, mh, e1, R, postS.of k fun v mh1 q xv R1 x1 rv k1 => by
    cases hs : σm[i]? with
    | none => rw [hs] at k1; exact k1.elim
    | some s =>
      rw [hs] at k1
      cases s with
      | own l =>
        obtain ⟨a, vs0, e0, e2, e3, _⟩ := R1.slot i _ hs
        refine ⟨.ref a, e2, E, q, σm, mh1, rfl, R1, postS.of k1 fun w mh2 q2 y R2 x2 ry k2 => ?_⟩
        cases w with
        | int n =>
          simp only at k2
          cases hj : ixN l.length n with
          | none => rw [hj] at k2; exact k2.elim
          | some j =>
            rw [hj] at k2
            obtain ⟨b, vs, f0, f2, f3, f4⟩ := R2.slot i _ hs
            rw [e2] at f2; cases f2
            have F2 : q2.F a := F_ω f0
            have ry' : RV _ _ _ _ := ry
            unfold RV at ry'
            refine ⟨a, vs, n, j, rfl, ry', f3, by rw [f4.length]; exact hj, ?_⟩
            exact k2 (q2.up a (.lst _)) σ (R2.owr hs f0 (f4.set j (RV.ext x2 rv))) (ext_wr F2)
        | _ => exact k2.elim
      | _ => exact k1.elim⟩

/-! ### attributes -/
def mFld (f : String) (m : ME Val) : ME Val := fun σ h => (m σ h).bind fun o h1 => match o with
  | .ref n => match h1[n]? with
    | some (.ins _ fs) => match fs.lookup f with
      | some v => .ok v h1
      | none => .bad
    | _ => .bad
  | _ => .bad
theorem ofString_inj {a b : String} (h : Str.ofString a = Str.ofString b) : a = b := by
  have e : ∀ s : String, (Str.ofString s).cps.toList = s.toList.map Char.toNat := fun s => by
    show (cpsOfBytes 0 0 s.toByteArray.data.toList).toArray.toList = _
    rw [cpsOfBytes_string]
  have h1 : a.toList.map Char.toNat = b.toList.map Char.toNat := by rw [← e, ← e, h]
  have h2 : ∀ (l m : List Char), l.map Char.toNat = m.map Char.toNat → l = m := fun l => by
    induction l with
    | nil => intro m hm; cases m with
      | nil => rfl
      | cons c m => simp at hm
    | cons c l ih =>
      intro m hm
      cases m with
      | nil => simp at hm
      | cons d m =>
        simp only [List.map_cons, List.cons.injEq] at hm
        have hc : c = d := Char.ext (UInt32.toNat_inj.mp hm.1)
        rw [hc, ih m hm.2]
  have h3 := h2 _ _ h1
  exact String.toList_inj.mp h3
theorem RFs.lookup {C : Cn} {p : Pt} {f : String} {v : Val} : ∀ {fs : List (String × Val)} {gs : List (Str × V)}, RFs C p fs gs → fs.lookup f = some v → ∃ x, gs.lookup (Str.ofString f) = some x ∧ RV C p v x
  | [], gs, _, e => by cases e
  | (g, w) :: fs, gs, ⟨vs, e1, r⟩, e => by
    obtain ⟨x, t, rfl, h1, h2⟩ := r.cons_inv
    subst e1
    simp only [List.map_cons, List.zip_cons_cons, List.lookup_cons]
    by_cases q : f = g
    · subst q
      simp only [List.lookup_cons, beq_self_eq_true, Option.some.injEq] at e
      subst e
      exact ⟨x, by simp, h1⟩
    · have e2 : (f == g) = false := by simpa using q
      rw [List.lookup_cons, e2] at e
      have e3 : (Str.ofString f == Str.ofString g) = false := by
        rw [beq_eq_false_iff_ne]; exact fun z => q (ofString_inj z)
      rw [e3]
      exact RFs.lookup ⟨t, rfl, h2⟩ e
theorem RFs.lookup_none {C : Cn} {p : Pt} {f : String} : ∀ {fs : List (String × Val)} {gs : List (Str × V)}, RFs C p fs gs → fs.lookup f = none → gs.lookup (Str.ofString f) = none
  | [], gs, ⟨vs, e1, r⟩, e => by subst e1; rfl
  | (g, w) :: fs, gs, ⟨vs, e1, r⟩, e => by
    obtain ⟨x, t, rfl, h1, h2⟩ := r.cons_inv
    subst e1
    simp only [List.map_cons, List.zip_cons_cons, List.lookup_cons]
    by_cases q : f = g
    · subst q
      simp [List.lookup_cons] at e
    · have e2 : (f == g) = false := by simpa using q
      rw [List.lookup_cons, e2] at e
      have e3 : (Str.ofString f == Str.ofString g) = false := by
        rw [beq_eq_false_iff_ne]; exact fun z => q (ofString_inj z)
      rw [e3]
      exact RFs.lookup_none ⟨t, rfl, h2⟩ e
def putM (f : String) (v : Val) : List (String × Val) → List (String × Val)
  | [] => [(f, v)]
  | (g, x) :: r => if g = f then (g, v) :: r else (g, x) :: putM f v r
theorem putM_length (f : String) (v : Val) : ∀ fs : List (String × Val), (putM f v fs).length ≤ fs.length + 1
  | [] => by simp [putM]
  | (g, x) :: r => by
    unfold putM
    split
    · simp
    · have := putM_length f v r
      simp only [List.length_cons]; omega
theorem RFs.put {C : Cn} {p : Pt} {f : String} {v : Val} {y : V} (ry : RV C p v y) : ∀ {fs : List (String × Val)} {gs : List (Str × V)}, RFs C p fs gs → RFs C p (putM f v fs) (putF (Str.ofString f) y gs)
  | [], gs, ⟨vs, e1, r⟩ => by
    subst e1
    exact ⟨[y], rfl, .cons ry .nil⟩
  | (g, w) :: fs, gs, ⟨vs, e1, r⟩ => by
    obtain ⟨x, t, rfl, h1, h2⟩ := r.cons_inv
    subst e1
    simp only [List.map_cons, List.zip_cons_cons]
    unfold putM putF
    by_cases q : g = f
    · subst q
      rw [if_pos rfl, if_pos rfl]
      exact ⟨y :: t, rfl, .cons ry h2⟩
    · rw [if_neg q, if_neg fun z => q (ofString_inj z)]
      obtain ⟨us, e3, r3⟩ := RFs.put ry (fs := fs) ⟨t, rfl, h2⟩
      rw [e3]
      exact ⟨x :: us, rfl, .cons h1 r3⟩
theorem RFs.length {C : Cn} {p : Pt} {fs : List (String × Val)} {gs : List (Str × V)} (h : RFs C p fs gs) : gs.length = fs.length := by
  obtain ⟨vs, e1, r⟩ := h
  have := r.length
  rw [e1, List.length_zip, List.length_map, this, List.length_map, Nat.min_self]
/-- what the text says of a class: its attributes are plain -/
structure ClsM (K : PySem.W.Frag) (cn : String → Addr) (c : String) (fs : List String) : Prop where
  cl : Cls K (cn c)
  no : ∀ f ∈ fs, NoAttr K (cn c) (Str.ofString f)
/-- all classes of the text -/
def Clss (K : PySem.W.Frag) (cn : String → Addr) (L : List (String × List String)) : Prop := ∀ c fs, (c, fs) ∈ L → ClsM K cn c fs
def mFldC (L : List (String × List String)) (f : String) (m : ME Val) : ME Val := fun σ h => (m σ h).bind fun o h1 => match o with
  | .ref n => match h1[n]? with
    | some (.ins c fs) => match L.lookup c with
      | some ks => if f ∈ ks then (match fs.lookup f with
        | some v => .ok v h1
        | none => .bad) else .bad
      | none => .bad
    | _ => .bad
  | _ => .bad
theorem lookup_mem {α : Type} {c : String} {x : α} : ∀ {L : List (String × α)}, L.lookup c = some x → (c, x) ∈ L
  | [], h => by cases h
  | (d, y) :: L, h => by
    rw [List.lookup_cons] at h
    by_cases q : (c == d) = true
    · rw [q] at h
      have : c = d := eq_of_beq q
      subst this
      cases h
      exact List.mem_cons_self
    · have q' : (c == d) = false := by simpa using q
      rw [q'] at h
      exact List.mem_cons_of_mem _ (lookup_mem h)
theorem e_fld {f : String} {L : List (String × List String)} {m : ME Val} (K0 : Clss X.K cn L) (he : EM X cn W e m) (hb : attributeBase e (Str.ofString f) X.env (eval e X.env) = eval e X.env := by rfl) : EM X cn W (.Attribute e (Str.ofString f) pos) (mFldC L f m) :=
  PE.wk (pe_fld he hb) fun σ H Q ⟨E, p, σm, mh, e1, R, k⟩ => ⟨E, p, σm, mh, e1, R, k.bind fun o mh1 q x R1 x1 rv k1 => by
    cases o with
    | ref n =>
      have rv' : RV ⟨X.K, cn⟩ q (.ref n) x := rv
      unfold RV at rv'
      obtain ⟨a, rfl, ha⟩ := rv'
      simp only at k1
      cases hm : mh1[n]? with
      | none => rw [hm] at k1; exact k1.elim
      | some ob =>
        rw [hm] at k1
        cases ob with
        | ins c fs =>
          simp only at k1
          cases hL : L.lookup c with
          | none => rw [hL] at k1; exact k1.elim
          | some ks =>
            rw [hL] at k1
            simp only at k1
            by_cases hf : f ∈ ks
            · rw [if_pos hf] at k1
              cases hl : fs.lookup f with
              | none => rw [hl] at k1; exact k1.elim
              | some v =>
                rw [hl] at k1
                rcases R1.h.obj n _ hm with ⟨z, _⟩ | ⟨a', ea, dx, gs, e3, e4⟩
                · cases z
                have ha' : q.ι[n]? = some (some a) := by
                  rcases ha with ha | ha
                  · exact ha
                  · rw [ea] at ha; cases ha
                rw [ea] at ha'; cases ha'
                obtain ⟨y, h1, h2⟩ := e4.lookup hl
                have M := K0 c ks (lookup_mem hL)
                exact ⟨a, cn c, dx, gs, y, rfl, e3, M.cl, M.no f hf, h1, post_fin k1 R1 h2⟩
            · rw [if_neg hf] at k1; exact k1.elim
        | _ => exact k1.elim
    | _ => exact k1.elim⟩
/-- o.f = e -/
def sFldC (L : List (String × List String)) (f : String) (mo me : ME Val) : MS := fun σ h => ofE (me σ h) σ fun v h1 => ofE (mo σ h1) σ fun o h2 => match o with
  | .ref n => match h2[n]? with
    | some (.ins c fs) => match L.lookup c with
      | some ks => if f ∈ ks ∧ fs.length < 1000 then .next σ (h2.set n (.ins c (putM f v fs))) else .bad
      | none => .bad
    | _ => .bad
  | _ => .bad
theorem s_fld {f : String} {L : List (String × List String)} {o : Expr} {pos' : Pos} {mo me : ME Val} (K0 : Clss X.K cn L) (ho : EM X cn W o mo) (he : EM X cn W e me) (hs : swapsWith e (some (.Attribute o (Str.ofString f) pos')) pos.line X.env = pure false := by rfl) :
    SM X cn W (.Assign [.Attribute o (Str.ofString f) pos'] e pos) (sFldC L f mo me) := PS.wk (ps_fld ho he hs) fun D σ H ⟨E, p, σm, mh, e1, R, k⟩ =>
  ⟨E, p, σm, mh, e1, R, postS.of k fun v mh1 q x R1 x1 rv k1 => ⟨E, q, σm, mh1, rfl, R1, postS.of k1 fun ov mh2 q2 y R2 x2 ro k2 => by
    cases ov with
    | ref n =>
      have ro' : RV ⟨X.K, cn⟩ q2 (.ref n) y := ro
      unfold RV at ro'
      obtain ⟨a, rfl, ha⟩ := ro'
      simp only at k2
      cases hm : mh2[n]? with
      | none => rw [hm] at k2; exact k2.elim
      | some ob =>
        rw [hm] at k2
        cases ob with
        | ins c fs =>
          simp only at k2
          cases hL : L.lookup c with
          | none => rw [hL] at k2; exact k2.elim
          | some ks =>
            rw [hL] at k2
            simp only at k2
            by_cases hf : f ∈ ks ∧ fs.length < 1000
            · rw [if_pos hf] at k2
              rcases R2.h.obj n _ hm with ⟨z, _⟩ | ⟨a', ea, dx, gs, e3, e4⟩
              · cases z
              have ha' : q2.ι[n]? = some (some a) := by
                rcases ha with ha | ha
                · exact ha
                · rw [ea] at ha; cases ha
              rw [ea] at ha'; cases ha'
              have M := K0 c ks (lookup_mem hL)
              have F2 : q2.F a := F_ι ea
              refine ⟨a, cn c, dx, gs, rfl, e3, M.cl, M.no f hf.1, by rw [e4.length]; exact hf.2, ?_⟩
              have e5 : RFs ⟨X.K, cn⟩ (q2.up a (.ins (cn c) dx (putF (Str.ofString f) x gs))) (putM f v fs) (putF (Str.ofString f) x gs) := by
                obtain ⟨vs, e6, r6⟩ := e4.put (f := f) (RV.ext x2 rv)
                exact ⟨vs, e6, r6.ext (ext_wr F2)⟩
              exact k2 (q2.up a (.ins (cn c) dx (putF (Str.ofString f) x gs))) σ (R2.write ea ⟨dx, _, upd_same, e5⟩) (ext_wr F2)
            · rw [if_neg hf] at k2; exact k2.elim
        | _ => exact k2.elim
    | _ => exact k2.elim⟩⟩
end
end Mi
/-! MiG: promises of defs where nothing guards a repr (Around.guards stands at []): room, entry, call, a law's head. -/
namespace Mi
open PySem PySem.Spec PyProof.Rows L2

structure RoomG (k : Nat) (A : Around) : Prop extends Room k A where
  gs : A.guards = some []
theorem RoomG.mono {j k : Nat} {A : Around} (g : RoomG k A) (le : j ≤ k) : RoomG j A := ⟨g.toRoom.mono le, g.gs⟩
theorem RoomG.deeper {k : Nat} {A : Around} (g : RoomG (k + 1) A) (en : PySem.Env) : RoomG k (A.deeper en) := ⟨g.toRoom.deeper en, g.gs⟩
theorem gs_make {A : Around} {C : Addr} {us : List Value} {kw : List (Str × Value)} : (A.under (.builtin "type.__call__" ⟨.ref C :: us, kw⟩)).guards = A.guards := by
  obtain ⟨_, _, _, gg, _⟩ := A
  cases gg <;> first | rfl | simp [Around.under, Code.isGuard, Code.guards, pushGuards, guardIds]
theorem RoomG.make {k : Nat} {A : Around} (g : RoomG (k + 1) A) (C : Addr) (us : List Value) (kw : List (Str × Value)) : RoomG k (A.under (.builtin "type.__call__" ⟨.ref C :: us, kw⟩)) :=
  ⟨g.toRoom.make C us kw, gs_make.trans g.gs⟩

/-- what a def promises there -/
structure FnG (P : Program) (w : World) (K : PySem.W.Frag) (mg : Str → Option Value) (base : Heap) (CX : CXT) (k : Nat) (f : Addr) (fd : FuncData) (ps : List Str) (sp : Sp) : Prop where
  lenG : ∀ args H Q E, sp args H Q E → args.length = ps.length
  runG : ∀ (A : Around) (out : List PySem.Env) (s : Shared) (H : Hp) (ar : Args) (us : List Value) (vs : List V) (Q : VK) (E : XK), RoomG k A → Env0 P w K mg base A out s H → BindsTo s fd ar (ps.zip us) → Vals vs us → sp vs H Q E →
    codeAny (model P w) A (.call (.ref f) ar) (CR CX out P w H s Q E) s
section
variable {P : Program} {w : World} {K : PySem.W.Frag} {mg : Str → Option Value} {base : Heap} {CX : CXT}
theorem FnG.mono {j k : Nat} {f : Addr} {fd : FuncData} {ps : List Str} {sp : Sp} (F : FnG P w K mg base CX j f fd ps sp) (le : j ≤ k) : FnG P w K mg base CX k f fd ps sp :=
  ⟨F.lenG, fun A out s H ar us vs Q E g => F.runG A out s H ar us vs Q E (g.mono le)⟩

/-- the entry of a def of the text -/
theorem entryG {x qual : Str} {st : Stmt} {f : Addr} {fd : FuncData} {N ps : List Str} {k : Nat} {sp : Sp} (F : Fun K x qual st f fd) (Sc : FnScope N ps (defScope st)) (lenS : ∀ args H Q E, sp args H Q E → args.length = ps.length)
    (body : ∀ (cdv : Value) (A : Around) (out : List PySem.Env) (s : Shared) (H : Hp) (vs : List V) (Q : VK) (E : XK), RoomG k (A.deeper (envOfC qual (defScope st) s.heap.objs.size f cdv)) → sp vs H Q E →
      ∃ t, PSs (cxOf CX P w K mg base N qual (defScope st) f cdv A out s H E) (defBody st) t ∧ t { nx := fun _ H' => Q .non H', rt := Q } (start N vs) H) : FnG P w K mg base CX (k + 1) f fd ps sp := by
  obtain ⟨oc, od, kV, dc, pm, an, cdv, ct, slots, e1, at_, code⟩ := F.ex
  subst e1
  refine ⟨lenS, fun A out s H ar us vs Q E room env bound vals prom => ?_⟩
  have count := lenS _ _ _ _ prom
  have inK : K.In s.heap := env.mod.kin.keeps fun b o z => (env.bs b o z).1
  have noLim : s.heap.NoLimit := env.mod.nolimit.keeps fun b o z => (env.bs b o z).1
  refine codeAny_call_function room.toRoom.depth (inK _ _ at_) rfl Sc.co Sc.gen rfl (PySem.W.codeRec_of inK code) (bound _ _ _ _ ?_)
  refine wpAny_newFunctionEnv_cells Sc.kind (fun ⟨nm, val⟩ hy => ?_) fun en hen s1 inC => ?_
  · rcases Sc.par nm (List.of_mem_zip hy).1 with z | z
    · left; exact z
    · right; exact ⟨z, PySem.W.cellsFrom_some _ _ _ (Or.inl z)⟩
  subst hen
  refine ⟨noLim.keeps inC.toInCall.keep, codeAny_func ?_⟩
  obtain ⟨t, read, holds⟩ := body cdv A out s H vs Q E (room.deeper _) prom
  have first : Inv (cxOf CX P w K mg base N qual (defScope st) f cdv A out s H E) [] (start N vs) H s1 := inv_start Sc room.toRoom.hd env count vals inC
  have done : ∀ {s' : Shared} {τ : L2.St} {H' : Hp} {v : V} {u : Value}, Inv (cxOf CX P w K mg base N qual (defScope st) f cdv A out s H E) [] τ H' s' → RelV v u → Q v H' → CE out P w H s Q u s' :=
    fun {s' τ H' v u} J rv q => ⟨v, H', J.os, J.bare, J.base, J.hok, rv, q⟩
  refine wpAny_mono (read.run [] s1 (start N vs) H _ first holds) (fun way s' ends => ?_) fun e s' z => z
  match way, ends with
  | .next, ⟨τ, H', J, q⟩ => exact done (v := V.non) (u := Value.none) J rfl q
  | .ret u, ⟨v, τ, H', J, rv, q⟩ => exact done J rv q
  | .brk, ⟨_, _, _, q⟩ => exact q.elim
  | .cont, ⟨_, _, _, q⟩ => exact q.elim
end
section
variable {X : Cx} {CX : CXT} {k : Nat} {f : Addr} {fd : FuncData} {ps : List Str} {sp : Sp} {E : L2.St → XK}
theorem run_fnG {pins : List (Addr × Obj)} {σ : L2.St} {H : Hp} {s : Shared} {Q : VK} {us : List Value} {vs : List V} (F : FnG X.prog X.w X.K X.mg X.base CX k f fd ps sp) (room : RoomG k X.A) (bd : Binds X.K fd ps []) (lets : PassesAt CX X σ (E σ))
    (J : Inv X pins σ H s) (vals : Vals vs us) (prom : sp vs H Q (E σ)) : wpAny (model X.prog X.w) X.A (call (.ref f) us) (EP X pins σ Q) X.xe s := by
  have count : us.length = ps.length := vals.length.symm.trans (F.lenG _ _ _ _ prom)
  have bound := bd s us J.kIn (by simpa using count)
  rw [List.append_nil] at bound
  refine wpAny_call (codeAny_mono (F.runG X.A X.stack s H ⟨us, []⟩ us vs Q (E σ) room J.env0 bound vals prom) fun res s' z => ?_)
  match res, z with
  | .error e, z => exact lets pins H s e s' J z
  | .ok (.ret u), z => exact J.after z
  | .ok .next, z => exact z.elim
  | .ok .brk, z => exact z.elim
  | .ok .cont, z => exact z.elim
theorem pe_callG {x : Str} {p0 pos : Pos} {e : Expr} {es : List Expr} {t : TA} (F : FnG X.prog X.w X.K X.mg X.base CX k f fd ps sp) (room : RoomG k X.A) (gl : Gl X x) (at_ : X.mg x = some (.ref f)) (kp : PySem.W.keepIn X.K (.ref f) = true) (bd : Binds X.K fd ps []) (lets : ∀ σ, PassesAt CX X σ (E σ))
    (argsOk : PA X (e :: es) t) (nodb : (x == ("__debug__" : Str)) = false := by decide) (hst : starEach (e :: es) X.env = (false, eval e X.env) :: starEach es X.env := by rfl) (hpl : (backTo pos (starEach es X.env)).any (·.1) = false := by rfl) :
    PE X (.Call (.Name x p0) (e :: es) [] pos) (tCallS sp E t) := by
  refine ⟨fun pins s σ H Q J z => wpAny_Call_Name_kw (ld_glob J gl at_ ?_ nodb)⟩
  refine PySem.W.callWith_K (h₀ := X.base) J.ok.mod.kin kp (thn (argsOk.run pos pins s σ H _ J z) ?_) hst hpl
  rintro us s1 ⟨vs, H1, J1, vals, prom⟩
  exact ⟨J1.kIn, run_fnG F room bd (lets σ) J1 vals prom⟩
end
theorem callerG {k : Nat} (r : Room k callerA) : RoomG k callerA := ⟨r, rfl⟩
/-- the head of a law: what its def promises, at the heap behind the module's top -/
theorem law_callG {P : Program} {w : World} {K : PySem.W.Frag} {mg mb : Str → Option Value} {CX : CXT} {k : Nat} {fa a : Addr} {fd : FuncData} {x : Str} {sp : Sp} {s₁ : Shared} {vs : List Value} {ns : List Int}
    (inK : K.In s₁.heap) (gl : s₁.heap.Ns mainGlobals mg) (bl : s₁.heap.Ns builtinsNs mb) (boot : ∀ x : Str, x ≠ "__name__" → mb x = bootBuiltins x) (noLim : s₁.heap.NoLimit) (noGen : s₁.gens = #[])
    (script : s₁.heap.get? a = some { cls := .type "list", data := .seq vs.toArray }) (whole : IntsAre vs ns) (short : ns.length ≤ sizeLine) (room : Room k callerA)
    (F : ∀ base : Heap, K.In base → base.Ns mainGlobals mg → FnG P w K mg base CX k fa fd [x] sp) (bd : ∀ (s : Shared) (u : Value), BindsTo s fd ⟨[u], []⟩ [(x, u)])
    (prom : ∀ H : Hp, Only H → SqL K H a (ns.map V.int) → sp [.ref a] H (fun v _ => v = .bl true) fun _ _ _ => False)
    (lets : ∀ H e s', CX [] H s₁ (fun _ _ _ => False) e s' → False) :
    codeAny (model P w) callerA (.call (.ref fa) ⟨[.ref a], []⟩) (fun r s' => r = .ok (.ret (.bool true)) ∧ OldK s₁.heap s'.heap ∧ s'.os = s₁.os ∧ AllBare s'.gens) s₁ := by
  have vals := vals_ints whole
  have count := whole.length
  have main : ∀ H : Hp, Only H → SqL K H a (ns.map V.int) → HOk P w H s₁.heap → (∀ b, H b ≠ none → b = a) → (H a ≠ none → K.lookup a = none) →
      codeAny (model P w) callerA (.call (.ref fa) ⟨[.ref a], []⟩) (fun r s' => r = .ok (.ret (.bool true)) ∧ OldK s₁.heap s'.heap ∧ s'.os = s₁.os ∧ AllBare s'.gens) s₁ := by
    intro H only seqs good alone fresh
    have hidden : ∀ {b : Addr} {o : Obj}, s₁.heap.get? b = some o → H b = none → (hidT s₁.heap H).get? b = some o := fun z n => hidT_get z n
    have noDict : ∀ {b : Addr} {o : Obj} {es : Array DictEntry} {ep : Nat}, s₁.heap.get? b = some o → o.data = .dict es ep → H b = none := by
      intro b o es ep z dd
      refine Classical.byContradiction fun q => ?_
      obtain rfl := alone b q
      rw [script] at z
      cases z
      cases (show Data.seq vs.toArray _ = Data.dict es ep from dd)
    have names : ∀ {b : Addr} {m : Str → Option Value}, s₁.heap.Ns b m → (hidT s₁.heap H).Ns b m := by
      rintro b m ⟨o, es, ep, z, dd, rest⟩
      exact ⟨o, es, ep, hidden z (noDict z dd), dd, rest⟩
    have inB : K.In (hidT s₁.heap H) := by
      intro b o z
      refine hidden (inK b o z) (Classical.byContradiction fun q => ?_)
      obtain rfl := alone b q
      rw [fresh q] at z
      cases z
    have md : Mod K mg (hidT s₁.heap H) := by
      refine ⟨inB, names gl, ⟨mb, names bl, boot⟩, ?_⟩
      obtain ⟨mc, l1, l2⟩ := noLim
      exact ⟨mc, names l1, l2⟩
    have env : Env0 P w K mg (hidT s₁.heap H) callerA [] s₁ H :=
      ⟨rfl, md, fun _ _ z => of_hidT z, Nat.le_of_eq (hidT_size _ _), trivial, fun b z => (List.not_mem_nil (show b ∈ ([] : List Addr) from z)).elim, good, .of_eq noGen⟩
    have went := (F _ inB (names gl)).runG callerA [] s₁ H ⟨[.ref a], []⟩ [.ref a] [.ref a] _ _ (callerG room) env (bd s₁ (.ref a)) (.cons rfl .nil) (prom H only seqs)
    refine codeAny_mono went fun res s' z => ?_
    match res, z with
    | .error e, z => exact (lets H e s' z).elim
    | .ok .next, z => exact z.elim
    | .ok .brk, z => exact z.elim
    | .ok .cont, z => exact z.elim
    | .ok (.ret u), ⟨v, H', sameOs, bare, un, good', rv, q⟩ =>
      have tr : v = .bl true := q
      subst tr
      have ut : u = Value.bool true := rv
      subst ut
      refine ⟨rfl, OldK.of_keep fun b o z => ?_, sameOs, bare⟩
      rcases only b with n | ⟨ob, its, n⟩
      · exact un.keep b o z n (fun z2 => (List.not_mem_nil (show b ∈ ([] : List Addr) from z2)).elim) (by simp)
      · obtain ⟨g1, _⟩ := good b _ n
        obtain ⟨g2, _⟩ := good' b _ (un.frzs b ob _ n)
        rw [z] at g1
        cases g1
        exact g2
  by_cases own : ∃ o, K.lookup a = some o
  · obtain ⟨o, hk⟩ := own
    have z := inK a o hk
    rw [script] at z
    cases z
    refine main (fun _ => none) (fun _ => .inl rfl) (.inr ⟨_, vs.toArray, _, hk, rfl, rfl, rfl, ?_, by simpa using vals⟩) (fun b u z => ?_) (fun b z => absurd rfl z) fun z => absurd rfl z
    · rw [List.size_toArray, count]; exact short
    · cases (show (none : Option HO) = some u from z)
  · have hk : K.lookup a = none := by
      cases z : K.lookup a with
      | none => rfl
      | some o => exact absurd ⟨o, z⟩ own
    have pick : ∀ {b : Addr} {u : HO}, (if b = a then some (HO.frz { cls := .type "list", data := .seq vs.toArray } (.lst (ns.map V.int))) else none) = some u → b = a ∧ u = .frz { cls := .type "list", data := .seq vs.toArray } (.lst (ns.map V.int)) := by
      intro b u z
      split at z
      · rename_i q; cases z; exact ⟨q, rfl⟩
      · cases z
    refine main (fun b => if b = a then some (.frz { cls := .type "list", data := .seq vs.toArray } (.lst (ns.map V.int))) else none) (fun b => ?_) (.inl (.inr ⟨{ cls := .type "list", data := .seq vs.toArray }, if_pos rfl⟩)) (fun b u z => ?_) (fun b z => ?_) fun _ => hk
    · by_cases q : b = a
      · right; exact ⟨_, _, if_pos q⟩
      · left; exact if_neg q
    · obtain ⟨rfl, rfl⟩ := pick z
      exact ⟨script, by rw [List.length_map]; exact short, vs, _, vals, script⟩
    · refine Classical.byContradiction fun q => z (if_neg q)
end Mi
/-! Mi7: loops, what is walked, promises of defs and their calls. -/
namespace Mi
open PySem L2 PyProof.Rows

/-! ### while -/
def whileL (c : ME Bool) (b : MS) : Nat → MS
  | 0 => fun _ _ => .bad
  | n + 1 => fun σ h => ofE (c σ h) σ fun t h1 => if t = true then (match b σ h1 with
      | .next σ2 h2 => whileL c b n σ2 h2
      | .cont σ2 h2 => whileL c b n σ2 h2
      | .brk σ2 h2 => .next σ2 h2
      | r => r) else .next σ h1
def FUEL : Nat := 1000000
def sWhile (c : ME Bool) (b : MS) : MS := whileL c b FUEL
/-- for over items -/
def forL (g : MG) (b : MS) : List Val → MS
  | [] => fun σ h => .next σ h
  | v :: l => fun σ h => match plainG (g v σ h) with
    | .next σ1 h1 => (match b σ1 h1 with
      | .next σ2 h2 => forL g b l σ2 h2
      | .cont σ2 h2 => forL g b l σ2 h2
      | .brk σ2 h2 => .next σ2 h2
      | r => r)
    | r => r
def sFor (it : ME (List Val)) (g : MG) (b : MS) : MS := fun σ h => ofE (it σ h) σ fun l h1 => forL g b l σ h1

/-- how an iterator runs over items, from a point on -/
structure ItOk (C : Cn) (q : Pt) (J : It) (l : List Val) : Prop where
  go : ∀ (q' : Pt) (i : Nat), Ext q q' → i < l.length → J.go i q'.H
  yld : ∀ (q' : Pt) (i : Nat) (x : V) (H' : Hp) (v : Val), Ext q q' → l[i]? = some v → J.yld i q'.H x H' → (H' = q'.H ∧ RV C q' v x) ∨ (∃ (t : Addr) (ws : List V) (m : List Val), q'.H t = none ∧ H' = upd q'.H t (.tup ws) ∧ x = .ref t ∧ v = .tup m ∧ RVs C q' m ws)
  stop : ∀ (q' : Pt), Ext q q' → J.stop l.length q'.H
def tIt (C : Cn) (W : WX) (m : ME (List Val)) : TI := fun σ H K => ∃ E p σm mh, p.H = H ∧ Rel C E p σm mh σ ∧
  match m σm mh with
  | .ok l h => ∀ q J, Rel C E q σm h σ → Ext p q → ItOk C q J l → K J q.H
  | .exc c f h => ∀ q cls d, Rel C E q σm h σ → Ext p q → RX C q c f cls d → W cls d σ q.H
  | .bad => False
def IM (X : Cx) (cn : String → Addr) (W : WX) (tg iter : Expr) (m : ME (List Val)) : Prop := PI X tg iter (tIt ⟨X.K, cn⟩ W m)
theorem PI.wk {X : Cx} {tg e : Expr} {t t' : TI} (h : PI X tg e t) (k : ∀ σ H Q, t' σ H Q → t σ H Q) : PI X tg e t' := ⟨fun pins s σ H R I w => h.run pins s σ H R I (k σ H R w)⟩
theorem PIor {X : Cx} {tg e : Expr} {t t' : TI} (h : PI X tg e t) (h' : PI X tg e t') : PI X tg e (fun σ H R => t σ H R ∨ t' σ H R) := ⟨fun pins s σ H R I w => w.elim (h.run pins s σ H R I) (h'.run pins s σ H R I)⟩

section
variable {X : Cx} {cn : String → Addr} {W : WX} {e a b c tg iter : Expr} {st : Stmt} {rest body orelse : List Stmt} {es : List Expr} {pos : Pos}

theorem s_while {mc : ME Bool} {mb : MS} (hp : PassesOwn (model X.prog X.w) X.A X.env X.xe) (hc : TM X cn W c mc) (hb : BM X cn W body mb) : SM X cn W (.While c body [] pos) (sWhile mc mb) := PS.wk (ps_while hp hc hb) fun D σ H ⟨E, p, σm, mh, e1, R, k⟩ => by
  refine ⟨fun n σ H => ∃ p σm mh, p.H = H ∧ Rel ⟨X.K, cn⟩ E p σm mh σ ∧ postS ⟨X.K, cn⟩ W E p D (whileL mc mb n σm mh), ⟨FUEL, p, σm, mh, e1, R, k⟩, ?_⟩
  rintro n σ H ⟨p, σm, mh, e1, R, k⟩
  cases n with
  | zero => exact k.elim
  | succ n =>
    unfold whileL at k
    refine ⟨E, p, σm, mh, e1, R, postS.of k fun t mh1 q x R1 x1 rv k1 => ?_⟩
    cases rv
    cases t with
    | false => exact iteF (k1 q σ R1 (Ext.refl q))
    | true =>
      refine iteT ⟨fun σ' H' => ∃ p σm mh, p.H = H' ∧ Rel ⟨X.K, cn⟩ E p σm mh σ' ∧ postS ⟨X.K, cn⟩ W E p D (whileL mc mb n σm mh), fun σ' H' z => ⟨n, Nat.lt_succ_self n, z⟩, E, q, σm, mh1, rfl, R1, ?_⟩
      rw [if_pos rfl] at k1
      cases r : mb σm mh1 with
      | next σ2 h2 => rw [r] at k1; exact fun q2 σ3 R2 x2 => ⟨q2, σ2, h2, rfl, R2, postS.ext x2 k1⟩
      | cont σ2 h2 => rw [r] at k1; exact fun q2 σ3 R2 x2 => ⟨q2, σ2, h2, rfl, R2, postS.ext x2 k1⟩
      | brk σ2 h2 => rw [r] at k1; exact k1
      | ret v h2 => rw [r] at k1; exact k1
      | exc c f σ2 h2 => rw [r] at k1; exact k1
      | bad => rw [r] at k1; exact k1
theorem s_for {mi : ME (List Val)} {g : MG} {mb : MS} (hp : PassesOwn (model X.prog X.w) X.A X.env X.xe) (hc : X.calm = true) (hi : IM X cn W tg iter mi) (hg : GM X cn W tg g) (hb : BM X cn W body mb) (hs : ∀ x, foldedSetIterable iter X.env x = pure x := by intro _; rfl) :
    SM X cn W (.For tg iter body [] pos) (sFor mi g mb) := PS.wk (ps_for hp hc hi hg hb hs) fun D σ H ⟨E, p, σm, mh, e1, R, k⟩ => by
  refine ⟨E, p, σm, mh, e1, R, ?_⟩
  unfold sFor at k
  cases r : mi σm mh with
  | exc c f h => rw [r] at k; exact fun q cls d R1 x1 rx => k q σ cls d R1 x1 rx
  | bad => rw [r] at k; exact k
  | ok l h =>
    rw [r] at k
    intro q J R1 x1 ok
    refine ⟨fun i m σ H => ∃ q' σm mh, q'.H = H ∧ Rel ⟨X.K, cn⟩ E q' σm mh σ ∧ Ext q q' ∧ i ≤ l.length ∧ m = l.length - i ∧ postS ⟨X.K, cn⟩ W E q' D (forL g mb (l.drop i) σm mh), ⟨l.length, q, σm, h, rfl, R1, Ext.refl q, Nat.zero_le _, rfl, postS.ext x1 k⟩, ?_⟩
    rintro i m σ H ⟨q', σm, mh, rfl, R', x', hi, rfl, k'⟩
    by_cases hl : i < l.length
    · refine .inr ⟨ok.go q' i x' hl, fun σ' H' => ∃ q' σm mh, q'.H = H' ∧ Rel ⟨X.K, cn⟩ E q' σm mh σ' ∧ Ext q q' ∧ i + 1 ≤ l.length ∧ postS ⟨X.K, cn⟩ W E q' D (forL g mb (l.drop (i + 1)) σm mh), fun σ' H' ⟨q2, σm2, mh2, a1, a2, a3, a4, a5⟩ => ⟨l.length - (i + 1), by omega, q2, σm2, mh2, a1, a2, a3, a4, rfl, a5⟩, fun x H' y => ?_⟩
      have ev : l[i]? = some l[i] := List.getElem?_eq_getElem hl
      rw [List.drop_eq_getElem_cons hl] at k'
      unfold forL at k'
      -- the item
      obtain ⟨q1, R2, x2, e2, rv⟩ : ∃ q1 : Pt, Rel ⟨X.K, cn⟩ E q1 σm mh σ ∧ Ext q' q1 ∧ q1.H = H' ∧ RV ⟨X.K, cn⟩ q1 l[i] x := by
        rcases ok.yld q' i x H' _ x' ev y with ⟨e2, rv⟩ | ⟨t, ws, m, hn, e2, rfl, ev2, rs⟩
        · exact ⟨q', R', Ext.refl q', e2.symm, rv⟩
        · exact ⟨q'.up t (.tup ws), R'.up hn, ext_up hn, e2.symm, by rw [ev2]; exact rv_tup R'.h hn rs⟩
      have k2 := postS.ext x2 k'
      refine ⟨E, q1, σm, mh, l[i], e2, R2, rv, ?_⟩
      cases r1 : g l[i] σm mh with
      | next σ1 h1 =>
        rw [r1] at k2
        simp only [plainG] at k2
        refine fun q3 σ3 R3 x3 => ⟨E, q3, σ1, h1, rfl, R3, ?_⟩
        have k3 := postS.ext x3 k2
        cases r2 : mb σ1 h1 with
        | next σ2 h2 => rw [r2] at k3; exact fun q4 σ4 R4 x4 => ⟨q4, σ2, h2, rfl, R4, x'.trans (x2.trans (x3.trans x4)), hl, postS.ext x4 k3⟩
        | cont σ2 h2 => rw [r2] at k3; exact fun q4 σ4 R4 x4 => ⟨q4, σ2, h2, rfl, R4, x'.trans (x2.trans (x3.trans x4)), hl, postS.ext x4 k3⟩
        | brk σ2 h2 => rw [r2] at k3; exact k3
        | ret v h2 => rw [r2] at k3; exact k3
        | exc c f σ2 h2 => rw [r2] at k3; exact k3
        | bad => rw [r2] at k3; exact k3
      | exc c f σ1 h1 => rw [r1] at k2; exact k2
      | ret v h => rw [r1] at k2; exact k2.elim
      | brk σ h => rw [r1] at k2; exact k2.elim
      | cont σ h => rw [r1] at k2; exact k2.elim
      | bad => rw [r1] at k2; exact k2.elim
    · have e3 : i = l.length := by omega
      subst e3
      refine .inl ⟨ok.stop q' x', ?_⟩
      rw [List.drop_length] at k'
      exact k' q' σ R' (Ext.refl q')

/-! ### what is walked: a list, a tuple, a text, a range -/
def mIter (m : ME Val) : ME (List Val) := fun σ h => (m σ h).bind fun v h1 => match v with
  | .lst l => .ok l h1
  | .tup l => .ok l h1
  | .ktp l => .ok l h1
  | .str s => .ok (s.map fun c => .str [c]) h1
  | _ => .bad
theorem i_seq {m : ME Val} (he : EM X cn W e m) : IM X cn W tg e (mIter m) := PI.wk (PIor (pi_list he) (PIor (pi_tup he) (pi_str he))) fun σ H K ⟨E, p, σm, mh, e1, R, k⟩ => by
  unfold mIter at k
  cases r : m σm mh with
  | bad => rw [r] at k; exact k.elim
  | exc c f h =>
    rw [r] at k
    exact .inl ⟨E, p, σm, mh, e1, R, by rw [r]; exact fun q cls d R1 x1 rx => k q cls d R1 x1 rx⟩
  | ok v h =>
    rw [r] at k
    cases v with
    | lst l =>
      refine .inl ⟨E, p, σm, mh, e1, R, ?_⟩
      rw [r]
      intro q x R1 x1 rv
      have rv' : RV ⟨X.K, cn⟩ q (.lst l) x := rv
      unfold RV at rv'
      obtain ⟨a, vs, rfl, h1, h2⟩ := rv'
      refine ⟨a, rfl, ⟨vs, h1.sq⟩, k q _ R1 x1 ⟨fun q' i x' hi => ?_, fun q' i x H' v x' ev y => ?_, fun q' x' => ?_⟩⟩
      · have hi' : i < vs.length := by rw [h2.length]; exact hi
        exact ⟨vs, vs[i], (h1.ext x').sq, List.getElem?_eq_getElem hi'⟩
      · obtain ⟨e2, y⟩ := y
        obtain ⟨z, hz, rz⟩ := h2.get ev
        have hx := y vs (h1.ext x').sq
        rw [hx] at hz; cases hz
        exact .inl ⟨e2, rz.ext x'⟩
      · exact ⟨vs, (h1.ext x').sq, by rw [h2.length]; exact Nat.le_refl _⟩
    | tup l =>
      refine .inr (.inl ⟨E, p, σm, mh, e1, R, ?_⟩)
      rw [r]
      intro q x R1 x1 rv
      have rv' : RV ⟨X.K, cn⟩ q (.tup l) x := rv
      unfold RV at rv'
      obtain ⟨a, vs, rfl, h1, h2⟩ := rv'
      refine ⟨a, rfl, ⟨vs, h1.sq⟩, k q _ R1 x1 ⟨fun q' i x' hi => ?_, fun q' i x H' v x' ev y => ?_, fun q' x' => ?_⟩⟩
      · have hi' : i < vs.length := by rw [h2.length]; exact hi
        exact ⟨vs, vs[i], (h1.ext x').sq, List.getElem?_eq_getElem hi'⟩
      · obtain ⟨e2, y⟩ := y
        obtain ⟨z, hz, rz⟩ := h2.get ev
        have hx := y vs (h1.ext x').sq
        rw [hx] at hz; cases hz
        exact .inl ⟨e2, rz.ext x'⟩
      · exact ⟨vs, (h1.ext x').sq, by rw [h2.length]; exact Nat.le_refl _⟩
    | ktp l =>
      refine .inr (.inl ⟨E, p, σm, mh, e1, R, ?_⟩)
      rw [r]
      intro q x R1 x1 rv
      have rv' : RV ⟨X.K, cn⟩ q (.ktp l) x := rv
      unfold RV at rv'
      obtain ⟨a, vs, rfl, h1, h2⟩ := rv'
      refine ⟨a, rfl, ⟨vs, h1.sq⟩, k q _ R1 x1 ⟨fun q' i x' hi => ?_, fun q' i x H' v x' ev y => ?_, fun q' x' => ?_⟩⟩
      · have hi' : i < vs.length := by rw [h2.length]; exact hi
        exact ⟨vs, vs[i], h1.sq, List.getElem?_eq_getElem hi'⟩
      · obtain ⟨e2, y⟩ := y
        obtain ⟨z, hz, rz⟩ := h2.get ev
        have hx := y vs h1.sq
        rw [hx] at hz; cases hz
        exact .inl ⟨e2, rz.ext x'⟩
      · exact ⟨vs, h1.sq, by rw [h2.length]; exact Nat.le_refl _⟩
    | str l =>
      refine .inr (.inr ⟨E, p, σm, mh, e1, R, ?_⟩)
      rw [r]
      intro q x R1 x1 rv
      have rv' : RV ⟨X.K, cn⟩ q (.str l) x := rv
      unfold RV at rv'
      subst rv'
      have sz : (S l).cps.size = l.length := S_len l
      refine ⟨S l, rfl, k q _ R1 x1 ⟨fun q' i x' hi => ?_, fun q' i x H' v x' ev y => ?_, fun q' x' => ?_⟩⟩
      · show i < (S l).cps.size
        rw [sz]; simpa using hi
      · obtain ⟨e2, c, hc, rfl⟩ := y
        refine .inl ⟨e2, ?_⟩
        rw [List.getElem?_map] at ev
        have hc' : l[i]? = some c := by
          have : (S l).cps[i]? = l[i]? := by show l.toArray[i]? = _; simp
          rw [← this]; exact hc
        rw [hc'] at ev
        simp only [Option.map_some, Option.some.injEq] at ev
        subst ev
        unfold RV; rfl
      · show (S l).cps.size ≤ _
        rw [sz]; simp
    | _ => exact k.elim
/-- lo, lo + 1, .. below hi -/
def rangeL (lo hi : Int) : List Val := (List.range (hi - lo).toNat).map fun k => .int (lo + (k : Nat))
def mRange1 (m : ME Val) : ME (List Val) := fun σ h => (m σ h).bind fun v h1 => match v with
  | .int j => if -(2 ^ 62) ≤ j ∧ j < 2 ^ 62 then .ok (rangeL 0 j) h1 else .bad
  | _ => .bad
def mRange2 (m n : ME Val) : ME (List Val) := fun σ h => (m σ h).bind fun v h1 => (n σ h1).bind fun w h2 => match v, w with
  | .int i, .int j => if -(2 ^ 62) ≤ i ∧ i < 2 ^ 62 ∧ -(2 ^ 62) ≤ j ∧ j < 2 ^ 62 then .ok (rangeL i j) h2 else .bad
  | _, _ => .bad
theorem it_range {C : Cn} {q : Pt} {lo hi : Int} : ItOk C q (Itr lo (hi - lo).toNat) (rangeL lo hi) := by
  have hl : (rangeL lo hi).length = (hi - lo).toNat := by simp [rangeL]
  refine ⟨fun q' i x' h => ?_, fun q' i x H' v x' ev y => ?_, fun q' x' => ?_⟩
  · rw [hl] at h; exact h
  · obtain ⟨e2, y⟩ := y
    refine .inl ⟨e2, ?_⟩
    unfold rangeL at ev
    rw [List.getElem?_map] at ev
    cases hr : (List.range (hi - lo).toNat)[i]? with
    | none => rw [hr] at ev; cases ev
    | some k =>
      rw [hr] at ev
      have : k = i := by
        have hh := List.getElem?_eq_some_iff.mp hr
        obtain ⟨h1, h2⟩ := hh
        rw [List.getElem_range] at h2
        exact h2.symm
      subst this
      simp only [Option.map_some, Option.some.injEq] at ev
      subst ev
      unfold RV
      exact y
  · show _ ≤ _
    rw [hl]; exact Nat.le_refl _
theorem i_range1 {p0 : Pos} {m : ME Val} (hm : X.mg "range" = none) (ha : ET X cn W a m) (hg : Gl X "range" := by rfl) (hs : starEach [a] X.env = [(false, eval a X.env)] := by rfl) : IM X cn W tg (.Call (.Name "range" p0) [a] [] pos) (mRange1 m) :=
  PI.wk (pi_range1 hg hm (pa_cons ha pa_nil (by rw [hs]; rfl)) hs) fun σ H K ⟨E, p, σm, mh, e1, R, k⟩ => ⟨E, p, σm, mh, e1, R, by
    unfold mRange1 at k
    cases r : m σm mh with
    | bad => rw [r] at k; exact k.elim
    | exc c f h => rw [r] at k; exact fun q cls d R1 x1 rx => k q cls d R1 x1 rx
    | ok v h =>
      rw [r] at k
      intro q x R1 x1 rv
      cases v with
      | int j =>
        simp only [Res.bind] at k
        by_cases z : -(2 ^ 62) ≤ j ∧ j < 2 ^ 62
        · rw [if_pos z] at k
          refine ⟨j, by rw [RVT.int rv], z.1, z.2, k q _ R1 x1 ?_⟩
          have := it_range (C := ⟨X.K, cn⟩) (q := q) (lo := 0) (hi := j)
          rw [Int.sub_zero] at this
          exact this
        · rw [if_neg z] at k; exact k.elim
      | _ => exact k.elim⟩
theorem i_range2 {p0 : Pos} {m n : ME Val} (hm : X.mg "range" = none) (ha : ET X cn W a m) (hb : ET X cn W b n) (hg : Gl X "range" := by rfl) (hs : starEach [a, b] X.env = [(false, eval a X.env), (false, eval b X.env)] := by rfl) (hs2 : starEach [b] X.env = [(false, eval b X.env)] := by rfl) : IM X cn W tg (.Call (.Name "range" p0) [a, b] [] pos) (mRange2 m n) :=
  PI.wk (pi_range2 hg hm (pa_cons ha (pa_cons hb pa_nil (by rw [hs2]; rfl)) (by rw [hs, hs2])) hs hs2) fun σ H K ⟨E, p, σm, mh, e1, R, k⟩ => ⟨E, p, σm, mh, e1, R, by
    unfold mRange2 at k
    cases r : m σm mh with
    | bad => rw [r] at k; exact k.elim
    | exc c f h => rw [r] at k; exact fun q cls d R1 x1 rx => k q cls d R1 x1 rx
    | ok v h =>
      rw [r] at k
      simp only [Res.bind] at k
      intro q x R1 x1 rv
      refine ⟨E, q, σm, h, rfl, R1, ?_⟩
      cases r2 : n σm h with
      | bad => rw [r2] at k; exact k.elim
      | exc c f h => rw [r2] at k; exact fun q2 cls d R2 x2 rx => k q2 cls d R2 (x1.trans x2) rx
      | ok w h2 =>
        rw [r2] at k
        simp only at k
        intro q2 y R2 x2 rw'
        cases v with
        | int i =>
          cases w with
          | int j =>
            simp only at k
            by_cases z : -(2 ^ 62) ≤ i ∧ i < 2 ^ 62 ∧ -(2 ^ 62) ≤ j ∧ j < 2 ^ 62
            · rw [if_pos z] at k
              exact ⟨i, j, by rw [RVT.int rv, RVT.int rw'], z, k q2 _ R2 (x1.trans x2) it_range⟩
            · rw [if_neg z] at k; exact k.elim
          | _ => exact k.elim
        | _ => exact k.elim⟩
end

/-! ### defs: what a mirror promises -/
abbrev MF := List Val → MH → Res Val
/-- the promise that a def does what its mirror does -/
def spM (K : PySem.W.Frag) (cn : String → Addr) (n : Nat) (f : MF) : Sp := fun vs H Q Ex => ∃ (p : Pt) (args : List Val) (mh : MH), p.H = H ∧ p.ω = [] ∧ HRel ⟨K, cn⟩ p mh ∧ RVs ⟨K, cn⟩ p args vs ∧ args.length = n ∧
  match f args mh with
  | .ok v h => ∀ q x, HRel ⟨K, cn⟩ q h → Ext p q → q.ω = [] → q.ο = p.ο → (∀ a ∈ p.ο, q.H a = p.H a) → RV ⟨K, cn⟩ q v x → Q x q.H
  | .exc c g h => ∀ q cls d, HRel ⟨K, cn⟩ q h → Ext p q → q.ω = [] → q.ο = p.ο → (∀ a ∈ p.ο, q.H a = p.H a) → RX ⟨K, cn⟩ q c g cls d → Ex cls d q.H
  | .bad => False
/-- a body run on arguments; n slots in all -/
def runF (n : Nat) (b : MS) : MF := fun args h => match b (args.map Slot.val ++ List.replicate (n - args.length) .unset) h with
  | .next _ h1 => .ok .non h1
  | .ret v h1 => .ok v h1
  | .exc c f _ h1 => .exc c f h1
  | _ => .bad
theorem spM_len {K : PySem.W.Frag} {cn : String → Addr} {n : Nat} {f : MF} {vs : List V} {H : Hp} {Q : VK} {Ex : XK} (h : spM K cn n f vs H Q Ex) : vs.length = n := by
  obtain ⟨p, args, mh, _, _, _, r, hn, _⟩ := h
  rw [r.length, hn]
/-- the wish of a def about exceptions -/
abbrev WD (Ex : XK) : WX := fun cls d _ H => Ex cls d H
theorem rel_dropω {C : Cn} {E q : Pt} {σm : Env} {mh : MH} {σ : L2.St} (R : Rel C E q σm mh σ) : ∃ q' : Pt, HRel C q' mh ∧ Ext q q' ∧ q'.ω = [] ∧ q'.ο = q.ο ∧ q'.H = q.H := by
  have ff : ∀ b, ({ q with ω := [] } : Pt).F b → q.F b := fun b f => by
    rcases f with f | f | f
    · exact .inl f
    · cases f
    · exact .inr (.inr f)
  have xx : Ext q { q with ω := [] } := ⟨fun _ _ h => .inl h, fun _ _ h _ => h, fun b f => .inl (ff b f)⟩
  refine ⟨{ q with ω := [] }, ?_, xx, rfl, rfl, rfl⟩
  refine ⟨R.h.li, fun n o e => ?_, ⟨R.h.sep.ii, fun n m a h => (by cases h), fun n m a _ h => (by cases h), R.h.sep.io, fun n a h => (by cases h)⟩, fun a f => R.h.hF a (ff a f)⟩
  rcases R.h.obj n o e with z | ⟨a, e1, ro⟩
  · exact .inl z
  · exact .inr ⟨a, e1, RO.ext xx rfl ro⟩
/-- THE RULE of a def: its body's mirror -/
theorem okM {P : Program} {w : World} {K : PySem.W.Frag} {mg : Str → Option Value} {base : Heap} {x qual : Str} {st : Stmt} {f : Addr} {fd : FuncData} {N ps : List Str} {k : Nat} {cn : String → Addr} {b : MS} (F : Fun K x qual st f fd) (Sc : FnScope N ps (defScope st))
    (hb : ∀ (cdv : Value) (A : Around) (outer : List PySem.Env) (s : Shared) (H : Hp) (E : XK), RoomG k (A.deeper (envOfC qual (defScope st) s.heap.objs.size f cdv)) →
      BM (cxOf (L2.CX P w) P w K mg base N qual (defScope st) f cdv A outer s H E) cn (WD E) (defBody st) b) : FnG P w K mg base (L2.CX P w) (k + 1) f fd ps (spM K cn ps.length (runF N.length b)) := by
  refine entryG F Sc (fun vs H Q E h => spM_len h) fun cdv A outer s H vs Q E hr h => ?_
  refine ⟨_, hb cdv A outer s H E hr, ?_⟩
  obtain ⟨p, args, mh, e1, eω, Hr, r, hn, hf⟩ := h
  have hpl : ps.length ≤ N.length := by have := congrArg List.length Sc.pre; rw [List.length_take] at this; omega
  have hal : args.length ≤ N.length := by omega
  have hvl : vs.length = args.length := r.length
  -- the entry's point, with its empty slots
  have xE : Ext p { p with ω := List.replicate N.length none } := by
    refine ⟨fun _ _ h => .inl h, fun _ _ h _ => h, fun b f => .inl ?_⟩
    rcases f with f | f | f
    · exact .inl f
    · have := List.eq_of_mem_replicate f; cases this
    · exact .inr (.inr f)
  have noω : ∀ (n : Nat) (a : Addr), (List.replicate N.length (none : Option Addr))[n]? = some (some a) → False := fun n a h => by
    have := List.mem_of_getElem? h
    have := List.eq_of_mem_replicate this
    cases this
  have F0 : ∀ b, ({ p with ω := List.replicate N.length none } : Pt).F b → p.F b := fun b f => by
    rcases f with f | f | f
    · exact .inl f
    · have := List.eq_of_mem_replicate f; cases this
    · exact .inr (.inr f)
  have R0 : Rel ⟨K, cn⟩ p { p with ω := List.replicate N.length none } (args.map Slot.val ++ List.replicate (N.length - args.length) .unset) mh (L2.start N vs) := by
    refine ⟨⟨Hr.li, fun n o e => ?_, ⟨Hr.sep.ii, fun n m a h => (noω n a h).elim, fun n m a _ h => noω m a h, Hr.sep.io, fun n a h => (noω n a h).elim⟩, fun a f => Hr.hF a (F0 a f)⟩, ?_, ?_, fun i sl e => ?_, xE, rfl, fun _ _ => rfl⟩
    · rcases Hr.obj n o e with z | ⟨a, e1, ro⟩
      · exact .inl z
      · exact .inr ⟨a, e1, ro.ext xE rfl⟩
    · simp [L2.start, hvl]
    · simp; omega
    · by_cases hi : i < args.length
      · rw [List.getElem?_append_left (by simpa using hi), List.getElem?_map] at e
        cases ha : args[i]? with
        | none => rw [ha] at e; cases e
        | some v =>
          rw [ha] at e
          cases e
          obtain ⟨y, hy, ry⟩ := r.get ha
          refine ⟨?_, y, ?_, ry.ext xE⟩
          · rw [List.getElem?_replicate, if_pos (by omega)]
          · unfold L2.start
            rw [List.getElem?_append_left (by rw [List.length_map, hvl]; exact hi), List.getElem?_map, hy]; rfl
      · rw [List.getElem?_append_right (by simpa using hi)] at e
        rw [List.getElem?_replicate] at e
        split at e
        · cases e
          rename_i hlt
          simp only [List.length_map] at hlt
          show _ = some none
          rw [List.getElem?_replicate, if_pos (by omega)]
        · cases e
  refine ⟨p, { p with ω := List.replicate N.length none }, _, mh, e1, R0, ?_⟩
  unfold runF at hf
  have toE : ∀ {q : Pt} {σm : Env} {h : MH} {σ : L2.St}, Rel ⟨K, cn⟩ p q σm h σ → ∃ q' : Pt, HRel ⟨K, cn⟩ q' h ∧ Ext q q' ∧ Ext p q' ∧ q'.ω = [] ∧ q'.ο = p.ο ∧ (∀ a ∈ p.ο, q'.H a = p.H a) ∧ q'.H = q.H := fun {q σm h σ} R => by
    obtain ⟨q', h1, h2, h3, h4, h5⟩ := rel_dropω R
    exact ⟨q', h1, h2, R.ext.trans h2, h3, h4.trans R.oE, fun a ha => by rw [h5]; exact R.oK a (by rw [R.oE]; exact ha), h5⟩
  cases rb : b (args.map Slot.val ++ List.replicate (N.length - args.length) .unset) mh with
  | next σ1 h1 =>
    rw [rb] at hf
    intro q σ R x
    obtain ⟨q', a1, a2, a3, a4, a5, a6, a7⟩ := toE R
    rw [← a7]
    exact hf q' .non a1 a3 a4 a5 a6 (by unfold RV; rfl)
  | ret v h1 =>
    rw [rb] at hf
    intro q σm σ x R ex rv
    obtain ⟨q', a1, a2, a3, a4, a5, a6, a7⟩ := toE R
    rw [← a7]
    exact hf q' x a1 a3 a4 a5 a6 (rv.ext a2)
  | exc c g σ1 h1 =>
    rw [rb] at hf
    intro q σ cls d R ex rx
    obtain ⟨q', a1, a2, a3, a4, a5, a6, a7⟩ := toE R
    have rx' : RX ⟨K, cn⟩ q' c g cls d := by
      obtain ⟨r1, r2⟩ := rx
      refine ⟨r1, ?_⟩
      cases g with
      | none => exact r2
      | some v =>
        obtain ⟨dd, fs, y, b1, b2, b3, b4, b5⟩ := r2
        exact ⟨dd, fs, y, b1, a2.nF b3 b2, a2.keep _ _ b3 b2, b4, b5.ext a2⟩
    show E cls d q.H
    rw [← a7]
    exact hf q' cls d a1 a3 a4 a5 a6 rx'
  | brk σ1 h1 => rw [rb] at hf; exact hf.elim
  | cont σ1 h1 => rw [rb] at hf; exact hf.elim
  | bad => rw [rb] at hf; exact hf.elim

/-! ### a def's call -/
def ωs (p : Pt) : List Addr := p.ω.filterMap id
/-- the point as a callee sees it -/
def Pt.callee (p : Pt) : Pt := { ι := p.ι, ω := [], ο := ωs p ++ p.ο, H := p.H }
theorem mem_ωs {p : Pt} {a : Addr} : a ∈ ωs p ↔ some a ∈ p.ω := by
  unfold ωs
  simp [List.mem_filterMap]
theorem F_callee {p : Pt} {a : Addr} : p.callee.F a ↔ p.F a := by
  unfold Pt.callee Pt.F
  simp only [List.not_mem_nil, false_or, List.mem_append, mem_ωs]
theorem ext_callee (p : Pt) : Ext p p.callee := ⟨fun _ _ h => .inl h, fun _ _ h _ => h, fun _ f => .inl (F_callee.mp f)⟩
theorem hrel_callee {C : Cn} {p : Pt} {mh : MH} (R : HRel C p mh) : HRel C p.callee mh := by
  refine ⟨R.li, fun n o e => ?_, ⟨R.sep.ii, fun n m a h => (by cases h), fun n m a _ h => (by cases h), fun n a h z => ?_, fun n a h => (by cases h)⟩, fun a f => R.hF a (F_callee.mp f)⟩
  · rcases R.obj n o e with z | ⟨a, e1, ro⟩
    · exact .inl z
    · exact .inr ⟨a, e1, ro.ext (ext_callee p) rfl⟩
  · rcases List.mem_append.mp z with z | z
    · obtain ⟨m, hm⟩ := List.getElem?_of_mem (mem_ωs.mp z)
      exact R.sep.iw n m a h hm
    · exact R.sep.io n a h z
/-- behind a call: the caller's point -/
theorem rel_back {C : Cn} {E p q : Pt} {σm : Env} {mh mh' : MH} {σ : L2.St} (R : Rel C E p σm mh σ) (h : HRel C q mh') (x : Ext p.callee q) (hω : q.ω = []) (hο : q.ο = p.callee.ο) (ho : ∀ a ∈ p.callee.ο, q.H a = p.H a) :
    ∃ r : Pt, Rel C E r σm mh' σ ∧ Ext p r ∧ Ext q r ∧ r.H = q.H := by
  have Fr : ∀ a, ({ ι := q.ι, ω := p.ω, ο := p.ο, H := q.H } : Pt).F a → q.F a := fun a f => by
    rcases f with f | f | f
    · exact .inl f
    · exact .inr (.inr (by rw [hο]; exact List.mem_append.mpr (.inl (mem_ωs.mpr f))))
    · exact .inr (.inr (by rw [hο]; exact List.mem_append.mpr (.inr f)))
  have xq : Ext q { ι := q.ι, ω := p.ω, ο := p.ο, H := q.H } := ⟨fun _ _ h => .inl h, fun _ _ h _ => h, fun a f => .inl (Fr a f)⟩
  have xp : Ext p { ι := q.ι, ω := p.ω, ο := p.ο, H := q.H } := (ext_callee p).trans (x.trans xq)
  have keepω : ∀ (n : Nat) (a : Addr), p.ω[n]? = some (some a) → q.H a = p.H a := fun n a h => ho a (List.mem_append.mpr (.inl (mem_ωs.mpr (List.mem_of_getElem? h))))
  have notι : ∀ (n : Nat) (a : Addr), q.ι[n]? = some (some a) → a ∉ q.ο := fun n a h1 => h.sep.io n a h1
  refine ⟨{ ι := q.ι, ω := p.ω, ο := p.ο, H := q.H }, ⟨⟨h.li, fun n o e => ?_, ⟨h.sep.ii, R.h.sep.ww, fun n m a h1 h2 => ?_, fun n a h1 z => ?_, R.h.sep.wo⟩, fun a f => h.hF a (Fr a f)⟩, R.lσ, R.lω, fun i s e => ?_, R.ext.trans xp, R.oE, fun a ha => ?_⟩, xp, xq, rfl⟩
  · rcases h.obj n o e with z | ⟨a, e1, ro⟩
    · exact .inl z
    · exact .inr ⟨a, e1, ro.ext xq rfl⟩
  · exact notι n a h1 (by rw [hο]; exact List.mem_append.mpr (.inl (mem_ωs.mpr (List.mem_of_getElem? h2))))
  · exact notι n a h1 (by rw [hο]; exact List.mem_append.mpr (.inr z))
  · have hs := R.slot i s e
    cases s with
    | unset => exact hs
    | val v => obtain ⟨h1, y, h2, h3⟩ := hs; exact ⟨h1, y, h2, h3.ext xp⟩
    | own l => obtain ⟨a, vs, h1, h2, h3, h4⟩ := hs; exact ⟨a, vs, h1, h2, (keepω i a h1).trans h3, h4.ext xp⟩
  · show q.H a = E.H a
    rw [ho a (List.mem_append.mpr (.inr ha))]
    exact R.oK a ha

/-- a def that is there to be called -/
structure DefM (P : Program) (w : World) (K : PySem.W.Frag) (mg : Str → Option Value) (base : Heap) (cn : String → Addr) (k : Nat) (x : Str) (n : Nat) (f : MF) : Prop where
  ex : ∃ (a : Addr) (fd : FuncData) (ps : List Str), ps.length = n ∧ FnG P w K mg base (L2.CX P w) k a fd ps (spM K cn n f) ∧ mg x = some (.ref a) ∧ PySem.W.keepIn K (.ref a) = true ∧ Binds K fd ps []
theorem DefM.mono {P : Program} {w : World} {K : PySem.W.Frag} {mg : Str → Option Value} {base : Heap} {cn : String → Addr} {j k : Nat} {x : Str} {n : Nat} {f : MF} (D : DefM P w K mg base cn j x n f) (h : j ≤ k) : DefM P w K mg base cn k x n f := by
  obtain ⟨a, fd, ps, h1, h2, h3⟩ := D.ex
  exact ⟨a, fd, ps, h1, h2.mono h, h3⟩
def mFn (n : Nat) (f : MF) (m : ME (List Val)) : ME Val := fun σ h => (m σ h).bind fun args h1 => if args.length = n then f args h1 else .bad
section
variable {X : Cx} {cn : String → Addr} {W : WX} {e : Expr} {es : List Expr} {pos p0 : Pos} {x : Str} {k n : Nat} {f : MF}
theorem tCallS_of {m : ME (List Val)} {σ : L2.St} {H : Hp} {Q : VK} (h : tG RVr ⟨X.K, cn⟩ W (mFn n f m) σ H Q) : tCallS (spM X.K cn n f) (WE W) (tG RVsr ⟨X.K, cn⟩ W m) σ H Q := by
  obtain ⟨E, p, σm, mh, e1, R, k⟩ := h
  refine ⟨E, p, σm, mh, e1, R, k.bind fun args mh1 q xs R1 x1 rs k1 => ?_⟩
  by_cases hn : args.length = n
  · rw [if_pos hn] at k1
    have rs' : RVs ⟨X.K, cn⟩ q args xs := rs
    refine ⟨q.callee, args, mh1, rfl, rfl, hrel_callee R1.h, rs'.ext (ext_callee q), hn, ?_⟩
    cases r : f args mh1 with
    | ok v h =>
      rw [r] at k1
      intro q2 x h2 x2 hω hο ho rv
      obtain ⟨r3, R3, x3, x4, e3⟩ := rel_back R1 h2 x2 hω hο ho
      rw [← e3]
      exact k1 r3 x R3 x3 (RV.ext x4 rv)
    | exc c g h =>
      rw [r] at k1
      intro q2 cls d h2 x2 hω hο ho rx
      obtain ⟨r3, R3, x3, x4, e3⟩ := rel_back R1 h2 x2 hω hο ho
      show W cls d σ q2.H
      rw [← e3]
      refine k1 r3 cls d R3 x3 ?_
      obtain ⟨r1, r2⟩ := rx
      refine ⟨r1, ?_⟩
      cases g with
      | none => exact r2
      | some v =>
        obtain ⟨dd, fs, y, b1, b2, b3, b4, b5⟩ := r2
        exact ⟨dd, fs, y, b1, x4.nF b3 b2, x4.keep _ _ b3 b2, b4, b5.ext x4⟩
    | bad => rw [r] at k1; exact k1.elim
  · rw [if_neg hn] at k1; exact k1.elim
theorem e_call {m : ME (List Val)} (D : DefM X.prog X.w X.K X.mg X.base cn k x n f) (hr : RoomG k X.A) (hx : ∀ σ, PassesAt (L2.CX X.prog X.w) X σ (WE W σ)) (ha : AM X cn W (e :: es) m) (hg : Gl X x := by rfl)
    (hdb : (x == ("__debug__" : Str)) = false := by decide) (he : starEach (e :: es) X.env = (false, eval e X.env) :: starEach es X.env := by rfl) (hpl : (backTo pos (starEach es X.env)).any (·.1) = false := by rfl) :
    EM X cn W (.Call (.Name x p0) (e :: es) [] pos) (mFn n f m) := by
  obtain ⟨a, fd, ps, h1, h2, h3, h4, h5⟩ := D.ex
  exact PE.wk (pe_callG h2 hr hg h3 h4 h5 hx ha hdb he hpl) fun σ H Q h => tCallS_of h
theorem pe_callS0 {CX : CXT} {f : Addr} {fd : FuncData} {ps : List Str} {sp : Sp} {E : L2.St → XK} (F : FnG X.prog X.w X.K X.mg X.base CX k f fd ps sp) (hr : RoomG k X.A) (hg : Gl X x) (hm : X.mg x = some (.ref f)) (hk : PySem.W.keepIn X.K (.ref f) = true) (hb : Binds X.K fd ps []) (hx : ∀ σ, PassesAt CX X σ (E σ))
    (hdb : (x == ("__debug__" : Str)) = false := by decide) : PE X (.Call (.Name x p0) [] [] pos) (tCallS sp E tNil) := by
  refine ⟨fun pins s σ H Q I h => ?_⟩
  refine wpAny_Call_Name_kw (ld_glob I hg hm ?_ hdb)
  exact PySem.W.callWith_K0 I.kIn hk (run_fnG F hr hb (hx σ) I .nil h)
theorem e_call0 (D : DefM X.prog X.w X.K X.mg X.base cn k x n f) (hr : RoomG k X.A) (hx : ∀ σ, PassesAt (L2.CX X.prog X.w) X σ (WE W σ)) (hg : Gl X x := by rfl) (hdb : (x == ("__debug__" : Str)) = false := by decide) :
    EM X cn W (.Call (.Name x p0) [] [] pos) (mFn n f mNil) := by
  obtain ⟨a, fd, ps, h1, h2, h3, h4, h5⟩ := D.ex
  refine PE.wk (pe_callS0 h2 hr hg h3 h4 h5 hx hdb) fun σ H Q h => ?_
  obtain ⟨E, p, σm, mh, e1, R, k⟩ := tCallS_of h
  rw [← e1]
  exact k p [] R (Ext.refl p) .nil
/-- within a comprehension no exception may leave -/
abbrev W0 : WX := fun _ _ _ _ => False
theorem passN {X : Cx} (σ : L2.St) : PassesAt (L2.CX X.prog X.w) X σ (WE W0 σ) := fun _ _ _ _ _ _ h => by
  obtain ⟨_, _, _, _, _, _, _, _, _, _, _, _, z⟩ := h
  exact z.elim
end
end Mi
/-! Mi8: list comprehensions; targets of names. -/
namespace Mi
open PySem L2 PyProof.Rows

/-! ### targets of names -/
inductive Tg where
  | nm (i : Nat) | tp (l : List Tg)
mutual
def tgM : Tg → MG
  | .nm i => gSet i
  | .tp l => fun v σ h => match v with
    | .tup vs => if vs.length = l.length then tgMs l vs σ h else .bad
    | _ => .bad
def tgMs : List Tg → MGs
  | [] => fun _ σ h => .next σ h
  | t :: ts => fun vs σ h => match vs with
    | v :: r => (tgM t v σ h).seq fun σ1 h1 => tgMs ts r σ1 h1
    | [] => .bad
end
mutual
def tgR (K : PySem.W.Frag) : Tg → TG
  | .nm i => gName i
  | .tp l => gTup K l.length (tgRs K l)
def tgRs (K : PySem.W.Frag) : List Tg → TGs
  | [] => gNil
  | t :: ts => gCons (tgR K t) (tgRs K ts)
end
mutual
def tgIn (vs : List Nat) : Tg → Bool
  | .nm i => decide (i ∈ vs)
  | .tp l => tgIns vs l
def tgIns (vs : List Nat) : List Tg → Bool
  | [] => true
  | t :: ts => tgIn vs t && tgIns vs ts
end
theorem wipe_set {σ : L2.St} {i : Nat} {y : Option V} : ∀ {vs : List Nat}, i ∈ vs → wipe (σ.set i y) vs = wipe σ vs
  | v :: vs, h => by
    unfold wipe
    by_cases q : i ∈ vs
    · rw [wipe_set q]
    · have e : i = v := (List.mem_cons.mp h).resolve_right q
      subst e
      have go : ∀ (ws : List Nat) (τ : L2.St), (wipe (τ.set i y) ws).set i none = (wipe τ ws).set i none := fun ws => by
        induction ws with
        | nil => intro τ; show (τ.set i y).set i none = τ.set i none; rw [List.set_set]
        | cons u ws ih =>
          intro τ
          unfold wipe
          by_cases z : u = i
          · subst z
            rw [List.set_set, List.set_set]; exact ih τ
          · rw [List.set_comm _ _ z, List.set_comm _ _ z, ih τ]
      exact go vs σ
theorem wipe_wipe (σ : L2.St) : ∀ (vs ws : List Nat), (∀ v ∈ vs, v ∈ ws) → wipe (wipe σ vs) ws = wipe σ ws
  | [], ws, _ => rfl
  | v :: vs, ws, h => by
    show wipe ((wipe σ vs).set v none) ws = wipe σ ws
    rw [wipe_set (h v List.mem_cons_self)]
    exact wipe_wipe σ vs ws fun u hu => h u (List.mem_cons_of_mem _ hu)
def TgOk (C : Cn) (E p : Pt) (σm' : Env) (mh : MH) (σ : L2.St) (vs : List Nat) (inn : Bool) (r : (L2.St → Hp → Prop) → Prop) : Prop :=
  ∃ (σ' : L2.St) (p' : Pt), (∀ Q : L2.St → Hp → Prop, Q σ' p.H → r Q) ∧ Rel C E p' σm' mh σ' ∧ Ext p p' ∧ p'.H = p.H ∧ (inn = true → wipe σ' vs = wipe σ vs)
mutual
theorem tg_ok {C : Cn} {E : Pt} (vs : List Nat) : ∀ (t : Tg) {p : Pt} {σm σm' : Env} {mh mh' : MH} {σ : L2.St} {v : Val} {x : V}, Rel C E p σm mh σ → RV C p v x → tgM t v σm mh = .next σm' mh' → mh' = mh ∧ TgOk C E p σm' mh σ vs (tgIn vs t) (fun Q => tgR C.K t x σ p.H Q)
  | .nm i, p, σm, σm', mh, mh', σ, v, x, R, rv, e => by
    unfold tgM gSet at e
    by_cases z : i < σm.length
    · rw [if_pos z] at e
      cases e
      refine ⟨rfl, σ.set i (some x), p.un i, fun Q q => q, R.setV z rv, ext_un, rfl, fun h => ?_⟩
      unfold tgIn at h
      exact wipe_set (of_decide_eq_true h)
    · rw [if_neg z] at e; cases e
  | .tp l, p, σm, σm', mh, mh', σ, v, x, R, rv, e => by
    cases v with
    | tup ws =>
      unfold tgM at e
      simp only at e
      by_cases z : ws.length = l.length
      · rw [if_pos z] at e
        unfold RV at rv
        obtain ⟨a, us, rfl, h1, h2⟩ := rv
        obtain ⟨e1, σ', p', a1, a2, a3, a4, a5⟩ := tgs_ok vs l R h2 e z
        refine ⟨e1, σ', p', fun Q q => ?_, a2, a3, a4, fun h => a5 (by unfold tgIn at h; exact h)⟩
        unfold tgR
        exact ⟨a, us, rfl, h1.sq, by rw [h2.length]; exact z, a1 Q q⟩
      · rw [if_neg z] at e; cases e
    | _ => unfold tgM at e; cases e
theorem tgs_ok {C : Cn} {E : Pt} (vs : List Nat) : ∀ (t : List Tg) {p : Pt} {σm σm' : Env} {mh mh' : MH} {σ : L2.St} {l : List Val} {xs : List V}, Rel C E p σm mh σ → RVs C p l xs → tgMs t l σm mh = .next σm' mh' → l.length = t.length → mh' = mh ∧ TgOk C E p σm' mh σ vs (tgIns vs t) (fun Q => tgRs C.K t xs σ p.H Q)
  | [], p, σm, σm', mh, mh', σ, l, xs, R, rv, e, hl => by
    unfold tgMs at e
    cases e
    have : l = [] := by simpa using hl
    subst this
    refine ⟨rfl, σ, p, fun Q q => ?_, R, Ext.refl p, rfl, fun _ => rfl⟩
    unfold tgRs
    exact ⟨rv.nil_inv, q⟩
  | t :: ts, p, σm, σm', mh, mh', σ, l, xs, R, rv, e, hl => by
    cases l with
    | nil => simp at hl
    | cons v l =>
      obtain ⟨x, r, rfl, h1, h2⟩ := rv.cons_inv
      unfold tgMs at e
      simp only at e
      cases r1 : tgM t v σm mh with
      | next σ1 m1 =>
        rw [r1] at e
        obtain ⟨e1, σ', p', a1, a2, a3, a4, a5⟩ := tg_ok vs t R h1 r1
        subst e1
        obtain ⟨e2, σ2, p2, b1, b2, b3, b4, b5⟩ := tgs_ok vs ts a2 (h2.ext a3) e (by simpa using hl)
        refine ⟨e2, σ2, p2, fun Q q => ?_, b2, a3.trans b3, b4.trans a4, fun h => ?_⟩
        · unfold tgRs
          refine ⟨x, r, rfl, a1 _ ?_⟩
          rw [← a4]
          exact b1 Q (by rw [a4]; exact q)
        · unfold tgIns at h
          have h := Bool.and_eq_true_iff.mp h
          rw [b5 h.2, a5 h.1]
      | ret v h => rw [r1] at e; cases e
      | brk v h => rw [r1] at e; cases e
      | cont v h => rw [r1] at e; cases e
      | exc c f v h => rw [r1] at e; cases e
      | bad => rw [r1] at e; cases e
end
mutual
theorem tg_plain : ∀ (t : Tg) (v : Val) (σ : Env) (h : MH), (∃ σ' h', tgM t v σ h = .next σ' h') ∨ tgM t v σ h = .bad
  | .nm i, v, σ, h => by
    unfold tgM gSet
    by_cases z : i < σ.length
    · rw [if_pos z]; exact .inl ⟨_, _, rfl⟩
    · rw [if_neg z]; exact .inr rfl
  | .tp l, v, σ, h => by
    unfold tgM
    cases v with
    | tup vs =>
      simp only
      by_cases z : vs.length = l.length
      · rw [if_pos z]; exact tgs_plain l vs σ h
      · rw [if_neg z]; exact .inr rfl
    | _ => exact .inr rfl
theorem tgs_plain : ∀ (t : List Tg) (v : List Val) (σ : Env) (h : MH), (∃ σ' h', tgMs t v σ h = .next σ' h') ∨ tgMs t v σ h = .bad
  | [], v, σ, h => by unfold tgMs; exact .inl ⟨_, _, rfl⟩
  | t :: ts, [], σ, h => by unfold tgMs; exact .inr rfl
  | t :: ts, v :: l, σ, h => by
    unfold tgMs
    simp only
    rcases tg_plain t v σ h with ⟨σ1, h1, e⟩ | e
    · rw [e]; exact tgs_plain ts l σ1 h1
    · rw [e]; exact .inr rfl
end
section
variable {X : Cx} {cn : String → Addr} {W : WX} {e a b c tg iter : Expr} {es : List Expr} {pos : Pos}
/-- a target of names: its rule, for a for (GM) -/
def TgP (X : Cx) (tg : Expr) (t : Tg) : Prop := PG X tg (tgR X.K t)
def TgPs (X : Cx) (es : List Expr) (l : List Tg) : Prop := PGs X es (tgRs X.K l)
theorem n_name (i : Nat) {x : Str} (hN : X.N.Nodup) (hi : X.N[i]? = some x := by rfl) (hx : Loc X.env.scope x := by first | exact Or.inl rfl | exact Or.inr rfl) (hf : X.fn x = true ∨ X.env.scope.names.lookup x = some .local := by first | exact .inl rfl | exact .inr rfl) : TgP X (.Name x pos) (.nm i) := by
  unfold TgP tgR; exact pg_name hN hi hx hf
theorem n_nil : TgPs X [] [] := by unfold TgPs tgRs; exact pgs_nil
theorem n_cons {t : Expr} {ts : List Expr} {g : Tg} {l : List Tg} (h : TgP X t g) (k : TgPs X ts l) (hs : (assignEach (t :: ts) X.env).map (·.2) = assign t X.env :: (assignEach ts X.env).map (·.2) := by rfl) : TgPs X (t :: ts) (g :: l) := by
  unfold TgPs tgRs; exact pgs_cons h k hs
theorem n_tup {k : Nat} {l : List Tg} (hc : X.calm = true) (h : TgPs X es l) (hn : (assignEach es X.env).length = l.length := by rfl) (hst : (assignEach es X.env).findIdx? (·.1) = none := by rfl) : TgP X (.Tuple es k pos) (.tp l) := by
  unfold TgP tgR; exact pg_tup hc h hn hst
theorem TgP.g {t : Tg} (h : TgP X tg t) : GM X cn W tg (tgM t) := PG.wk h fun x σ H Q ⟨E, p, σm, mh, v, e1, R, rv, k⟩ => by
  subst e1
  rcases tg_plain t v σm mh with ⟨σ1, h1, e⟩ | e
  · rw [e] at k
    obtain ⟨e1, σ', p', a1, a2, a3, a4, _⟩ := tg_ok [] t R rv e
    subst e1
    exact a1 Q (by rw [← a4]; exact k p' σ' a2 a3)
  · rw [e] at k; exact k.elim

/-! ### comprehensions -/
def wipeM (σ : Env) : List Nat → Env
  | [] => σ
  | v :: vs => (wipeM σ vs).set v .unset
def notOwn : Option Slot → Bool
  | some (.own _) => false
  | some _ => true
  | none => false
def okWipe (σ : Env) (vs : List Nat) : Bool := vs.all fun v => notOwn σ[v]?
theorem wipeM_length (σ : Env) : ∀ vs : List Nat, (wipeM σ vs).length = σ.length
  | [] => rfl
  | v :: vs => by unfold wipeM; rw [List.length_set, wipeM_length σ vs]
def lcL (t : Tg) (c : ME Bool) (m : ME Val) : List Val → List Val → Env → MH → Res (List Val)
  | [], acc, _, h => .ok acc h
  | v :: l, acc, σ, h => match tgM t v σ h with
    | .next σ1 h1 => (match c σ1 h1 with
      | .ok b h2 => if b = true then (match m σ1 h2 with
        | .ok y h3 => if acc.length < 16777216 then lcL t c m l (acc ++ [y]) σ h3 else .bad
        | _ => .bad) else lcL t c m l acc σ h2
      | _ => .bad)
    | _ => .bad
def mLc (vs : List Nat) (mi : ME (List Val)) (t : Tg) (c : ME Bool) (m : ME Val) : ME (List Val) := fun σ h => (mi σ h).bind fun l h1 => if okWipe σ vs = true then lcL t c m l [] (wipeM σ vs) h1 else .bad
@[simp] def mYes : ME Bool := fun _ h => .ok true h

/-- re-rooted: the outer own D is changed -/
theorem Rel.reroot {C : Cn} {E p : Pt} {σm : Env} {mh : MH} {σ : L2.St} {D : Addr} {o : HO} (R : Rel C E p σm mh σ) (hD : D ∈ p.ο) : Rel C (p.up D o) (p.up D o) σm mh σ := by
  have f : p.F D := .inr (.inr hD)
  have x : Ext p (p.up D o) := ext_wr f
  have other : ∀ a, a ≠ D → (p.up D o).H a = p.H a := fun a h => upd_ne h
  refine ⟨⟨R.h.li, fun n u e => ?_, R.h.sep.congr rfl rfl rfl, fun a fa => ?_⟩, R.lσ, R.lω, fun i s e => ?_, Ext.refl _, rfl, fun _ _ => rfl⟩
  · rcases R.h.obj n u e with z | ⟨a, e1, ro⟩
    · exact .inl z
    · exact .inr ⟨a, e1, ro.ext x (other a fun z => R.h.sep.io n a e1 (by rw [z]; exact hD))⟩
  · show upd p.H D o a ≠ none
    by_cases q : a = D
    · rw [q, upd_same]; exact fun z => by cases z
    · rw [upd_ne q]; exact R.h.hF a fa
  · have hs := R.slot i s e
    cases s with
    | unset => exact hs
    | val v => obtain ⟨h1, y, h2, h3⟩ := hs; exact ⟨h1, y, h2, h3.ext x⟩
    | own l => obtain ⟨a, vs, h1, h2, h3, h4⟩ := hs; exact ⟨a, vs, h1, h2, (other a fun z => R.h.sep.wo i a h1 (by rw [z]; exact hD)).trans h3, h4.ext x⟩
theorem unsets {C : Cn} {E : Pt} {mh : MH} : ∀ (vs : List Nat) {p : Pt} {σm : Env} {σ : L2.St}, (∀ v ∈ vs, v < σm.length) → Rel C E p σm mh σ → ∃ p' : Pt, Rel C E p' (wipeM σm vs) mh (wipe σ vs) ∧ Ext p p' ∧ p'.H = p.H ∧ p'.ο = p.ο
  | [], p, σm, σ, _, R => ⟨p, R, Ext.refl p, rfl, rfl⟩
  | v :: vs, p, σm, σ, hv, R => by
    obtain ⟨p', R', x', e', o'⟩ := unsets vs (fun u hu => hv u (List.mem_cons_of_mem _ hu)) R
    have hi : v < (wipeM σm vs).length := by rw [wipeM_length]; exact hv v List.mem_cons_self
    exact ⟨p'.un v, R'.unset hi, x'.trans ext_un, e', o'⟩
theorem wipeM_get {σ : Env} {i : Nat} : ∀ {vs : List Nat}, i ∉ vs → (wipeM σ vs)[i]? = σ[i]?
  | [], _ => rfl
  | v :: vs, h => by
    unfold wipeM
    rw [List.getElem?_set_ne fun z => h (by rw [z]; exact List.mem_cons_self)]
    exact wipeM_get fun z => h (List.mem_cons_of_mem _ z)
theorem wipeM_in {σ : Env} {i : Nat} : ∀ {vs : List Nat}, i ∈ vs → i < σ.length → (wipeM σ vs)[i]? = some .unset
  | v :: vs, h, hl => by
    unfold wipeM
    by_cases q : v = i
    · subst q
      rw [List.getElem?_set_self (by rw [wipeM_length]; exact hl)]
    · rw [List.getElem?_set_ne q]
      exact wipeM_in ((List.mem_cons.mp h).resolve_left fun z => q z.symm) hl
theorem wipe_get {σ : L2.St} {i : Nat} : ∀ {vs : List Nat}, i ∉ vs → (wipe σ vs)[i]? = σ[i]?
  | [], _ => rfl
  | v :: vs, h => by
    unfold wipe
    rw [List.getElem?_set_ne fun z => h (by rw [z]; exact List.mem_cons_self)]
    exact wipe_get fun z => h (List.mem_cons_of_mem _ z)
theorem wipeM_set {σ : Env} {i : Nat} {y : Slot} : ∀ {vs : List Nat}, i ∈ vs → wipeM (σ.set i y) vs = wipeM σ vs
  | v :: vs, h => by
    unfold wipeM
    by_cases q : i ∈ vs
    · rw [wipeM_set q]
    · have e : i = v := (List.mem_cons.mp h).resolve_right q
      subst e
      have go : ∀ (ws : List Nat) (τ : Env), (wipeM (τ.set i y) ws).set i .unset = (wipeM τ ws).set i .unset := fun ws => by
        induction ws with
        | nil => intro τ; show (τ.set i y).set i .unset = τ.set i .unset; rw [List.set_set]
        | cons u ws ih =>
          intro τ
          unfold wipeM
          by_cases z : u = i
          · subst z
            rw [List.set_set, List.set_set]; exact ih τ
          · rw [List.set_comm _ _ z, List.set_comm _ _ z, ih τ]
      exact go vs σ
theorem wipeM_wipeM (σ : Env) : ∀ (vs ws : List Nat), (∀ v ∈ vs, v ∈ ws) → wipeM (wipeM σ vs) ws = wipeM σ ws
  | [], ws, _ => rfl
  | v :: vs, ws, h => by
    show wipeM ((wipeM σ vs).set v .unset) ws = wipeM σ ws
    rw [wipeM_set (h v List.mem_cons_self)]
    exact wipeM_wipeM σ vs ws fun u hu => h u (List.mem_cons_of_mem _ hu)
mutual
theorem tgM_wipe (vs : List Nat) : ∀ (t : Tg) (v : Val) (σ σ' : Env) (h h' : MH), tgIn vs t = true → tgM t v σ h = .next σ' h' → wipeM σ' vs = wipeM σ vs ∧ σ'.length = σ.length
  | .nm i, v, σ, σ', h, h', ht, e => by
    unfold tgM gSet at e
    by_cases z : i < σ.length
    · rw [if_pos z] at e
      cases e
      unfold tgIn at ht
      exact ⟨wipeM_set (of_decide_eq_true ht), by simp⟩
    · rw [if_neg z] at e; cases e
  | .tp l, v, σ, σ', h, h', ht, e => by
    cases v with
    | tup ws =>
      unfold tgM at e
      simp only at e
      by_cases z : ws.length = l.length
      · rw [if_pos z] at e
        exact tgMs_wipe vs l ws σ σ' h h' (by unfold tgIn at ht; exact ht) e
      · rw [if_neg z] at e; cases e
    | _ => unfold tgM at e; cases e
theorem tgMs_wipe (vs : List Nat) : ∀ (t : List Tg) (l : List Val) (σ σ' : Env) (h h' : MH), tgIns vs t = true → tgMs t l σ h = .next σ' h' → wipeM σ' vs = wipeM σ vs ∧ σ'.length = σ.length
  | [], l, σ, σ', h, h', ht, e => by unfold tgMs at e; cases e; exact ⟨rfl, rfl⟩
  | t :: ts, [], σ, σ', h, h', ht, e => by unfold tgMs at e; cases e
  | t :: ts, v :: l, σ, σ', h, h', ht, e => by
    unfold tgMs at e
    unfold tgIns at ht
    have ht := Bool.and_eq_true_iff.mp ht
    simp only at e
    rcases tg_plain t v σ h with ⟨σ1, h1, e1⟩ | e1
    · rw [e1] at e
      obtain ⟨a1, a2⟩ := tgM_wipe vs t v σ σ1 h h1 ht.1 e1
      obtain ⟨b1, b2⟩ := tgMs_wipe vs ts l σ1 σ' h1 h' ht.2 e
      exact ⟨b1.trans a1, b2.trans a2⟩
    · rw [e1] at e; cases e
end

theorem tLc_of {t : Tg} {vs : List Nat} {mi : ME (List Val)} {mc : ME Bool} {m : ME Val} {W' : WX} (hin : tgIn vs t = true) {σ : L2.St} {H : Hp} {Q : VK} (h : tFr ⟨X.K, cn⟩ W (mLc vs mi t mc m) σ H Q) :
    tLc (tIt ⟨X.K, cn⟩ W mi) (tgR X.K t) (tG RB ⟨X.K, cn⟩ W' mc) (tG RVr ⟨X.K, cn⟩ W' m) vs σ H Q := by
  obtain ⟨E, p, σm, mh, e1, R, k⟩ := h
  refine ⟨E, p, σm, mh, e1, R, ?_⟩
  unfold mLc at k
  cases r : mi σm mh with
  | bad => rw [r] at k; exact k
  | exc c f h => rw [r] at k; exact k
  | ok l h =>
    rw [r] at k
    intro q J Rq xq ok D hD
    simp only [Res.bind] at k
    by_cases hok : okWipe σm vs = true
    · rw [if_pos hok] at k
      have hvs : ∀ v ∈ vs, v < σm.length ∧ ∀ l', σm[v]? ≠ some (.own l') := fun v hv => by
        have := List.all_eq_true.mp hok v hv
        cases hs : σm[v]? with
        | none => rw [hs] at this; cases this
        | some s =>
          refine ⟨(List.getElem?_eq_some_iff.mp hs).1, fun l' z => ?_⟩
          cases z
          rw [hs] at this; cases this
      have nFD : ¬ q.F D := fun f => Rq.h.hF D f hD
      -- a turn's state
      let Inn : Pt → MH → List Val → List V → Prop := fun q' mh' acc accV => Rel ⟨X.K, cn⟩ q' q' (wipeM σm vs) mh' (wipe σ vs) ∧ Ext q q' ∧ q'.ο = D :: q.ο ∧ (∀ a ∈ q.ο, q'.H a = q.H a) ∧ q'.H D = some (.lst accV) ∧ RVs ⟨X.K, cn⟩ q' acc accV
      have Dο : D ∉ q.ο := fun z => nFD (.inr (.inr z))
      refine ⟨fun i n H => ∃ (q' : Pt) (mh' : MH) (acc : List Val) (accV : List V), q'.H = H ∧ Inn q' mh' acc accV ∧ i ≤ l.length ∧ n = l.length - i ∧
        (match lcL t mc m (l.drop i) acc (wipeM σm vs) mh' with
          | .ok l' h' => ∀ r a us, Rel ⟨X.K, cn⟩ E r σm h' σ → Ext q r → r.H a = none → RVs ⟨X.K, cn⟩ r l' us → Q (.ref a) (upd r.H a (.lst us))
          | _ => False), ⟨l.length, ?_⟩, ?_⟩
      · -- the start
        obtain ⟨p0, R0, x0, e0, o0⟩ := unsets vs (fun v hv => (hvs v hv).1) Rq
        have x1 : Ext p0 { ι := p0.ι, ω := p0.ω, ο := D :: p0.ο, H := upd p0.H D (.lst []) } := by
          refine ⟨fun _ _ h => .inl h, fun a o ha hf => ?_, fun a f => ?_⟩
          · show upd p0.H D _ a = some o
            rw [upd_ne fun z => by subst z; rw [e0, hD] at ha; cases ha]; exact ha
          · rcases f with f | f | f
            · exact .inl (.inl f)
            · exact .inl (.inr (.inl f))
            · rcases List.mem_cons.mp f with f | f
              · subst f; exact .inr (by rw [e0]; exact hD)
              · exact .inl (.inr (.inr f))
        have nF0 : ¬ p0.F D := fun f => R0.h.hF D f (by rw [e0]; exact hD)
        have other : ∀ a, p0.F a → upd p0.H D (.lst []) a = p0.H a := fun a f => upd_ne fun z => by subst z; exact nF0 f
        refine ⟨{ ι := p0.ι, ω := p0.ω, ο := D :: p0.ο, H := upd p0.H D (.lst []) }, h, [], [], ?_, ⟨?_, ?_, ?_, ?_, upd_same, .nil⟩, Nat.zero_le _, rfl, ?_⟩
        · show upd p0.H D _ = upd q.H D _
          rw [e0]
        · refine ⟨⟨R0.h.li, fun n u e => ?_, ⟨R0.h.sep.ii, R0.h.sep.ww, R0.h.sep.iw, fun n a e1 z => ?_, fun n a e1 z => ?_⟩, fun a f => ?_⟩, R0.lσ, R0.lω, fun i s e => (R0.slot i s e).ext x1 rfl other, Ext.refl _, rfl, fun _ _ => rfl⟩
          · rcases R0.h.obj n u e with z | ⟨a, e1, ro⟩
            · exact .inl z
            · exact .inr ⟨a, e1, ro.ext x1 (other a (F_ι e1))⟩
          · rcases List.mem_cons.mp z with z | z
            · subst z; exact nF0 (F_ι e1)
            · exact R0.h.sep.io n a e1 z
          · rcases List.mem_cons.mp z with z | z
            · subst z; exact nF0 (F_ω e1)
            · exact R0.h.sep.wo n a e1 z
          · show upd p0.H D _ a ≠ none
            by_cases z : a = D
            · rw [z, upd_same]; exact fun w => by cases w
            · rw [upd_ne z]
              rcases f with f | f | f
              · exact R0.h.hF a (.inl f)
              · exact R0.h.hF a (.inr (.inl f))
              · rcases List.mem_cons.mp f with f | f
                · exact absurd f z
                · exact R0.h.hF a (.inr (.inr f))
        · exact x0.trans x1
        · show D :: p0.ο = D :: q.ο
          rw [o0]
        · intro a ha
          show upd p0.H D _ a = _
          rw [upd_ne fun z => by subst z; exact Dο ha, e0]
        · rw [List.drop_zero]
          cases hr : lcL t mc m l [] (wipeM σm vs) h with
          | ok l' h' => rw [hr] at k; exact fun r a us R1 x1 => k r a us R1 (xq.trans x1)
          | exc c f h' =>
            exfalso
            have go : ∀ (l : List Val) (acc : List Val) (σ : Env) (h : MH) (c : String) (f : Option Val) (h' : MH), lcL t mc m l acc σ h ≠ .exc c f h' := fun l => by
              induction l with
              | nil => intro acc σ h c f h' z; unfold lcL at z; cases z
              | cons v l ih =>
                intro acc σ h c f h' z
                unfold lcL at z
                split at z
                · split at z
                  · split at z
                    · split at z
                      · split at z
                        · exact ih _ _ _ _ _ _ z
                        · cases z
                      · cases z
                    · exact ih _ _ _ _ _ _ z
                  · cases z
                · cases z
            exact go _ _ _ _ _ _ _ hr
          | bad => rw [hr] at k; exact k.elim
      · rintro i n H ⟨q', mh', acc, accV, rfl, ⟨R', x', o', kο, hDa, ra⟩, hi, rfl, k'⟩
        by_cases hl : i < l.length
        · refine .inr ⟨ok.go q' i x' hl, fun H' => ∃ (q' : Pt) (mh' : MH) (acc : List Val) (accV : List V), q'.H = H' ∧ Inn q' mh' acc accV ∧ i + 1 ≤ l.length ∧
            (match lcL t mc m (l.drop (i + 1)) acc (wipeM σm vs) mh' with
              | .ok l' h' => ∀ r a us, Rel ⟨X.K, cn⟩ E r σm h' σ → Ext q r → r.H a = none → RVs ⟨X.K, cn⟩ r l' us → Q (.ref a) (upd r.H a (.lst us))
              | _ => False), fun H' ⟨a1, a2, a3, a4, a5, a6, a7, a8⟩ => ⟨l.length - (i + 1), by omega, a1, a2, a3, a4, a5, a6, a7, rfl, a8⟩, fun x H' y => ?_⟩
          have ev : l[i]? = some l[i] := List.getElem?_eq_getElem hl
          rw [List.drop_eq_getElem_cons hl] at k'
          unfold lcL at k'
          obtain ⟨q1, R1, x1, e2, o1, rv⟩ : ∃ q1 : Pt, Rel ⟨X.K, cn⟩ q' q1 (wipeM σm vs) mh' (wipe σ vs) ∧ Ext q' q1 ∧ q1.H = H' ∧ q1.ο = q'.ο ∧ RV ⟨X.K, cn⟩ q1 l[i] x := by
            rcases ok.yld q' i x H' _ x' ev y with ⟨e2, rv⟩ | ⟨t, ws, m, hn, e2, rfl, ev2, rs⟩
            · exact ⟨q', R', Ext.refl q', e2.symm, rfl, rv⟩
            · exact ⟨q'.up t (.tup ws), R'.up hn, ext_up hn, e2.symm, rfl, by rw [ev2]; exact rv_tup R'.h hn rs⟩
          rcases tg_plain t l[i] (wipeM σm vs) mh' with ⟨σ1, h1, et⟩ | et
          · rw [et] at k'
            simp only at k'
            obtain ⟨eh, σ', p', a1, a2, a3, a4, a5⟩ := tg_ok vs t R1 rv et
            subst eh
            obtain ⟨w1, w2⟩ := tgM_wipe vs t _ _ _ _ _ hin et
            rw [← e2]
            refine a1 _ ⟨by rw [a5 hin, wipe_wipe σ vs vs fun _ z => z], q', p', σ1, h1, a4, a2, ?_⟩
            -- back to a turn's state
            have back : ∀ (q4 : Pt) (mh4 : MH) (acc' : List Val) (accV' : List V), Rel ⟨X.K, cn⟩ q' q4 σ1 mh4 σ' → RVs ⟨X.K, cn⟩ q4 acc' accV' → ∃ q5 : Pt, q5.H = upd q4.H D (.lst accV') ∧ Inn q5 mh4 acc' accV' := fun q4 mh4 acc' accV' R4 rs4 => by
              obtain ⟨p5, R5, x5, e5, o5⟩ := unsets vs (fun v hv => by rw [w2, wipeM_length]; exact (hvs v hv).1) R4
              rw [w1, wipeM_wipeM σm vs vs fun _ z => z, a5 hin, wipe_wipe σ vs vs fun _ z => z] at R5
              have hD5 : D ∈ p5.ο := by rw [o5, R4.oE, o']; exact List.mem_cons_self
              have x6 : Ext p5 (p5.up D (.lst accV')) := ext_wr (.inr (.inr hD5))
              refine ⟨p5.up D (.lst accV'), by show upd p5.H D _ = _; rw [e5], R5.reroot hD5, ((x'.trans R4.ext).trans x5).trans x6, ?_, fun a ha => ?_, upd_same, (rs4.ext x5).ext x6⟩
              · show p5.ο = _
                rw [o5, R4.oE, o']
              · show upd p5.H D _ a = _
                rw [upd_ne fun z => by subst z; exact Dο ha, e5, R4.oK a (by rw [R4.oE, o']; exact List.mem_cons_of_mem _ ha)]
                exact kο a ha
            have hacc : ∀ (q4 : Pt) (mh4 : MH), Rel ⟨X.K, cn⟩ q' q4 σ1 mh4 σ' → q4.H D = some (.lst accV) ∧ RVs ⟨X.K, cn⟩ q4 acc accV := fun q4 mh4 R4 => ⟨by rw [R4.oK D (by rw [R4.oE, o']; exact List.mem_cons_self)]; exact hDa, ra.ext R4.ext⟩
            cases rc : mc σ1 h1 with
            | bad => rw [rc] at k'; exact k'.elim
            | exc c f h2 => rw [rc] at k'; exact k'.elim
            | ok b h2 =>
              rw [rc] at k'
              intro q3 b' R3 x3 eb
              cases eb
              simp only at k'
              cases b with
              | false =>
                rw [if_neg Bool.false_ne_true] at k'
                refine iteF ?_
                obtain ⟨b1, b2⟩ := hacc q3 h2 R3
                obtain ⟨q5, e5, I5⟩ := back q3 h2 acc accV R3 b2
                refine ⟨q5, h2, acc, accV, ?_, I5, hl, k'⟩
                rw [e5]
                funext z
                by_cases hz : z = D
                · rw [hz, upd_same, b1]
                · rw [upd_ne hz]
              | true =>
                rw [if_pos rfl] at k'
                refine iteT ⟨q', q3, σ1, h2, rfl, R3, ?_⟩
                cases rm : m σ1 h2 with
                | bad => rw [rm] at k'; exact k'.elim
                | exc c f h3 => rw [rm] at k'; exact k'.elim
                | ok w h3 =>
                  rw [rm] at k'
                  intro q4 yv R4 x4 ry
                  simp only at k'
                  by_cases hz : acc.length < 16777216
                  · rw [if_pos hz] at k'
                    obtain ⟨b1, b2⟩ := hacc q4 h3 R4
                    have ry' : RV ⟨X.K, cn⟩ q4 w yv := ry
                    obtain ⟨q5, e5, I5⟩ := back q4 h3 (acc ++ [w]) (accV ++ [yv]) R4 (b2.append (.cons ry' .nil))
                    exact ⟨accV, b1, by rw [b2.length, sizeLine_eq]; exact hz, q5, h3, _, _, e5, I5, hl, k'⟩
                  · rw [if_neg hz] at k'; exact k'.elim
          · rw [et] at k'; exact k'.elim
        · have e3 : i = l.length := by omega
          subst e3
          refine .inl ⟨ok.stop q' x', ?_⟩
          rw [List.drop_length] at k'
          unfold lcL at k'
          simp only at k'
          -- the outer point
          have hup : upd (fun b => if b = D then none else q'.H b) D (.lst accV) = q'.H := by
            funext z
            by_cases hz : z = D
            · rw [hz, upd_same, hDa]
            · rw [upd_ne hz, if_neg hz]
          have FD : q'.F D := .inr (.inr (by rw [o']; exact List.mem_cons_self))
          have ωeq : q'.ω = q.ω := by
            apply List.ext_getElem?
            intro j
            by_cases hj : j < σm.length
            · have hj' : j < (wipeM σm vs).length := by rw [wipeM_length]; exact hj
              by_cases hv : j ∈ vs
              · have s1 := R'.slot j _ (wipeM_in hv hj)
                have s2 : q.ω[j]? = some none := by
                  cases hs : σm[j]? with
                  | none => exact absurd (List.getElem?_eq_none_iff.mp hs) (by omega)
                  | some s =>
                    have s3 := Rq.slot j s hs
                    cases s with
                    | unset => exact s3
                    | val v => exact s3.1
                    | own l' => exact absurd hs ((hvs j hv).2 l')
                exact (show q'.ω[j]? = some none from s1).trans s2.symm
              · cases hs : σm[j]? with
                | none => exact absurd (List.getElem?_eq_none_iff.mp hs) (by omega)
                | some s =>
                  have s1 := R'.slot j s (by rw [wipeM_get hv]; exact hs)
                  have s2 := Rq.slot j s hs
                  cases s with
                  | unset => exact (show q'.ω[j]? = some none from s1).trans (show q.ω[j]? = some none from s2).symm
                  | val v => exact s1.1.trans s2.1.symm
                  | own l' =>
                    obtain ⟨a1, _, b1, b2, _⟩ := s1
                    obtain ⟨a2, _, c1, c2, _⟩ := s2
                    rw [wipe_get hv, c2] at b2
                    cases b2
                    exact b1.trans c1.symm
            · rw [List.getElem?_eq_none (by rw [R'.lω, wipeM_length]; omega), List.getElem?_eq_none (by rw [Rq.lω]; omega)]
          have x2 : Ext q' { ι := q'.ι, ω := q'.ω, ο := q.ο, H := fun b => if b = D then none else q'.H b } := by
            refine ⟨fun _ _ h => .inl h, fun a o ha hf => ?_, fun a f => .inl ?_⟩
            · show (if a = D then none else q'.H a) = some o
              rw [if_neg fun z => hf (by rw [z]; exact FD)]; exact ha
            · rcases f with f | f | f
              · exact .inl f
              · exact .inr (.inl f)
              · exact .inr (.inr (by rw [o']; exact List.mem_cons_of_mem _ f))
          have nD : ∀ a, a ≠ D → (if a = D then none else q'.H a) = q'.H a := fun a h => if_neg h
          have ιD : ∀ (n : Nat) (a : Addr), q'.ι[n]? = some (some a) → a ≠ D := fun n a e z => R'.h.sep.io n a e (by rw [z, o']; exact List.mem_cons_self)
          have ωD : ∀ (n : Nat) (a : Addr), q'.ω[n]? = some (some a) → a ≠ D := fun n a e z => R'.h.sep.wo n a e (by rw [z, o']; exact List.mem_cons_self)
          have Rr : Rel ⟨X.K, cn⟩ E { ι := q'.ι, ω := q'.ω, ο := q.ο, H := fun b => if b = D then none else q'.H b } σm mh' σ := by
            refine ⟨⟨R'.h.li, fun n u e => ?_, ⟨R'.h.sep.ii, R'.h.sep.ww, R'.h.sep.iw, fun n a e z => ?_, fun n a e z => ?_⟩, fun a f => ?_⟩, Rq.lσ, by rw [ωeq]; exact Rq.lω, fun j s hs => ?_, (Rq.ext.trans x').trans x2, Rq.oE, fun a ha => ?_⟩
            · rcases R'.h.obj n u e with z | ⟨a, e1, ro⟩
              · exact .inl z
              · exact .inr ⟨a, e1, ro.ext x2 (nD a (ιD n a e1))⟩
            · exact R'.h.sep.io n a e (by rw [o']; exact List.mem_cons_of_mem _ z)
            · exact R'.h.sep.wo n a e (by rw [o']; exact List.mem_cons_of_mem _ z)
            · show (if a = D then none else q'.H a) ≠ none
              rcases f with f | f | f
              · obtain ⟨n, hn⟩ := List.getElem?_of_mem f
                rw [nD a (ιD n a hn)]; exact R'.h.hF a (.inl f)
              · obtain ⟨n, hn⟩ := List.getElem?_of_mem f
                rw [nD a (ωD n a hn)]; exact R'.h.hF a (.inr (.inl f))
              · rw [nD a fun z => Dο (by rw [← z]; exact f)]; exact R'.h.hF a (.inr (.inr (by rw [o']; exact List.mem_cons_of_mem _ f)))
            · by_cases hv : j ∈ vs
              · have s2 := Rq.slot j s hs
                cases s with
                | unset =>
                  show q'.ω[j]? = some none
                  rw [ωeq]; exact s2
                | val v =>
                  obtain ⟨c1, z, c2, c3⟩ := s2
                  exact ⟨by show q'.ω[j]? = some none; rw [ωeq]; exact c1, z, c2, c3.ext (x'.trans x2)⟩
                | own l' => exact absurd hs ((hvs j hv).2 l')
              · have s1 := R'.slot j s (by rw [wipeM_get hv]; exact hs)
                cases s with
                | unset => exact s1
                | val v =>
                  obtain ⟨c1, z, c2, c3⟩ := s1
                  rw [wipe_get hv] at c2
                  exact ⟨c1, z, c2, c3.ext x2⟩
                | own l' =>
                  obtain ⟨a, us, c1, c2, c3, c4⟩ := s1
                  rw [wipe_get hv] at c2
                  exact ⟨a, us, c1, c2, (nD a (ωD j a c1)).trans c3, c4.ext x2⟩
            · show (if a = D then none else q'.H a) = E.H a
              rw [nD a fun z => Dο (by rw [← z]; exact ha), kο a ha]
              exact Rq.oK a ha
          have := k' _ D accV Rr (x'.trans x2) (if_pos rfl) (ra.ext x2)
          rw [← hup]
          exact this
    · rw [if_neg hok] at k; exact k.elim

variable {elt : Expr} {ifs : List Expr} {scope : Scope} {own : List (Str × Nat)}
def TsM (X : Cx) (cn : String → Addr) (W : WX) (ifs : List Expr) (m : ME Bool) : Prop := PTs X ifs (tG RB ⟨X.K, cn⟩ W m)
theorem ts_nil : TsM X cn W [] mYes := ⟨fun pins s σ H Q I ⟨E, p, σm, mh, e1, R, k⟩ => pts_nil.run pins s σ H Q I (by subst e1; exact k p true R (Ext.refl p) rfl)⟩
theorem ts_one {m : ME Bool} (h : TM X cn W c m) : TsM X cn W [c] m := pts_one h
theorem f_lc {t : Tg} {mi : ME (List Val)} {mc : ME Bool} {m : ME Val} (hc : X.calm = true) (hN : X.N.Nodup) (hi : IM X cn W tg iter mi) (ok : BlkOk X.N X.env.scope scope own) (hin : tgIn (own.map (·.2)) t = true)
    (hg : ∀ (s : Shared) (H : Hp) (C : Addr) (cl : List (Str × Addr)) (fp : List Addr), TgP (X.blk s H scope (compEnvC scope cl C X.env) fp) tg t)
    (ht : ∀ (s : Shared) (H : Hp) (C : Addr) (cl : List (Str × Addr)) (fp : List Addr), TsM (X.blk s H scope (compEnvC scope cl C X.env) fp) cn W0 ifs mc)
    (he : ∀ (s : Shared) (H : Hp) (C : Addr) (cl : List (Str × Addr)) (fp : List Addr), EM (X.blk s H scope (compEnvC scope cl C X.env) fp) cn W0 elt m) (hs : ∀ x, foldedSetIterable iter X.env x = pure x := by intro _; rfl) :
    EF X cn W (.ListComp elt [⟨tg, iter, ifs, 0⟩] scope pos) (mLc (own.map (·.2)) mi t mc m) := PE.wk (pe_lc (g := tgR X.K t) (tt := tG RB ⟨X.K, cn⟩ W0 mc) (te := tG RVr ⟨X.K, cn⟩ W0 m) hc hN hi ok hg ht he hs) fun σ H Q h => tLc_of hin h
/-- name = [..], the name a local: as a value, as its own -/
theorem s_setLc (i : Nat) {y : Str} {py spos : Pos} {t : Tg} {mi : ME (List Val)} {mc : ME Bool} {m : ME Val} (hc : X.calm = true) (hN : X.N.Nodup) (hy : X.N[i]? = some y) (hyl : X.env.scope.names.lookup y = some .local)
    (hsw : swapsWith (.ListComp elt [⟨tg, iter, ifs, 0⟩] scope pos) (some (.Name y py)) spos.line X.env = pure true) (hi : IM X cn W tg iter mi) (ok : BlkOk X.N X.env.scope scope own) (hin : tgIn (own.map (·.2)) t = true)
    (hg : ∀ (s : Shared) (H : Hp) (C : Addr) (cl : List (Str × Addr)) (fp : List Addr), TgP (X.blk s H scope (compEnvC scope cl C X.env) fp) tg t)
    (ht : ∀ (s : Shared) (H : Hp) (C : Addr) (cl : List (Str × Addr)) (fp : List Addr), TsM (X.blk s H scope (compEnvC scope cl C X.env) fp) cn W0 ifs mc)
    (he : ∀ (s : Shared) (H : Hp) (C : Addr) (cl : List (Str × Addr)) (fp : List Addr), EM (X.blk s H scope (compEnvC scope cl C X.env) fp) cn W0 elt m) (hs : ∀ x, foldedSetIterable iter X.env x = pure x := by intro _; rfl) :
    SM X cn W (.Assign [.Name y py] (.ListComp elt [⟨tg, iter, ifs, 0⟩] scope pos) spos) (sSet i (mMap Val.lst (mLc (own.map (·.2)) mi t mc m))) := PS.wk (ps_setLc (g := tgR X.K t) (tt := tG RB ⟨X.K, cn⟩ W0 mc) (te := tG RVr ⟨X.K, cn⟩ W0 m) hc hN hy hyl hsw hi ok hg ht he hs) fun D σ H ⟨E, p, σm, mh, e1, R, k⟩ => by
  refine tLc_of (W := W) hin ⟨E, p, σm, mh, e1, R, ?_⟩
  unfold sSet mMap at k
  cases r : mLc (own.map (·.2)) mi t mc m σm mh with
  | ok l h =>
    rw [r] at k
    intro q a vs R1 x1 hn rv
    simp only [Res.bind, ofE] at k
    by_cases z : i < σm.length
    · rw [if_pos z] at k
      exact k ((q.up a (.lst vs)).un i) _ ((R1.up hn).setV z (rv_lst R1.h hn rv)) ((x1.trans (ext_up hn)).trans ext_un)
    · rw [if_neg z] at k; exact k.elim
  | exc c f h => rw [r] at k; exact fun q cls d R1 x1 rx => k q σ cls d R1 x1 rx
  | bad => rw [r] at k; exact k
theorem s_setLcO (i : Nat) {y : Str} {py spos : Pos} {t : Tg} {mi : ME (List Val)} {mc : ME Bool} {m : ME Val} (hc : X.calm = true) (hN : X.N.Nodup) (hy : X.N[i]? = some y) (hyl : X.env.scope.names.lookup y = some .local)
    (hsw : swapsWith (.ListComp elt [⟨tg, iter, ifs, 0⟩] scope pos) (some (.Name y py)) spos.line X.env = pure true) (hi : IM X cn W tg iter mi) (ok : BlkOk X.N X.env.scope scope own) (hin : tgIn (own.map (·.2)) t = true)
    (hg : ∀ (s : Shared) (H : Hp) (C : Addr) (cl : List (Str × Addr)) (fp : List Addr), TgP (X.blk s H scope (compEnvC scope cl C X.env) fp) tg t)
    (ht : ∀ (s : Shared) (H : Hp) (C : Addr) (cl : List (Str × Addr)) (fp : List Addr), TsM (X.blk s H scope (compEnvC scope cl C X.env) fp) cn W0 ifs mc)
    (he : ∀ (s : Shared) (H : Hp) (C : Addr) (cl : List (Str × Addr)) (fp : List Addr), EM (X.blk s H scope (compEnvC scope cl C X.env) fp) cn W0 elt m) (hs : ∀ x, foldedSetIterable iter X.env x = pure x := by intro _; rfl) :
    SM X cn W (.Assign [.Name y py] (.ListComp elt [⟨tg, iter, ifs, 0⟩] scope pos) spos) (sSetO i (mLc (own.map (·.2)) mi t mc m)) := PS.wk (ps_setLc (g := tgR X.K t) (tt := tG RB ⟨X.K, cn⟩ W0 mc) (te := tG RVr ⟨X.K, cn⟩ W0 m) hc hN hy hyl hsw hi ok hg ht he hs) fun D σ H h => tLc_of hin (tFr_ow h)
end
end Mi
/-! Mi9: enumerate and zip over lists, tuples and texts of any mix. -/
namespace Mi
open PySem L2 PyProof.Rows
open Sem (wp)

/-- what an iterator may stand over -/
inductive Sc where | lst (a : Addr) | tup (a : Addr) | str (x : Str) (t : Tok)
def Sc.it : Sc → Addr → Nat → Heap → Prop
  | .lst a, i, n, h => h.IsListIter i a n
  | .tup a, i, n, h => h.IsTupleIter i a n
  | .str x t, i, n, h => h.IsStrIter i (strIterType x) x t n
def chs (x : Str) : List V := x.cps.toList.map fun c => .str ⟨#[c]⟩
def Sc.vs (K : PySem.W.Frag) : Sc → Hp → List V → Prop
  | .lst a, H, xs => SqL K H a xs
  | .tup a, H, xs => SqT K H a xs
  | .str x _, _, xs => xs = chs x
def Sc.val : Sc → Value
  | .lst a => .ref a
  | .tup a => .ref a
  | .str x t => .str x t
def Sc.obj : Sc → Obj
  | .lst a => ⟨.type "list_iterator", none, .fields #[.ref a, .int 0 0], #[]⟩
  | .tup a => ⟨.type "tuple_iterator", none, .fields #[.ref a, .int 0 0], #[]⟩
  | .str x t => ⟨.type (strIterType x), none, .fields #[.str x t, .int 0 0], #[]⟩
def Sc.fx : Sc → List Addr
  | .lst a => [a]
  | .tup a => [a]
  | .str _ _ => []
theorem Sc.it_new {sc : Sc} {it : Addr} {h : Heap} (e : h.get? it = some sc.obj) : sc.it it 0 h := by
  cases sc <;> exact ⟨_, e, rfl, rfl⟩
theorem Sc.it_live {sc : Sc} {it : Addr} {n : Nat} {h : Heap} (e : sc.it it n h) : ∃ o, h.get? it = some o ∧ ∀ v, o.data ≠ .cell v := by
  cases sc <;> (obtain ⟨o, e1, _, d⟩ := e; exact ⟨o, e1, fun v z => by rw [d] at z; cases z⟩)
theorem Sc.it_at {sc : Sc} {it : Addr} {n : Nat} {h h' : Heap} (e : sc.it it n h) (k : ∀ o, h.get? it = some o → h'.get? it = some o) : sc.it it n h' := by
  cases sc <;> (obtain ⟨o, e1, r⟩ := e; exact ⟨o, k o e1, r⟩)
theorem chs_len (x : Str) : (chs x).length = x.cps.size := by unfold chs; simp
section
variable {X : Cx} {pins : List (Addr × Obj)} {σ : L2.St} {H : Hp} {s : Shared}
theorem Sc.inj {sc : Sc} (I : Inv X pins σ H s) {xs ys : List V} (h : sc.vs X.K H xs) (h' : sc.vs X.K H ys) : ys = xs := by
  cases sc with
  | lst a => exact I.list_inj h' h
  | tup a => exact I.tuple_inj h' h
  | str x t => exact h'.trans h.symm
theorem Sc.fx_cls {sc : Sc} (I : Inv X pins σ H s) {xs : List V} (h : sc.vs X.K H xs) : ∀ b ∈ sc.fx, ∃ o, s.heap.get? b = some o ∧ (o.cls = .type "list" ∨ o.cls = .type "tuple") := by
  cases sc with
  | lst a =>
    intro b hb
    have : b = a := by simpa [Sc.fx] using hb
    subst this
    obtain ⟨its, rv, p, _⟩ := I.list h
    obtain ⟨o, e, c, _⟩ := p.isList
    exact ⟨o, e, .inl c⟩
  | tup a =>
    intro b hb
    have : b = a := by simpa [Sc.fx] using hb
    subst this
    obtain ⟨its, rv, p, _⟩ := I.tuple h
    obtain ⟨o, e, c, _⟩ := show s.heap.IsTuple b its.toArray from p
    exact ⟨o, e, .inr c⟩
  | str x t => intro b hb; cases hb
theorem Sc.it_out {sc : Sc} {it : Addr} {n : Nat} (I : Inv X pins σ H s) {xs : List V} (h : sc.vs X.K H xs) {sd : Sc} (e : sd.it it n s.heap) : it ∉ sc.fx := fun hb => by
  obtain ⟨o, e1, c⟩ := Sc.fx_cls I h it hb
  cases sd with
  | lst a => obtain ⟨o', e2, c2, _⟩ := e; rw [e1] at e2; cases e2; rw [c2] at c; rcases c with c | c <;> exact absurd c (by simp)
  | tup a => obtain ⟨o', e2, c2, _⟩ := e; rw [e1] at e2; cases e2; rw [c2] at c; rcases c with c | c <;> exact absurd c (by simp)
  | str x t =>
    obtain ⟨o', e2, c2, _⟩ := e; rw [e1] at e2; cases e2; rw [c2] at c
    unfold strIterType at c
    rcases c with c | c <;> (split at c <;> exact absurd c (by simp))
theorem Sc.enum_out {sc : Sc} {e it : Addr} {k : Int} {old : Value} (I : Inv X pins σ H s) {xs : List V} (h : sc.vs X.K H xs) (he : IsEnum s.heap e it k old) : e ∉ sc.fx := fun hb => by
  obtain ⟨o, e1, c⟩ := Sc.fx_cls I h e hb
  rw [show s.heap.get? e = some _ from he] at e1
  cases e1
  rcases c with c | c <;> exact absurd c (by simp)
theorem Sc.fx_lt {sc : Sc} (I : Inv X pins σ H s) {xs : List V} (h : sc.vs X.K H xs) : ∀ b ∈ sc.fx, b < s.heap.objs.size := by
  cases sc with
  | lst a =>
    intro b hb
    have : b = a := by simpa [Sc.fx] using hb
    subst this
    obtain ⟨its, rv, p, _⟩ := I.list h
    exact p.lt
  | tup a =>
    intro b hb
    have : b = a := by simpa [Sc.fx] using hb
    subst this
    obtain ⟨its, rv, p, _⟩ := I.tuple h
    obtain ⟨o, e, _⟩ := show s.heap.IsTuple b its.toArray from p
    exact Heap.lt_size e
  | str x t => intro b hb; cases hb
theorem Sc.draws {sc : Sc} (I : Inv X pins σ H s) (hc : X.calm = true) {xs : List V} (h : sc.vs X.K H xs) (it : Addr) (hne : it ∉ sc.fx) :
    ∃ (Y : Nat → Value → Prop) (St : Nat → Heap → Prop), Draws X.prog X.w X.A.in1 it (it :: sc.fx) xs.length Y St ∧ (∀ j, sc.it it j s.heap → St j s.heap) ∧ (∀ j h', St j h' → sc.it it j h') ∧ ∀ j u, Y j u → ∃ v, xs[j]? = some v ∧ RelV v u := by
  have hh : X.A.in1.handled = none := I.ok.hd hc
  cases sc with
  | lst a =>
    obtain ⟨its, rv, p, _⟩ := I.list h
    have hl : its.toArray.size = xs.length := by rw [rv.length]; rfl
    rw [← hl]
    refine ⟨_, _, Draws.list hh it a (fun z => hne (by rw [← z]; exact List.mem_singleton.mpr rfl)) its.toArray, fun j st => ⟨st, p.isList⟩, fun j h' st => st.1, fun j u e => ?_⟩
    have e' : its[j]? = some u := by simpa using e
    have hj : j < xs.length := by
      have := (List.getElem?_eq_some_iff.mp e').1
      rw [rv.length]; exact this
    obtain ⟨w, hw, rw'⟩ := rv.get (List.getElem?_eq_getElem hj)
    rw [e'] at hw; cases hw
    exact ⟨_, List.getElem?_eq_getElem hj, rw'⟩
  | tup a =>
    obtain ⟨its, rv, p, _⟩ := I.tuple h
    have hl : its.toArray.size = xs.length := by rw [rv.length]; rfl
    rw [← hl]
    refine ⟨_, _, Draws.tuple hh it a (fun z => hne (by rw [← z]; exact List.mem_singleton.mpr rfl)) its.toArray, fun j st => ⟨st, p⟩, fun j h' st => st.1, fun j u e => ?_⟩
    have e' : its[j]? = some u := by simpa using e
    have hj : j < xs.length := by
      have := (List.getElem?_eq_some_iff.mp e').1
      rw [rv.length]; exact this
    obtain ⟨w, hw, rw'⟩ := rv.get (List.getElem?_eq_getElem hj)
    rw [e'] at hw; cases hw
    exact ⟨_, List.getElem?_eq_getElem hj, rw'⟩
  | str x t =>
    have hl : xs.length = x.cps.size := by rw [show xs = chs x from h, chs_len]
    rw [hl]
    refine ⟨_, _, Draws.text hh it x t, fun j st => st, fun j h' st => st, fun j u ⟨c, tk, hc', e⟩ => ?_⟩
    rw [show xs = chs x from h]
    refine ⟨.str ⟨#[c]⟩, ?_, ⟨tk, e⟩⟩
    unfold chs
    rw [List.getElem?_map]
    have : x.cps.toList[j]? = some c := by simpa using hc'
    rw [this]; rfl
theorem Sc.begins {sc : Sc} (I : Inv X pins σ H s) {xs : List V} (h : sc.vs X.K H xs) : ∃ Hb, Begins sc.val sc.obj Hb ∧ Hb s.heap := by
  cases sc with
  | lst a => obtain ⟨its, rv, p, _⟩ := I.list h; exact ⟨_, begins_list a its.toArray, p.isList⟩
  | tup a => obtain ⟨its, rv, p, _⟩ := I.tuple h; exact ⟨_, begins_tuple a its.toArray, p⟩
  | str x t => exact ⟨_, begins_text x t, trivial⟩
end

/-! ### enumerate -/
def ItE (K : PySem.W.Frag) (sc : Sc) : It :=
  ⟨fun i H => ∃ xs : List V, ∃ x, sc.vs K H xs ∧ xs[i]? = some x, fun i H v H' => ∃ T x, v = .ref T ∧ H T = none ∧ H' = upd H T (.tup [.int (i : Nat), x]) ∧ ∀ xs, sc.vs K H xs → xs[i]? = some x, fun i H => ∃ xs : List V, sc.vs K H xs ∧ xs.length = i⟩
theorem turnE {P : Program} {w : World} {K : PySem.W.Frag} {elts : List Expr} {kk : Nat} {tpos : Pos} (sc : Sc) (e it : Addr) (hne : e ≠ it) :
    Turn P w K (.Tuple elts kk tpos) (ItE K sc) [e, it] e (fun i h => (∃ old, IsEnum h e it ((i : Nat) : Int) old) ∧ sc.it it i h) where
  mem := List.mem_cons_self
  obj := fun i h st b hb => by
    rcases List.mem_cons.mp hb with z | z
    · obtain ⟨old, he⟩ := st.1
      exact z ▸ ⟨_, he, fun v q => nomatch q⟩
    · exact List.mem_singleton.mp z ▸ Sc.it_live st.2
  keep := fun i h h' st k => ⟨st.1.imp fun old he => k e List.mem_cons_self _ he, Sc.it_at st.2 fun o q => k it (List.mem_cons_of_mem _ List.mem_cons_self) o q⟩
  item := by
    intro X hP hw hK hc i pins s σ H E I hf ⟨⟨old, he⟩, hit⟩ ⟨xs, x, hq, hx⟩
    subst hP hw hK
    obtain ⟨Y, St, D, hin, hout, hy⟩ := Sc.draws I hc hq it (Sc.it_out I hq hit)
    have hlt : i < xs.length := (List.getElem?_eq_some_iff.mp hx).1
    refine wpAny_pyNext_enum_itemD D he (hin i hit) hlt hne (fun z => ?_) fun u h' tk hu ho st' hT hsz hk => ⟨_, rfl, wpAny_letOwnedTupleGo_enum (s := { s with heap := h', toks := tk + 1 }) ho fun h2 he2 sb => ?_⟩
    · rcases List.mem_cons.mp z with z | z
      · exact hne z
      · exact Sc.enum_out I hq he z
    obtain ⟨v, hv, ru⟩ := hy i u hu
    have hvx : v = x := Option.some.inj (hv.symm.trans hx)
    subst hvx
    have hel : e < s.heap.objs.size := Heap.lt_size he
    have hil : it < s.heap.objs.size := by obtain ⟨o, q, _⟩ := Sc.it_live hit; exact Heap.lt_size q
    have big : ∀ b ∈ [e, it], b < s.heap.objs.size := fun b hb => by
      rcases List.mem_cons.mp hb with z | z
      · rw [z]; exact hel
      · rw [List.mem_singleton.mp z]; exact hil
    have ob : ObjOk X.prog X.w (upd H s.heap.objs.size (.tup [.int (i : Nat), v])) h2 s.heap.objs.size (.tup [.int (i : Nat), v]) :=
      ⟨(by decide : 2 ≤ sizeLine), [.int i tk, u], .cons ⟨_, rfl⟩ (.cons ru .nil), _, (sb.2 _ (Nat.ne_of_gt hel)).trans hT, rfl, _, rfl⟩
    have I1 : Inv X pins σ (upd H s.heap.objs.size (.tup [.int (i : Nat), v])) { s with heap := h2, toks := tk + 1 } :=
      I.turnedNew (ch := [e, it]) (fun b o hb q => (sb.2 b (fun z => hb (by simp [z]))).trans (hk b o (fun z => hb (by simp [z])) (fun z => hb (by simp [z])) q)) hf (Nat.le_refl _) ob
    refine ⟨.ref s.heap.objs.size, _, I1, rfl, ⟨_, v, rfl, I.hok.fresh (Nat.le_refl _), rfl, fun ys hy => by rw [Sc.inj I hq hy]; exact hx⟩, ⟨⟨u, ?_⟩, Sc.it_at (hout _ _ st') fun o q => (sb.2 it (Ne.symm hne)).trans q⟩, fun b hb => ?_⟩
    · rw [Int.natCast_add]; exact he2
    · rw [upd_ne (Nat.ne_of_lt (big b hb))]; exact (hf b hb).1
  done := by
    intro X hP hw hK hc i pins s σ H E I hf ⟨⟨old, he⟩, hit⟩ ⟨xs, hq, hx⟩
    subst hP hw hK
    obtain ⟨Y, St, D, hin, _, _⟩ := Sc.draws I hc hq it (Sc.it_out I hq hit)
    obtain ⟨f0, f1, f2, f3, f4, f5⟩ := hf it (by simp)
    subst hx
    exact wpAny_pyNext_enum_endD D he (hin _ hit) fun h' eb => ⟨rfl, I.turned (t' := s.toks) (fun b o hb q => eb b o hb q) f0 f1 f3 f4 f5⟩
  self := fun A i s Q E st h => st.1.elim fun _ he => wpAny_pyIter_enum he h

set_option maxHeartbeats 1000000 in
theorem newE {v : Value} {o : Obj} {Hb : Heap → Prop} (B : Begins v o Hb) :
    Meets (Builtin.«enumerate.__new__» ⟨[.type "enumerate", v], []⟩) (fun _ R s => Hb s.heap ∧
      R (.ok (.ret (.ref (s.heap.push o).objs.size))) { s with heap := (s.heap.push o).push ⟨.type "enumerate", none, .fields #[.none, .bool false, .ref s.heap.objs.size, rawInt 0, .none, .none], #[]⟩ }) :=
  .of_wp fun P w A R s h => by
    obtain ⟨hp, g, d, tk, os⟩ := s
    obtain ⟨h1, h⟩ := h
    have hsub := sub_enumerate
    have q1 : ∀ {A' : Around} {E : Value → Shared → Prop} {Q : Value → Shared → Prop}, Q (.ref hp.objs.size) ⟨hp.push o, g, d, tk, os⟩ → wpAny (model P w) A' (pyIter v) Q E ⟨hp, g, d, tk, os⟩ :=
      fun {A' E Q} q => B.iter P w A' E ⟨hp, g, d, tk, os⟩ Q h1 q
    wp_walk using q1
    refine wpAny_stack_any fun st => wpAny_pure ?_
    split
    · rename_i c _ _ _ _ _
      cases (c == Value.type "enumerate") <;> (wp_walk using q1; exact ⟨_, rfl, h⟩)
    · wp_walk using q1
      exact ⟨_, rfl, h⟩
theorem callE {P : Program} {w : World} {A : Around} {E : Value → Shared → Prop} {s : Shared} {v : Value} {o : Obj} {Hb : Heap → Prop} {Q : Value → Shared → Prop} (B : Begins v o Hb) (h1 : Hb s.heap)
    (h : ∀ h', IsEnum h' (s.heap.objs.size + 1) s.heap.objs.size 0 .none → h'.get? s.heap.objs.size = some o → (∀ b ob, s.heap.get? b = some ob → h'.get? b = some ob) → Q (.ref (s.heap.objs.size + 1)) { s with heap := h' }) :
    wpAny (model P w) A (call (.type "enumerate") [v]) Q E s := by
  refine callType_new F.called_enumerate (by decide) (F.typeCall_enumerate_1 _) (F.newCall_enumerate_1 _) (fun obj => F.args_object_init_2 obj _) F.entry_enumerate_new (newE B) ⟨h1, ?_⟩
  have hz : (s.heap.push o).objs.size = s.heap.objs.size + 1 := Heap.size_push ..
  show _ ∧ _
  rw [hz]
  have he : IsEnum ((s.heap.push o).push ⟨.type "enumerate", none, .fields #[.none, .bool false, .ref s.heap.objs.size, rawInt 0, .none, .none], #[]⟩) (s.heap.objs.size + 1) s.heap.objs.size 0 .none := by
    have z := Heap.get?_push_size (s.heap.push o) (o := ⟨.type "enumerate", none, .fields #[.none, .bool false, .ref s.heap.objs.size, rawInt 0, .none, .none], #[]⟩) rfl
    rwa [hz] at z
  exact ⟨⟨_, he, rfl⟩, h _ he (Heap.get?_push_of_some _ (Heap.get?_push_size _ B.free)) fun b ob x => Heap.get?_push_of_some _ (Heap.get?_push_of_some _ x)⟩

/-- a source of values, at an evaluated value -/
def ScV (K : PySem.W.Frag) (H : Hp) (x : V) (J : Sc → Prop) : Prop := (∃ a xs, x = .ref a ∧ SqL K H a xs ∧ J (.lst a)) ∨ (∃ a xs, x = .ref a ∧ SqT K H a xs ∧ J (.tup a)) ∨ ∃ y, x = .str y ∧ ∀ t, J (.str y t)
theorem ScV.go {K : PySem.W.Frag} {H : Hp} {x : V} {J : Sc → Prop} {u : Value} (h : ScV K H x J) (r : RelV x u) : ∃ sc xs, sc.val = u ∧ sc.vs K H xs ∧ J sc := by
  rcases h with ⟨a, xs, rfl, hq, j⟩ | ⟨a, xs, rfl, hq, j⟩ | ⟨y, rfl, j⟩
  · cases r; exact ⟨.lst a, xs, rfl, hq, j⟩
  · cases r; exact ⟨.tup a, xs, rfl, hq, j⟩
  · obtain ⟨t, rfl⟩ := r; exact ⟨.str y t, _, rfl, rfl, j t⟩
def iE (K : PySem.W.Frag) (ta : TA) : TI := fun σ H R => ta σ H fun vs H1 => ∃ x, vs = [x] ∧ ScV K H1 x fun sc => R (ItE K sc) H1
theorem pi_E {X : Cx} {e : Expr} {ta : TA} {p pos tpos : Pos} {elts : List Expr} {kk : Nat} (hg : Gl X "enumerate") (hm : X.mg "enumerate" = none) (ha : PA X [e] ta) (hs : starEach [e] X.env = [(false, eval e X.env)] := by rfl) :
    PI X (.Tuple elts kk tpos) (.Call (.Name "enumerate" p) [e] [] pos) (iE X.K ta) := by
  refine ⟨fun pins s σ H R I h => Call_ (ld_blt I hg hm boot_enumerate (PyProof.Rows.callWith_type1 (thn (ha.run pos pins s σ H _ I h) fun us s1 ⟨vs, H1, I1, r1, x, ex, q⟩ => ?_) hs rfl))⟩
  subst ex
  cases r1 with
  | cons r rr =>
    cases rr
    obtain ⟨sc, xs, rfl, hq, j⟩ := q.go r
    obtain ⟨Hb, B, hb⟩ := Sc.begins I1 hq
    refine callE B hb fun h' he hit hk => wpAny_pyIter_enum he ?_
    refine ⟨s1.heap.objs.size + 1, [s1.heap.objs.size + 1, s1.heap.objs.size], _, _, H1, rfl, I1.kept (t' := s1.toks) hk, turnE sc (s1.heap.objs.size + 1) s1.heap.objs.size (Nat.succ_ne_self _), ⟨⟨.none, he⟩, Sc.it_new hit⟩, fun b hb => ?_, j⟩
    have hle : s1.heap.objs.size ≤ b := by
      rcases List.mem_cons.mp hb with z | z
      · rw [z]; exact Nat.le_succ _
      · rw [List.mem_singleton.mp z]; exact Nat.le_refl _
    exact I1.fpOk hle (I1.hok.fresh hle)

/-! ### zip -/
def ItZ (K : PySem.W.Frag) (c d : Sc) : It :=
  ⟨fun i H => ∃ (xs ys : List V) (x y : V), c.vs K H xs ∧ d.vs K H ys ∧ xs[i]? = some x ∧ ys[i]? = some y,
    fun i H v H' => ∃ T x y, v = .ref T ∧ H T = none ∧ H' = upd H T (.tup [x, y]) ∧ (∀ xs, c.vs K H xs → xs[i]? = some x) ∧ ∀ ys, d.vs K H ys → ys[i]? = some y,
    fun i H => ∃ xs ys : List V, c.vs K H xs ∧ d.vs K H ys ∧ i = min xs.length ys.length⟩
theorem turnZ {P : Program} {w : World} {K : PySem.W.Frag} {elts : List Expr} {kk : Nat} {tpos : Pos} (c d : Sc) (N : Addr) :
    Turn P w K (.Tuple elts kk tpos) (ItZ K c d) [N + 4, N + 2, N + 3, N, N + 1] (N + 4) (fun i h => IsZip h (N + 4) (N + 2) (N + 3) .none ∧ IsTupOf2 h (N + 2) (.ref N) (.ref (N + 1)) ∧ (∃ x y, IsTupOf2 h (N + 3) x y) ∧ c.it N i h ∧ d.it (N + 1) i h ∧ (∀ b ∈ c.fx, b < N) ∧ ∀ b ∈ d.fx, b < N) where
  mem := List.mem_cons_self
  obj := fun i h st b hb => by
    obtain ⟨hz, hTI, ⟨x, y, hTO⟩, h1, h2, _⟩ := st
    simp only [List.mem_cons, List.not_mem_nil, or_false] at hb
    rcases hb with q | q | q | q | q
    · exact q ▸ ⟨_, hz, fun v z => nomatch z⟩
    · exact q ▸ ⟨_, hTI, fun v z => nomatch z⟩
    · exact q ▸ ⟨_, hTO, fun v z => nomatch z⟩
    · exact q ▸ Sc.it_live h1
    · exact q ▸ Sc.it_live h2
  keep := fun i h h' ⟨hz, hTI, ⟨x, y, hTO⟩, h1, h2, l⟩ k =>
    ⟨k _ (by simp) _ hz, k _ (by simp) _ hTI, ⟨x, y, k _ (by simp) _ hTO⟩, Sc.it_at h1 fun o q => k _ (by simp) o q, Sc.it_at h2 fun o q => k _ (by simp) o q, l⟩
  item := by
    intro X hP hw hK hc i pins s σ H E I hf ⟨hz, hTI, ⟨x0, y0, hTO⟩, h1, h2, l1, l2⟩ ⟨xs, ys, x, y, hq1, hq2, hx, hy⟩
    subst hP hw hK
    obtain ⟨Y1, S1, D1, in1, out1, y1⟩ := Sc.draws I hc hq1 N fun z => Nat.lt_irrefl _ (l1 _ z)
    obtain ⟨Y2, S2, D2, in2, out2, y2⟩ := Sc.draws I hc hq2 (N + 1) fun z => Nat.lt_irrefl _ (Nat.lt_trans (l2 _ z) (Nat.lt_succ_self _))
    have k1 : i < xs.length := (List.getElem?_eq_some_iff.mp hx).1
    have k2 : i < ys.length := (List.getElem?_eq_some_iff.mp hy).1
    have hzl : N + 4 < s.heap.objs.size := Heap.lt_size hz
    refine wpAny_pyNext_zipD2_item (zip_sep2 l1 l2) D1 D2 hz hTI hTO (in1 i h1) (in2 i h2) k1 k2 fun u u2 h' tk a1 a2 z' TO' s1 s2 hT hsz hk => ⟨_, rfl, wpAny_letOwnedTupleGo_zip (s := { s with heap := h', toks := tk }) z' fun h2' z2 sb => ?_⟩
    obtain ⟨v, hv, ru⟩ := y1 i u a1
    obtain ⟨v2, hv2, ru2⟩ := y2 i u2 a2
    have e1 : v = x := Option.some.inj (hv.symm.trans hx)
    have e2 : v2 = y := Option.some.inj (hv2.symm.trans hy)
    subst e1 e2
    have big : ∀ b ∈ [N + 4, N + 2, N + 3, N, N + 1], b < s.heap.objs.size := fun b hb => by
      simp only [List.mem_cons, List.not_mem_nil, or_false] at hb
      rcases hb with q | q | q | q | q <;> (rw [q]; exact Nat.lt_of_le_of_lt (by first | exact Nat.le_refl _ | exact Nat.add_le_add_left (by decide) N | exact Nat.le_add_right _ _) hzl)
    have ob : ObjOk X.prog X.w (upd H s.heap.objs.size (.tup [v, v2])) h2' s.heap.objs.size (.tup [v, v2]) :=
      ⟨(by decide : 2 ≤ sizeLine), [u, u2], .cons ru (.cons ru2 .nil), _, (sb.2 _ (Nat.ne_of_gt hzl)).trans hT, rfl, _, rfl⟩
    have I1 : Inv X pins σ (upd H s.heap.objs.size (.tup [v, v2])) { s with heap := h2', toks := tk } :=
      I.turnedNew (ch := [N + 4, N + 2, N + 3, N, N + 1]) (fun b o hb q => (sb.2 b (fun z => hb (by simp [z]))).trans (hk b o (fun z => hb (by simp [z])) (fun z => hb (by simp [z])) (fun z => hb (by simp [z])) (fun z => hb (by simp [z])) q)) hf (Nat.le_refl _) ob
    have ne : ∀ {k : Nat}, k ≠ 4 → (N + k : Nat) ≠ N + 4 := fun hk' q => hk' (Nat.add_left_cancel q)
    refine ⟨.ref s.heap.objs.size, _, I1, rfl, ⟨_, v, v2, rfl, I.hok.fresh (Nat.le_refl _), rfl, fun q hq => by rw [Sc.inj I hq1 hq]; exact hx, fun q hq => by rw [Sc.inj I hq2 hq]; exact hy⟩, ⟨z2, ?_, ⟨u, u2, ?_⟩, ?_, ?_, l1, l2⟩, fun b hb => ?_⟩
    · exact (sb.2 _ (ne (by decide))).trans (hk _ _ (ne (by decide)) (fun q => absurd (Nat.add_left_cancel q) (by decide)) (fun q => absurd (Nat.add_left_cancel (n := N) (m := 2) (k := 0) q) (by decide)) (fun q => absurd (Nat.add_left_cancel q) (by decide)) hTI)
    · exact (sb.2 _ (ne (by decide))).trans TO'
    · exact Sc.it_at (out1 _ _ s1) fun o q => (sb.2 _ (ne (k := 0) (by decide))).trans q
    · exact Sc.it_at (out2 _ _ s2) fun o q => (sb.2 _ (ne (by decide))).trans q
    · rw [upd_ne (Nat.ne_of_lt (big b hb))]; exact (hf b hb).1
  done := by
    intro X hP hw hK hc i pins s σ H E I hf ⟨hz, hTI, ⟨x0, y0, hTO⟩, h1, h2, l1, l2⟩ ⟨xs, ys, hq1, hq2, hi⟩
    subst hP hw hK
    obtain ⟨Y1, S1, D1, in1, out1, y1⟩ := Sc.draws I hc hq1 N fun z => Nat.lt_irrefl _ (l1 _ z)
    obtain ⟨Y2, S2, D2, in2, out2, y2⟩ := Sc.draws I hc hq2 (N + 1) fun z => Nat.lt_irrefl _ (Nat.lt_trans (l2 _ z) (Nat.lt_succ_self _))
    exact wpAny_pyNext_zipD2_end (zip_sep2 l1 l2) D1 D2 hz hTI hTO (in1 i h1) (in2 i h2) (by omega) (by omega) (by omega) fun h' tk hk => ⟨rfl, I.turnedL (t' := tk) (ch := [N + 4, N + 2, N + 3, N, N + 1]) (fun c o hb q =>
      hk c o (fun z => hb (by simp [z])) (fun z => hb (by simp [z])) (fun z => hb (by simp [z])) (fun z => hb (by simp [z])) q) hf⟩
  self := fun A i s Q E st h => wpAny_pyIter_zip st.1 h
def iZ (K : PySem.W.Frag) (ta : TA) : TI := fun σ H R => ta σ H fun vs H1 => ∃ x y, vs = [x, y] ∧ ScV K H1 x fun c => ScV K H1 y fun d => R (ItZ K c d) H1
theorem pi_Z {X : Cx} {e e2 : Expr} {ta : TA} {p pos tpos : Pos} {elts : List Expr} {kk : Nat} (hg : Gl X "zip") (hm : X.mg "zip" = none) (ha : PA X [e, e2] ta)
    (hs : starEach [e, e2] X.env = (false, eval e X.env) :: starEach [e2] X.env := by rfl) (hpl : (backTo pos (starEach [e2] X.env)).any (·.1) = false := by rfl) : PI X (.Tuple elts kk tpos) (.Call (.Name "zip" p) [e, e2] [] pos) (iZ X.K ta) := by
  refine ⟨fun pins s σ H R I h => Call_ (ld_blt I hg hm PyProof.Rows.boot_zip (PyProof.Rows.callWith_type1 (thn (ha.run pos pins s σ H _ I h) fun us s1 ⟨vs, H1, I1, r1, x, y, ex, q⟩ => ?_) hs hpl))⟩
  subst ex
  cases r1 with
  | cons r rr =>
    cases rr with
    | cons r2 rr =>
      cases rr
      obtain ⟨c, xs, rfl, hq1, q⟩ := q.go r
      obtain ⟨d, ys, rfl, hq2, q⟩ := q.go r2
      obtain ⟨Hb1, B1, hb1⟩ := Sc.begins I1 hq1
      obtain ⟨Hb2, B2, hb2⟩ := Sc.begins I1 hq2
      refine zip_begins2 B1 B2 hb1 hb2 fun h' hz hTI hTO g1 g2 _ hk => wpAny_pyIter_zip hz ?_
      refine ⟨s1.heap.objs.size + 4, _, _, _, H1, rfl, I1.kept (t' := s1.toks) hk, turnZ c d s1.heap.objs.size, ⟨hz, hTI, ⟨_, _, hTO⟩, Sc.it_new g1, Sc.it_new g2, Sc.fx_lt I1 hq1, Sc.fx_lt I1 hq2⟩, fun b hb => ?_, q⟩
      have hle : s1.heap.objs.size ≤ b := by
        simp only [List.mem_cons, List.not_mem_nil, or_false] at hb
        rcases hb with z | z | z | z | z <;> (rw [z]; first | exact Nat.le_refl _ | exact Nat.le_add_right _ _)
      exact I1.fpOk hle (I1.hok.fresh hle)

/-! ### their mirrors -/
def seqOf : Val → Option (List Val)
  | .lst l => some l
  | .tup l => some l
  | .str s => some (s.map fun c => .str [c])
  | _ => none
def SrcOk (C : Cn) (q : Pt) (sc : Sc) (l : List Val) : Prop := ∀ q', Ext q q' → ∃ xs, sc.vs C.K q'.H xs ∧ RVs C q' l xs
theorem rvs_chs {C : Cn} {q : Pt} (s : Tx) : RVs C q (s.map fun c => .str [c]) (chs (S s)) := by
  unfold chs
  rw [show (S s).cps.toList = s from rfl]
  induction s with
  | nil => exact .nil
  | cons c s ih => exact .cons (by unfold RV; rfl) ih
theorem src {C : Cn} {q : Pt} {v : Val} {x : V} {l : List Val} {J : Sc → Prop} (rv : RV C q v x) (e : seqOf v = some l) (hj : ∀ sc, SrcOk C q sc l → J sc) : ScV C.K q.H x J := by
  cases v with
  | lst m =>
    cases e
    unfold RV at rv
    obtain ⟨a, vs, rfl, h1, h2⟩ := rv
    exact .inl ⟨a, vs, rfl, h1.sq, hj _ fun q' x' => ⟨vs, (h1.ext x').sq, h2.ext x'⟩⟩
  | tup m =>
    cases e
    unfold RV at rv
    obtain ⟨a, vs, rfl, h1, h2⟩ := rv
    exact .inr (.inl ⟨a, vs, rfl, h1.sq, hj _ fun q' x' => ⟨vs, (h1.ext x').sq, h2.ext x'⟩⟩)
  | str s =>
    cases e
    unfold RV at rv
    exact .inr (.inr ⟨S s, rv, fun t => hj _ fun q' x' => ⟨_, rfl, rvs_chs s⟩⟩)
  | _ => cases e
def enumF : Nat → List Val → List Val
  | _, [] => []
  | k, v :: l => .tup [.int (k : Nat), v] :: enumF (k + 1) l
theorem enumF_len : ∀ (k : Nat) (l : List Val), (enumF k l).length = l.length
  | _, [] => rfl
  | k, v :: l => congrArg (· + 1) (enumF_len (k + 1) l)
theorem enumF_get : ∀ (k : Nat) (l : List Val) (i : Nat), (enumF k l)[i]? = l[i]?.map fun v => .tup [.int ((k + i : Nat) : Int), v]
  | _, [], i => rfl
  | k, v :: l, 0 => rfl
  | k, v :: l, i + 1 => by
    show (enumF (k + 1) l)[i]? = _
    rw [enumF_get (k + 1) l i, show k + 1 + i = k + (i + 1) from by omega]
    rfl
def zipF (l m : List Val) : List Val := List.zipWith (fun a b => .tup [a, b]) l m
theorem ok_enum {C : Cn} {q : Pt} {sc : Sc} {l : List Val} (h : SrcOk C q sc l) : ItOk C q (ItE C.K sc) (enumF 0 l) := by
  refine ⟨fun q' i x' hi => ?_, fun q' i x H' v x' ev y => ?_, fun q' x' => ?_⟩
  · obtain ⟨xs, a, b⟩ := h q' x'
    rw [enumF_len] at hi
    have hi' : i < xs.length := by rw [b.length]; exact hi
    exact ⟨xs, xs[i], a, List.getElem?_eq_getElem hi'⟩
  · obtain ⟨T, z, rfl, hn, e, g⟩ := y
    obtain ⟨xs, a, b⟩ := h q' x'
    rw [enumF_get, Nat.zero_add] at ev
    cases hl : l[i]? with
    | none => rw [hl] at ev; cases ev
    | some w =>
      rw [hl] at ev
      cases ev
      obtain ⟨y, hy, ry⟩ := b.get hl
      rw [g xs a] at hy; cases hy
      exact .inr ⟨T, _, _, hn, e, rfl, rfl, .cons (by unfold RV; rfl) (.cons ry .nil)⟩
  · obtain ⟨xs, a, b⟩ := h q' x'
    exact ⟨xs, a, by rw [b.length, enumF_len]⟩
theorem ok_zip {C : Cn} {q : Pt} {c d : Sc} {l m : List Val} (h : SrcOk C q c l) (k : SrcOk C q d m) : ItOk C q (ItZ C.K c d) (zipF l m) := by
  refine ⟨fun q' i x' hi => ?_, fun q' i x H' v x' ev y => ?_, fun q' x' => ?_⟩
  · obtain ⟨xs, a, b⟩ := h q' x'
    obtain ⟨ys, a2, b2⟩ := k q' x'
    simp only [zipF, List.length_zipWith] at hi
    have h1 : i < xs.length := by rw [b.length]; omega
    have h2 : i < ys.length := by rw [b2.length]; omega
    exact ⟨xs, ys, xs[i], ys[i], a, a2, List.getElem?_eq_getElem h1, List.getElem?_eq_getElem h2⟩
  · obtain ⟨T, z, z2, rfl, hn, e, g, g2⟩ := y
    obtain ⟨xs, a, b⟩ := h q' x'
    obtain ⟨ys, a2, b2⟩ := k q' x'
    simp only [zipF, List.getElem?_zipWith] at ev
    cases hl : l[i]? with
    | none => rw [hl] at ev; cases ev
    | some w =>
      cases hm : m[i]? with
      | none => rw [hl, hm] at ev; cases ev
      | some w2 =>
        rw [hl, hm] at ev
        cases ev
        obtain ⟨y, hy, ry⟩ := b.get hl
        rw [g xs a] at hy; cases hy
        obtain ⟨y2, hy2, ry2⟩ := b2.get hm
        rw [g2 ys a2] at hy2; cases hy2
        exact .inr ⟨T, _, _, hn, e, rfl, rfl, .cons ry (.cons ry2 .nil)⟩
  · obtain ⟨xs, a, b⟩ := h q' x'
    obtain ⟨ys, a2, b2⟩ := k q' x'
    exact ⟨xs, ys, a, a2, by rw [b.length, b2.length]; simp [zipF]⟩
def mEnum (m : ME Val) : ME (List Val) := fun σ h => (m σ h).bind fun v h1 => match seqOf v with
  | some l => .ok (enumF 0 l) h1
  | none => .bad
def mZip (m n : ME Val) : ME (List Val) := fun σ h => (m σ h).bind fun v h1 => (n σ h1).bind fun w h2 => match seqOf v, seqOf w with
  | some l, some k => .ok (zipF l k) h2
  | _, _ => .bad
section
variable {X : Cx} {cn : String → Addr} {W : WX} {e e2 : Expr} {p0 pos tpos : Pos} {elts : List Expr} {kk : Nat}
theorem i_enum {m : ME Val} (hm : X.mg "enumerate" = none) (he : EM X cn W e m) (hg : Gl X "enumerate" := by rfl) (hs : starEach [e] X.env = [(false, eval e X.env)] := by rfl) : IM X cn W (.Tuple elts kk tpos) (.Call (.Name "enumerate" p0) [e] [] pos) (mEnum m) :=
  PI.wk (pi_E hg hm (pa_cons he pa_nil (by rw [hs]; rfl)) hs) fun σ H K ⟨E, p, σm, mh, e1, R, k⟩ => ⟨E, p, σm, mh, e1, R, by
    unfold mEnum at k
    cases r : m σm mh with
    | bad => rw [r] at k; exact k.elim
    | exc c f h => rw [r] at k; exact fun q cls d R1 x1 rx => k q cls d R1 x1 rx
    | ok v h =>
      rw [r] at k
      simp only [Res.bind] at k
      intro q x R1 x1 rv
      cases hv : seqOf v with
      | none => rw [hv] at k; exact k.elim
      | some l =>
        rw [hv] at k
        exact ⟨x, rfl, src rv hv fun sc so => k q _ R1 x1 (ok_enum so)⟩⟩
theorem i_zip {m n : ME Val} (hm : X.mg "zip" = none) (he : EM X cn W e m) (h2 : EM X cn W e2 n) (hg : Gl X "zip" := by rfl)
    (hs : starEach [e, e2] X.env = (false, eval e X.env) :: starEach [e2] X.env := by rfl) (hs2 : starEach [e2] X.env = [(false, eval e2 X.env)] := by rfl) (hpl : (backTo pos (starEach [e2] X.env)).any (·.1) = false := by rfl) : IM X cn W (.Tuple elts kk tpos) (.Call (.Name "zip" p0) [e, e2] [] pos) (mZip m n) :=
  PI.wk (pi_Z hg hm (pa_cons he (pa_cons h2 pa_nil (by rw [hs2]; rfl)) hs) hs hpl) fun σ H K ⟨E, p, σm, mh, e1, R, k⟩ => ⟨E, p, σm, mh, e1, R, by
    unfold mZip at k
    cases r : m σm mh with
    | bad => rw [r] at k; exact k.elim
    | exc c f h => rw [r] at k; exact fun q cls d R1 x1 rx => k q cls d R1 x1 rx
    | ok v h =>
      rw [r] at k
      simp only [Res.bind] at k
      intro q x R1 x1 rv
      refine ⟨E, q, σm, h, rfl, R1, ?_⟩
      cases r2 : n σm h with
      | bad => rw [r2] at k; exact k.elim
      | exc c f h => rw [r2] at k; exact fun q2 cls d R2 x2 rx => k q2 cls d R2 (x1.trans x2) rx
      | ok w h2 =>
        rw [r2] at k
        simp only at k
        intro q2 y R2 x2 rw'
        cases hv : seqOf v with
        | none => rw [hv] at k; exact k.elim
        | some l =>
          cases hw : seqOf w with
          | none => rw [hv, hw] at k; exact k.elim
          | some l2 =>
            rw [hv, hw] at k
            exact ⟨x, y, rfl, src (RV.ext x2 rv) hv fun c so => src rw' hw fun d so2 => k q2 _ R2 (x1.trans x2) (ok_zip so so2)⟩⟩
end
end Mi
/-! Mi10: sum, any, all, max, min, str, repr, ord, tuple, join, index, [::-1]. -/
namespace Mi
open PySem L2 PyProof.Rows
open Sem (wp)

def intsOf : List Val → Option (List Int)
  | [] => some []
  | .int i :: l => (intsOf l).map (i :: ·)
  | _ :: _ => none
def bolsOf : List Val → Option (List Bool)
  | [] => some []
  | .bl i :: l => (bolsOf l).map (i :: ·)
  | _ :: _ => none
def strsOf : List Val → Option (List Tx)
  | [] => some []
  | .str i :: l => (strsOf l).map (i :: ·)
  | _ :: _ => none
theorem intsOf_map : ∀ ns : List Int, intsOf (ns.map Val.int) = some ns
  | [] => rfl
  | n :: ns => by simp [intsOf, intsOf_map ns]
theorem bolsOf_map : ∀ ns : List Bool, bolsOf (ns.map Val.bl) = some ns
  | [] => rfl
  | n :: ns => by simp [bolsOf, bolsOf_map ns]
theorem strsOf_map : ∀ ns : List Tx, strsOf (ns.map Val.str) = some ns
  | [] => rfl
  | n :: ns => by simp [strsOf, strsOf_map ns]
theorem intsOf_rv {C : Cn} {p : Pt} : ∀ {l : List Val} {ns : List Int} {vs : List V}, intsOf l = some ns → RVs C p l vs → vs = ns.map V.int
  | [], ns, vs, e, r => by cases e; exact r.nil_inv
  | .int i :: l, ns, vs, e, r => by
    simp only [intsOf, Option.map_eq_some_iff] at e
    obtain ⟨ms, e1, rfl⟩ := e
    obtain ⟨x, t, rfl, h1, h2⟩ := r.cons_inv
    unfold RV at h1
    rw [h1, intsOf_rv e1 h2]; rfl
theorem bolsOf_rv {C : Cn} {p : Pt} : ∀ {l : List Val} {ns : List Bool} {vs : List V}, bolsOf l = some ns → RVs C p l vs → vs = ns.map V.bl
  | [], ns, vs, e, r => by cases e; exact r.nil_inv
  | .bl i :: l, ns, vs, e, r => by
    simp only [bolsOf, Option.map_eq_some_iff] at e
    obtain ⟨ms, e1, rfl⟩ := e
    obtain ⟨x, t, rfl, h1, h2⟩ := r.cons_inv
    unfold RV at h1
    rw [h1, bolsOf_rv e1 h2]; rfl
theorem strsOf_rv {C : Cn} {p : Pt} : ∀ {l : List Val} {ns : List Tx} {vs : List V}, strsOf l = some ns → RVs C p l vs → vs = (ns.map S).map V.str
  | [], ns, vs, e, r => by cases e; exact r.nil_inv
  | .str i :: l, ns, vs, e, r => by
    simp only [strsOf, Option.map_eq_some_iff] at e
    obtain ⟨ms, e1, rfl⟩ := e
    obtain ⟨x, t, rfl, h1, h2⟩ := r.cons_inv
    unfold RV at h1
    rw [h1, strsOf_rv e1 h2]; rfl

@[simp] def sumV (h : MH) (v : Val) : Option Val := match deref h v with
  | .lst l => (intsOf l).map fun ns => .int ns.sum
  | _ => none
@[simp] def anyV (h : MH) (v : Val) : Option Val := match deref h v with
  | .lst l => (bolsOf l).map fun ns => .bl (ns.any id)
  | _ => none
@[simp] def allV (h : MH) (v : Val) : Option Val := match deref h v with
  | .lst l => (bolsOf l).map fun ns => .bl (ns.all id)
  | _ => none
def maxI : List Int → Int
  | [] => 0
  | [a] => a
  | a :: b :: l => if maxI (b :: l) ≤ a then a else maxI (b :: l)
def minI : List Int → Int
  | [] => 0
  | [a] => a
  | a :: b :: l => if a ≤ minI (b :: l) then a else minI (b :: l)
theorem maxI_ok : ∀ {ns : List Int}, ns ≠ [] → maxI ns ∈ ns ∧ ∀ y ∈ ns, y ≤ maxI ns
  | [], h => (h rfl).elim
  | [a], _ => ⟨List.mem_singleton.mpr rfl, fun y hy => by rw [List.mem_singleton.mp hy]; exact Int.le_refl _⟩
  | a :: b :: l, _ => by
    obtain ⟨h1, h2⟩ := maxI_ok (ns := b :: l) (by simp)
    unfold maxI
    split
    · rename_i z
      refine ⟨List.mem_cons_self, fun y hy => ?_⟩
      rcases List.mem_cons.mp hy with q | q
      · rw [q]; exact Int.le_refl _
      · exact Int.le_trans (h2 y q) z
    · rename_i z
      refine ⟨List.mem_cons_of_mem _ h1, fun y hy => ?_⟩
      rcases List.mem_cons.mp hy with q | q
      · rw [q]; omega
      · exact h2 y q
theorem minI_ok : ∀ {ns : List Int}, ns ≠ [] → minI ns ∈ ns ∧ ∀ y ∈ ns, minI ns ≤ y
  | [], h => (h rfl).elim
  | [a], _ => ⟨List.mem_singleton.mpr rfl, fun y hy => by rw [List.mem_singleton.mp hy]; exact Int.le_refl _⟩
  | a :: b :: l, _ => by
    obtain ⟨h1, h2⟩ := minI_ok (ns := b :: l) (by simp)
    unfold minI
    split
    · rename_i z
      refine ⟨List.mem_cons_self, fun y hy => ?_⟩
      rcases List.mem_cons.mp hy with q | q
      · rw [q]; exact Int.le_refl _
      · exact Int.le_trans z (h2 y q)
    · rename_i z
      refine ⟨List.mem_cons_of_mem _ h1, fun y hy => ?_⟩
      rcases List.mem_cons.mp hy with q | q
      · rw [q]; omega
      · exact h2 y q
@[simp] def max1V (h : MH) (v : Val) : Option Val := match deref h v with
  | .lst l => (intsOf l).bind fun ns => if ns = [] then none else some (.int (maxI ns))
  | _ => none
@[simp] def min1V (h : MH) (v : Val) : Option Val := match deref h v with
  | .lst l => (intsOf l).bind fun ns => if ns = [] then none else some (.int (minI ns))
  | _ => none
section
variable {X : Cx} {cn : String → Addr} {W : WX}
def b_sum (hc : X.calm = true) : CallB X cn W (.builtin "sum") (fn1 sumV) := ⟨_, cr_sum hc, entC_1 fun E q σm mh σ v w x Q R rv e k => by
  unfold sumV at e
  cases d : deref mh v with
  | lst l =>
    rw [d] at e
    simp only [Option.map_eq_some_iff] at e
    obtain ⟨ns, e1, rfl⟩ := e
    obtain ⟨a, vs, rfl, h1, _, h2⟩ := rv.list R d
    rw [intsOf_rv e1 h2] at h1
    exact ⟨a, ns, rfl, h1, post_fin k R (by unfold RV; rfl)⟩
  | _ => rw [d] at e; cases e⟩
def b_any (hc : X.calm = true) : CallB X cn W (.builtin "any") (fn1 anyV) := ⟨_, cr_any hc, entC_1 fun E q σm mh σ v w x Q R rv e k => by
  unfold anyV at e
  cases d : deref mh v with
  | lst l =>
    rw [d] at e
    simp only [Option.map_eq_some_iff] at e
    obtain ⟨ns, e1, rfl⟩ := e
    obtain ⟨a, vs, rfl, h1, _, h2⟩ := rv.list R d
    rw [bolsOf_rv e1 h2] at h1
    exact ⟨a, ns, rfl, h1, post_fin k R (by unfold RV; rfl)⟩
  | _ => rw [d] at e; cases e⟩
def b_all (hc : X.calm = true) : CallB X cn W (.builtin "all") (fn1 allV) := ⟨_, cr_all hc, entC_1 fun E q σm mh σ v w x Q R rv e k => by
  unfold allV at e
  cases d : deref mh v with
  | lst l =>
    rw [d] at e
    simp only [Option.map_eq_some_iff] at e
    obtain ⟨ns, e1, rfl⟩ := e
    obtain ⟨a, vs, rfl, h1, _, h2⟩ := rv.list R d
    rw [bolsOf_rv e1 h2] at h1
    exact ⟨a, ns, rfl, h1, post_fin k R (by unfold RV; rfl)⟩
  | _ => rw [d] at e; cases e⟩
def b_max1 (hc : X.calm = true) : CallB X cn W (.builtin "max") (fn1 max1V) := ⟨_, cr_max hc, entC_1 fun E q σm mh σ v w x Q R rv e k => by
  unfold max1V at e
  cases d : deref mh v with
  | lst l =>
    rw [d] at e
    simp only [Option.bind_eq_some_iff] at e
    obtain ⟨ns, e1, e2⟩ := e
    by_cases z : ns = []
    · rw [if_pos z] at e2; cases e2
    · rw [if_neg z] at e2; cases e2
      obtain ⟨a, vs, rfl, h1, _, h2⟩ := rv.list R d
      rw [intsOf_rv e1 h2] at h1
      refine ⟨a, ns, rfl, h1, List.length_pos_iff.mpr z, fun m hm hm2 => ?_⟩
      have e3 : m = maxI ns := Int.le_antisymm ((maxI_ok z).2 m hm) (hm2 _ (maxI_ok z).1)
      rw [e3]
      exact post_fin k R (by unfold RV; rfl)
  | _ => rw [d] at e; cases e⟩
def b_min1 (hc : X.calm = true) : CallB X cn W (.builtin "min") (fn1 min1V) := ⟨_, cr_min hc, entC_1 fun E q σm mh σ v w x Q R rv e k => by
  unfold min1V at e
  cases d : deref mh v with
  | lst l =>
    rw [d] at e
    simp only [Option.bind_eq_some_iff] at e
    obtain ⟨ns, e1, e2⟩ := e
    by_cases z : ns = []
    · rw [if_pos z] at e2; cases e2
    · rw [if_neg z] at e2; cases e2
      obtain ⟨a, vs, rfl, h1, _, h2⟩ := rv.list R d
      rw [intsOf_rv e1 h2] at h1
      refine ⟨a, ns, rfl, h1, List.length_pos_iff.mpr z, fun m hm hm2 => ?_⟩
      have e3 : m = minI ns := Int.le_antisymm (hm2 _ (minI_ok z).1) ((minI_ok z).2 m hm)
      rw [e3]
      exact post_fin k R (by unfold RV; rfl)
  | _ => rw [d] at e; cases e⟩
/-- a number's text -/
def txI (i : Int) : Tx := (Str.ofString (toString i)).cps.toList
theorem S_txI (i : Int) : S (txI i) = Str.ofString (toString i) := rfl
@[simp] def strV (_ : MH) (v : Val) : Option Val := match v with
  | .int i => if i.natAbs.log2 < 1920 then some (.str (txI i)) else none
  | .str s => some (.str s)
  | _ => none
def b_str : CallB X cn W (.type "str") (fn1 strV) := ⟨_, call_str_int.or SkE.call_str_str, entC_1 fun E q σm mh σ v w x Q R rv e k => by
  cases v with
  | int i =>
    unfold strV at e
    by_cases z : i.natAbs.log2 < 1920
    · simp only [z, if_true, Option.some.injEq] at e
      subst e
      exact .inl ⟨i, by rw [rv.int], z, post_fin k R (by unfold RV; rfl)⟩
    · simp only [z, if_false] at e; cases e
  | str s =>
    cases e
    exact .inr ⟨S s, by rw [rv.str], post_fin k R (by unfold RV; rfl)⟩
  | _ => cases e⟩
@[simp] def reprV (_ : MH) (v : Val) : Option Val := match v with
  | .int i => if i.natAbs.log2 < 1920 then some (.str (txI i)) else none
  | _ => none
def b_repr : CallB X cn W (.builtin "repr") (fn1 reprV) := ⟨_, SkE.call_repr_int, entC_1 fun E q σm mh σ v w x Q R rv e k => by
  cases v with
  | int i =>
    unfold reprV at e
    by_cases z : i.natAbs.log2 < 1920
    · simp only [z, if_true, Option.some.injEq] at e
      subst e
      exact ⟨i, by rw [rv.int], z, post_fin k R (by unfold RV; rfl)⟩
    · simp only [z, if_false] at e; cases e
  | _ => cases e⟩
@[simp] def ordV (_ : MH) (v : Val) : Option Val := match v with
  | .str [c] => some (.int (c : Nat))
  | _ => none
def b_ord : CallB X cn W (.builtin "ord") (fn1 ordV) := ⟨_, call_ord, entC_1 fun E q σm mh σ v w x Q R rv e k => by
  match v, e, rv with
  | .str [c], e, rv =>
    cases e
    exact ⟨S [c], by rw [rv.str], rfl, post_fin k R (by unfold RV; rfl)⟩
  | .str [], e, _ => cases e
  | .str (_ :: _ :: _), e, _ => cases e
  | .non, e, _ => cases e
  | .bl _, e, _ => cases e
  | .int _, e, _ => cases e
  | .tup _, e, _ => cases e
  | .lst _, e, _ => cases e
  | .ref _, e, _ => cases e
  | .exc _ _, e, _ => cases e⟩
@[simp] def tupV (h : MH) (v : Val) : Option Val := match deref h v with
  | .lst l => some (.tup l)
  | .tup l => some (.tup l)
  | _ => none
def b_tup : CallB X cn W (.type "tuple") (fn1 tupV) := ⟨_, call_tuple_of, entC_1 fun E q σm mh σ v w x Q R rv e k => by
  unfold tupV at e
  cases d : deref mh v with
  | lst l =>
    rw [d] at e
    cases e
    obtain ⟨a, vs, rfl, h1, _, h2⟩ := rv.list R d
    exact ⟨a, vs, rfl, .inl ⟨h1, fun p hp => k (q.up p (.tup vs)) (.ref p) (R.up hp) (ext_up hp) (rv_tup R.h hp h2)⟩⟩
  | tup l =>
    rw [d] at e; have := deref_ne d (fun _ z => by cases z); subst this
    cases e
    obtain ⟨a, vs, rfl, h1, h2⟩ := rv.tup R
    exact ⟨a, vs, rfl, .inr ⟨h1.sq, post_fin k R (by unfold RV; exact ⟨a, vs, rfl, h1, h2⟩)⟩⟩
  | _ => rw [d] at e; cases e⟩
end

/-! ### methods of texts -/
/-- a text's method of one value -/
def mTx (f : MH → Tx → Val → Option Val) (mo me : ME Val) : ME Val := fun σ h => (mo σ h).bind fun o h1 => match o with
  | .str s => (me σ h1).bind fun v h2 => lift (f h2 s v) h2
  | _ => .bad
structure TMeth (X : Cx) (cn : String → Addr) (W : WX) (id : String) (f : MH → Tx → Val → Option Val) where
  r : V → List V → Hp → VK → Prop
  ok : MtR X id r
  ent : ∀ (E q : Pt) (σm : Env) (mh : MH) (σ : L2.St) (s : Tx) (v w : Val) (x : V) (Q : VK), Rel ⟨X.K, cn⟩ E q σm mh σ → RVT ⟨X.K, cn⟩ q σm σ v x → f mh s v = some w → post RVr ⟨X.K, cn⟩ W E q σm σ Q (.ok w mh) → r (.str (S s)) [x] q.H Q
section
variable {X : Cx} {cn : String → Addr} {W : WX} {o e : Expr} {apos pos : Pos} {mo me : ME Val}
theorem e_tx {name : Str} {id : String} {f : MH → Tx → Val → Option Val} (T : TMeth X cn W id f) (slot : PySem.Slot "str" name id) (hty : typeOf (.builtin id) = pure (.type "method_descriptor")) (ho : EM X cn W o mo) (he : ET X cn W e me)
    (hs : starEach [e] X.env = [(false, eval e X.env)] := by rfl) (hbase : attributeBase o name X.env (eval o X.env) = eval o X.env := by rfl) (hline : (apos.endLine == pos.line) = true := by rfl) : EM X cn W (.Call (.Attribute o name apos) [e] [] pos) (mTx f mo me) :=
  PE.wk (pe_m1 slot hty T.ok ho he hs hbase hline) fun σ H Q ⟨E, p, σm, mh, e1, R, k⟩ => ⟨E, p, σm, mh, e1, R, k.bind fun ov mh1 q x R1 x1 rv k1 => by
    cases ov with
    | str s =>
      have rv' : RV ⟨X.K, cn⟩ q (.str s) x := rv
      unfold RV at rv'
      subst rv'
      refine ⟨⟨S s, rfl⟩, E, q, σm, mh1, rfl, R1, k1.bind fun v mh2 q2 y R2 x2 ry k2 => ?_⟩
      cases hf : f mh2 s v with
      | none => rw [hf] at k2; exact k2.elim
      | some w => rw [hf] at k2; exact T.ent E q2 σm mh2 σ s v w y Q R2 ry hf k2
    | _ => exact k1.elim⟩
/-- texts put together -/
def joinT (s : Tx) (ys : List Tx) : Tx := TL.joinL s ys
theorem S_join (s : Tx) (ys : List Tx) : S (joinT s ys) = Txt.join (S s) (ys.map S) := by
  have h := TL.tl_join (S s) (ys.map S)
  have e : (ys.map S).map TL.tl = ys := by
    rw [List.map_map]
    exact (List.map_congr_left (fun y _ => rfl)).trans (List.map_id ys)
  rw [e] at h
  rw [TL.join_eq]
  show (⟨(TL.joinL s ys).toArray⟩ : Str) = _
  rw [← show TL.tl (Str.join (S s) (ys.map S)) = TL.joinL s ys from h]
theorem joinT_nil (ys : List Tx) : joinT [] ys = ys.flatten := by
  unfold joinT
  induction ys with
  | nil => rfl
  | cons y ys ih =>
    cases ys with
    | nil => simp [TL.joinL]
    | cons z zs =>
      simp only [TL.joinL, List.nil_append]
      rw [ih]; rfl
@[simp] def joinV (h : MH) (s : Tx) (v : Val) : Option Val := match deref h v with
  | .lst l => (strsOf l).bind fun ys => if (ys.map List.length).sum + ys.length * s.length ≤ 16777216 then some (.str (joinT s ys)) else none
  | .tup l => (strsOf l).bind fun ys => if (ys.map List.length).sum + ys.length * s.length ≤ 16777216 then some (.str (joinT s ys)) else none
  | _ => none
theorem lens_S (ys : List Tx) : (ys.map S).map (·.length) = ys.map List.length := by
  rw [List.map_map]
  exact List.map_congr_left fun y _ => S_len y
def t_join : TMeth X cn W "str.join" joinV := ⟨_, mt_join, fun E q σm mh σ s v w x Q R rv e k => by
  unfold joinV at e
  cases d : deref mh v with
  | lst l =>
    rw [d] at e
    simp only [Option.bind_eq_some_iff] at e
    obtain ⟨ys, e1, e2⟩ := e
    split at e2
    · rename_i z
      cases e2
      obtain ⟨a, vs, rfl, h1, _, h2⟩ := rv.list R d
      rw [strsOf_rv e1 h2] at h1
      refine ⟨S s, a, ys.map S, rfl, rfl, .inl h1, ?_, ?_⟩
      · rw [lens_S, List.length_map, S_len]; exact z
      · exact post_fin k R (by unfold RV; rw [S_join])
    · cases e2
  | tup l =>
    rw [d] at e; have := deref_ne d (fun _ z => by cases z); subst this
    simp only [Option.bind_eq_some_iff] at e
    obtain ⟨ys, e1, e2⟩ := e
    split at e2
    · rename_i z
      cases e2
      obtain ⟨a, vs, rfl, h1, h2⟩ := rv.tup R
      have h1 := h1.sq
      rw [strsOf_rv e1 h2] at h1
      refine ⟨S s, a, ys.map S, rfl, rfl, .inr h1, ?_, ?_⟩
      · rw [lens_S, List.length_map, S_len]; exact z
      · exact post_fin k R (by unfold RV; rw [S_join])
    · cases e2
  | _ => rw [d] at e; cases e⟩
/-- the place of a sign -/
@[simp] def indexV (_ : MH) (s : Tx) (v : Val) : Option Val := match v with
  | .str [c] => if c ∈ s then some (.int (s.idxOf c : Nat)) else none
  | _ => none
theorem at_one {s : Tx} {c i : Nat} : PySem.StrLaws.At (S s) ⟨#[c]⟩ (S s).length i ↔ s[i]? = some c := by
  have hsub : ∀ i, Builtin.Str.subAt (S s) ⟨#[c]⟩ i = true ↔ s[i]? = some c := fun i => by
    unfold Builtin.Str.subAt
    have e1 : (⟨#[c]⟩ : Str).length = 1 := rfl
    simp only [e1, S]
    simp only [List.extract_toArray, List.extract_eq_drop_take, Nat.add_sub_cancel_left, beq_iff_eq, ← Array.toList_inj]
    cases hd : s.drop i with
    | nil =>
      have hl : s.length ≤ i := List.drop_eq_nil_iff.mp hd
      rw [List.getElem?_eq_none hl]
      simp
    | cons a r =>
      have : s[i]? = some a := by
        have := congrArg (·[0]?) hd
        simpa using this
      rw [this]
      simp
  constructor
  · intro h
    exact (hsub i).mp h.2
  · intro h
    refine ⟨?_, (hsub i).mpr h⟩
    have := (List.getElem?_eq_some_iff.mp h).1
    show i + 1 ≤ (S s).length
    rw [S_len]; omega
theorem occ_one {s : Tx} {c : Nat} (h : c ∈ s) : ∃ r, Builtin.Str.occurrences (S s) ⟨#[c]⟩ 0 (S s).length 1 = s.idxOf c :: r := by
  have hg : s[s.idxOf c]? = some c := by
    rw [List.getElem?_eq_getElem (List.idxOf_lt_length_of_mem h), List.getElem_idxOf]
  rcases PySem.StrLaws.occ_head (S s) ⟨#[c]⟩ 1 (Nat.le_refl _) with ⟨_, hn⟩ | ⟨i, r, e, ha, hn⟩
  · exact (hn _ (at_one.mpr hg)).elim
  · refine ⟨r, ?_⟩
    rw [e]
    have h1 := at_one.mp ha
    have : i = s.idxOf c := by
      rcases Nat.lt_trichotomy i (s.idxOf c) with z | z | z
      · have := List.getElem?_eq_some_iff.mp h1
        obtain ⟨hi, e2⟩ := this
        exact absurd e2 (List.not_of_lt_findIdx (p := (· == c)) z |> fun q => by simpa using q)
      · exact z
      · exact (hn _ z (at_one.mpr hg)).elim
    rw [this]
def t_index : TMeth X cn W "str.index" indexV := ⟨_, mt_sindex, fun E q σm mh σ s v w x Q R rv e k => by
  match v, e, rv with
  | .str [c], e, rv =>
    unfold indexV at e
    by_cases z : c ∈ s
    · simp only [z, if_true, Option.some.injEq] at e
      subst e
      obtain ⟨r, hr⟩ := occ_one z
      exact ⟨S s, ⟨#[c]⟩, s.idxOf c, r, rfl, by rw [rv.str]; rfl, hr, post_fin k R (by unfold RV; rfl)⟩
    · simp only [z, if_false] at e; cases e
  | .str [], e, _ => cases e
  | .str (_ :: _ :: _), e, _ => cases e
  | .non, e, _ => cases e
  | .bl _, e, _ => cases e
  | .int _, e, _ => cases e
  | .tup _, e, _ => cases e
  | .lst _, e, _ => cases e
  | .ref _, e, _ => cases e
  | .exc _ _, e, _ => cases e⟩
end

/-! ### [::-1] -/
def tRevS (te : TE) : TE := fun σ H Q => te σ H fun x H1 => ∃ z, x = .str z ∧ z.length ≤ sizeLine ∧ Q (.str ⟨z.cps.toList.reverse.toArray⟩) H1
theorem rev_pick (z : Str) : ⟨((Builtin.Str.strSliceIndices none none (-1) z.length).filterMap (z.cps[·]?)).toArray⟩ = (⟨z.cps.toList.reverse.toArray⟩ : Str) := by
  obtain ⟨a⟩ := z
  obtain ⟨l⟩ := a
  congr 2
  rw [show (⟨⟨l⟩⟩ : Str).length = l.length from rfl, PyProof.Rows.picked_rev]
  rw [List.filterMap_map]
  apply List.ext_getElem?
  intro i
  have h1 : List.filterMap ((fun x => ({ toList := l } : Array Nat)[x]?) ∘ fun k => l.length - 1 - k) (List.range l.length) = (List.range l.length).map fun k => l.getD (l.length - 1 - k) 0 := by
    rw [← List.filterMap_eq_map]
    have hc : ∀ L : List Nat, (∀ k ∈ L, k < l.length) → List.filterMap ((fun x => ({ toList := l } : Array Nat)[x]?) ∘ fun k => l.length - 1 - k) L = List.filterMap (some ∘ fun k => l.getD (l.length - 1 - k) 0) L := fun L => by
      induction L with
      | nil => intro _; rfl
      | cons k L ih =>
        intro hk
        have hk' := hk k List.mem_cons_self
        have hlt : l.length - 1 - k < l.length := by omega
        rw [List.filterMap_cons, List.filterMap_cons, ih fun j hj => hk j (List.mem_cons_of_mem _ hj)]
        simp [hlt]
    exact hc _ fun k hk => List.mem_range.mp hk
  rw [h1]
  by_cases hi : i < l.length
  · rw [List.getElem?_map, List.getElem?_range hi, List.getElem?_reverse hi]
    have : l.length - 1 - i < l.length := by omega
    simp [this]
  · rw [List.getElem?_eq_none (by simp; omega), List.getElem?_eq_none (by simp; omega)]
theorem pe_revS {X : Cx} {e : Expr} {te : TE} {k : Nat} {p1 p2 p3 pos : Pos} (he : PE X e te) : PE X (.Subscript e (.Slice none none (some (.UnaryOp .USub (.Constant (.int 1) k p1) p2)) p3) pos) (tRevS te) := by
  refine ⟨fun pins s σ H Q I h => Subscript_ (thn (he.run pins s σ H _ I h) fun v s1 ⟨x, H1, I1, r1, z, ex, hz, q⟩ => ?_)⟩
  subst ex
  obtain ⟨t, rfl⟩ := r1
  have hst : PO X (some (.UnaryOp .USub (.Constant (.int 1) k p1) p2)) (tPart (tUn (rU fun i => .int (-i)) (tC (.int 1)))) := po_some (pe_un un_neg pe_int)
  refine wpAny_Slice (thn (po_none.run pins s1 σ H1 (fun o H2 => o = none ∧ H2 = H1) I1 ⟨rfl, rfl⟩) fun vl s2 ⟨l, H2, I2, pl, el, e2⟩ => ?_)
  subst el e2
  refine thn (po_none.run pins s2 σ H2 (fun o H3 => o = none ∧ H3 = H2) I2 ⟨rfl, rfl⟩) fun vu s3 ⟨u, H3, I3, pu, eu, e3⟩ => ?_
  subst eu e3
  refine thn (hst.run pins s3 σ H3 (fun o H4 => o = some (-1) ∧ H4 = H3) I3 ⟨1, rfl, -1, rfl, rfl, rfl⟩) fun vs s4 ⟨o, H4, I4, ps, eo, e4⟩ => ?_
  subst eo e4
  have I5 : Inv X pins σ H4 { s4 with heap := s4.heap.push ⟨.type "slice", none, .fields #[vl, vu, vs], #[]⟩ } := I4.kept (t' := s4.toks) fun b ob q => Heap.get?_push_of_some _ q
  obtain ⟨l, rfl, el⟩ := IsPart.raw pl
  obtain ⟨u, rfl, eu⟩ := IsPart.raw pu
  obtain ⟨w, rfl, ew⟩ := IsPart.raw ps
  refine tail_any (ops := [.str z t, .ref s4.heap.objs.size]) (typeIs_str _ _ _) (PySem.F.slot_str_getitem.lookup) ?_ (by with_unfolding_all rfl)
  refine wpAny_getItem_str_slice (l := l) (u := u) (st := w) ⟨_, Heap.get?_push_size _ rfl, rfl, rfl⟩ (by rw [ew]; rfl) ?_
  unfold sliceMade slicePicked
  rw [el, eu, ew]
  show Made.post (Made.str ⟨((Builtin.Str.strSliceIndices none none (-1) z.length).filterMap (z.cps[·]?)).toArray⟩) (EP X pins σ Q) _
  rw [rev_pick]
  refine ⟨?_, .str _, H4, I5.tok _, ⟨_, rfl⟩, q⟩
  show (z.cps.toList.reverse.toArray).size ≤ sizeLine
  rw [List.size_toArray, List.length_reverse]
  exact hz
/-- a text turned -/
def mRevS (m : ME Val) : ME Val := fun σ h => (m σ h).bind fun v h1 => match v with
  | .str s => if s.length ≤ 16777216 then .ok (.str s.reverse) h1 else .bad
  | _ => .bad
/-- a list turned: a new one -/
def mRevL (m : ME Val) : ME (List Val) := fun σ h => (m σ h).bind fun v h1 => match deref h1 v with
  | .lst l => .ok l.reverse h1
  | _ => .bad
section
variable {X : Cx} {cn : String → Addr} {W : WX} {e : Expr} {k : Nat} {p1 p2 p3 pos : Pos} {m : ME Val}
theorem e_revS (he : ET X cn W e m) : EM X cn W (.Subscript e (.Slice none none (some (.UnaryOp .USub (.Constant (.int 1) k p1) p2)) p3) pos) (mRevS m) :=
  PE.wk (pe_revS he) fun σ H Q ⟨E, p, σm, mh, e1, R, k⟩ => ⟨E, p, σm, mh, e1, R, k.bind fun v mh1 q x R1 x1 rv k1 => by
    cases v with
    | str s =>
      simp only at k1
      by_cases z : s.length ≤ 16777216
      · rw [if_pos z] at k1
        exact ⟨S s, RVT.str rv, by rw [S_len, sizeLine_eq]; exact z, post_fin k1 R1 (by unfold RV; rfl)⟩
      · rw [if_neg z] at k1; exact k1.elim
    | _ => exact k1.elim⟩
theorem f_revL (he : ET X cn W e m) : EF X cn W (.Subscript e (.Slice none none (some (.UnaryOp .USub (.Constant (.int 1) k p1) p2)) p3) pos) (mRevL m) :=
  PE.wk (pe_revL he) fun σ H Q ⟨E, p, σm, mh, e1, R, k⟩ => ⟨E, p, σm, mh, e1, R, by
    unfold mRevL at k
    cases r : m σm mh with
    | bad => rw [r] at k; exact k.elim
    | exc c f h => rw [r] at k; exact fun q cls d R1 x1 rx => k q cls d R1 x1 rx
    | ok v h =>
      rw [r] at k
      simp only [Res.bind] at k
      intro q x R1 x1 rv
      cases d : deref h v with
      | lst l =>
        rw [d] at k
        obtain ⟨a, vs, rfl, h1, _, h2⟩ := RVT.list R1 rv d
        exact ⟨a, vs, rfl, h1, fun p hp => k q p _ R1 x1 hp h2.reverse⟩
      | _ => rw [d] at k; exact k.elim⟩
end
end Mi
/-! Mi11: parallel stores; the end of a law. -/
namespace Mi
open PySem L2 PyProof.Rows

/-- a, b = x, y of plain names -/
def sPar2 (i j : Nat) (m : ME (List Val)) : MS := fun σ h => ofE (m σ h) σ fun l h1 => match l with
  | [v, w] => if i < σ.length ∧ j < σ.length then .next ((σ.set i (.val v)).set j (.val w)) h1 else .bad
  | _ => .bad
def sPar3 (i j k : Nat) (m : ME (List Val)) : MS := fun σ h => ofE (m σ h) σ fun l h1 => match l with
  | [u, v, w] => if i < σ.length ∧ j < σ.length ∧ k < σ.length then .next (((σ.set i (.val u)).set j (.val v)).set k (.val w)) h1 else .bad
  | _ => .bad
section
variable {X : Cx} {cn : String → Addr} {W : WX}
theorem s_par2 (i j : Nat) {x y : Str} {a b : Expr} {m : ME (List Val)} {px py pt pos pt2 : Pos} {kt k2} (hc : X.calm = true) (hN : X.N.Nodup) (ha : AM X cn W [a, b] m) (hi : X.N[i]? = some x := by rfl) (hj : X.N[j]? = some y := by rfl) (hij : i ≠ j := by decide)
    (hx : X.env.scope.names.lookup x = some .local := by rfl) (hy : X.env.scope.names.lookup y = some .local := by rfl)
    (hw : swappedStores [.Tuple [.Name x px, .Name y py] kt pt] (.Tuple [a, b] k2 pt2) X.env = pure (some [x, y]) := by rfl)
    (hs : swapsWithSole [.Tuple [.Name x px, .Name y py] kt pt] (.Tuple [a, b] k2 pt2) pos.line X.env = pure false := by rfl) :
    SM X cn W (.Assign [.Tuple [.Name x px, .Name y py] kt pt] (.Tuple [a, b] k2 pt2) pos) (sPar2 i j m) := PS.wk (ps_par hc hN hi hj hij hx hy ha hw hs) fun D σ H ⟨E, p, σm, mh, e1, R, k⟩ =>
  ⟨E, p, σm, mh, e1, R, postS.of k fun l mh1 q xs R1 x1 rv k1 => by
    match l, rv, k1 with
    | [v, w], rv, k1 =>
      have rv' : RVs _ _ _ _ := rv
      obtain ⟨x, t, rfl, h1, h2⟩ := rv'.cons_inv
      obtain ⟨y, t, rfl, h3, h4⟩ := h2.cons_inv
      rw [h4.nil_inv]
      refine ⟨x, y, rfl, ?_⟩
      simp only at k1
      split at k1
      · rename_i z
        have R2 := R1.setV z.1 h1
        have R3 := R2.setV (i := j) (by rw [List.length_set]; exact z.2) (h3.ext ext_un)
        exact k1 ((q.un i).un j) _ R3 ((ext_un (i := i)).trans (ext_un (i := j)))
      · exact k1.elim
    | [], _, k1 => exact k1.elim
    | [_], _, k1 => exact k1.elim
    | _ :: _ :: _ :: _, _, k1 => exact k1.elim⟩
theorem s_par3 (i j k : Nat) {x y z : Str} {a b c : Expr} {m : ME (List Val)} {px py pz pt pos pt2 : Pos} {kt k2} (hc : X.calm = true) (hN : X.N.Nodup) (ha : AM X cn W [a, b, c] m) (hi : X.N[i]? = some x := by rfl) (hj : X.N[j]? = some y := by rfl) (hk : X.N[k]? = some z := by rfl) (hij : i ≠ j := by decide) (hik : i ≠ k := by decide) (hjk : j ≠ k := by decide)
    (hx : X.env.scope.names.lookup x = some .local := by rfl) (hy : X.env.scope.names.lookup y = some .local := by rfl) (hz : X.env.scope.names.lookup z = some .local := by rfl)
    (hw : swappedStores [.Tuple [.Name x px, .Name y py, .Name z pz] kt pt] (.Tuple [a, b, c] k2 pt2) X.env = pure (some [x, y, z]) := by rfl)
    (hs : swapsWithSole [.Tuple [.Name x px, .Name y py, .Name z pz] kt pt] (.Tuple [a, b, c] k2 pt2) pos.line X.env = pure false := by rfl) :
    SM X cn W (.Assign [.Tuple [.Name x px, .Name y py, .Name z pz] kt pt] (.Tuple [a, b, c] k2 pt2) pos) (sPar3 i j k m) := PS.wk (ps_par3 hc hN hi hj hk hij hik hjk hx hy hz ha hw hs) fun D σ H ⟨E, p, σm, mh, e1, R, kk⟩ =>
  ⟨E, p, σm, mh, e1, R, postS.of kk fun l mh1 q xs R1 x1 rv k1 => by
    match l, rv, k1 with
    | [u, v, w], rv, k1 =>
      have rv' : RVs _ _ _ _ := rv
      obtain ⟨x, t, rfl, h1, h2⟩ := rv'.cons_inv
      obtain ⟨y, t, rfl, h3, h4⟩ := h2.cons_inv
      obtain ⟨z, t, rfl, h5, h6⟩ := h4.cons_inv
      rw [h6.nil_inv]
      refine ⟨x, y, z, rfl, ?_⟩
      simp only at k1
      split at k1
      · rename_i hq
        have R2 := R1.setV hq.1 h1
        have R3 := R2.setV (i := j) (by rw [List.length_set]; exact hq.2.1) (h3.ext ext_un)
        have R4 := R3.setV (i := k) (by rw [List.length_set, List.length_set]; exact hq.2.2) ((h5.ext ext_un).ext ext_un)
        exact k1 (((q.un i).un j).un k) _ R4 (((ext_un (i := i)).trans (ext_un (i := j))).trans (ext_un (i := k)))
      · exact k1.elim
    | [], _, k1 => exact k1.elim
    | [_], _, k1 => exact k1.elim
    | [_, _], _, k1 => exact k1.elim
    | _ :: _ :: _ :: _ :: _, _, k1 => exact k1.elim⟩
end
theorem ru65 {k : Nat} {A : Around} (r : RoomG k A) : A.units + 65 < cLine := by have := r.un; omega

/-! ### the names of Python's own -/
theorem bo_len : bootBuiltins "len" = some (.builtin "len") := by first | rfl | decide +kernel
theorem bo_abs : bootBuiltins "abs" = some (.builtin "abs") := by first | rfl | decide +kernel
theorem bo_max : bootBuiltins "max" = some (.builtin "max") := by first | rfl | decide +kernel
theorem bo_min : bootBuiltins "min" = some (.builtin "min") := by first | rfl | decide +kernel
theorem bo_sum : bootBuiltins "sum" = some (.builtin "sum") := by first | rfl | decide +kernel
theorem bo_any : bootBuiltins "any" = some (.builtin "any") := by first | rfl | decide +kernel
theorem bo_all : bootBuiltins "all" = some (.builtin "all") := by first | rfl | decide +kernel
theorem bo_ord : bootBuiltins "ord" = some (.builtin "ord") := by first | rfl | decide +kernel
theorem bo_repr : bootBuiltins "repr" = some (.builtin "repr") := by first | rfl | decide +kernel
theorem bo_divmod : bootBuiltins "divmod" = some (.builtin "divmod") := by first | rfl | decide +kernel
theorem bo_sorted : bootBuiltins "sorted" = some (.builtin "sorted") := by first | rfl | decide +kernel
theorem bo_isinstance : bootBuiltins "isinstance" = some (.builtin "isinstance") := by first | rfl | decide +kernel
theorem bo_int : bootBuiltins "int" = some (.type "int") := by first | rfl | decide +kernel
theorem bo_bool : bootBuiltins "bool" = some (.type "bool") := by first | rfl | decide +kernel
theorem bo_str : bootBuiltins "str" = some (.type "str") := by first | rfl | decide +kernel
theorem bo_list : bootBuiltins "list" = some (.type "list") := by first | rfl | decide +kernel
theorem bo_tuple : bootBuiltins "tuple" = some (.type "tuple") := by first | rfl | decide +kernel
theorem bo_dict : bootBuiltins "dict" = some (.type "dict") := by first | rfl | decide +kernel
theorem bo_set : bootBuiltins "set" = some (.type "set") := by first | rfl | decide +kernel
/-- these names are not the text's own -/
def blt : List String := ["len", "abs", "max", "min", "sum", "any", "all", "ord", "repr", "divmod", "sorted", "isinstance", "int", "bool", "str", "list", "tuple", "dict", "set", "range", "enumerate", "zip", "reversed", "ValueError"]

/-- THE END of a law -/
theorem walkM {l : PySem.W.OpenLaw} {n k : Nat} {q : Program} {loose : List Str} {XP : (Str → Option Value) → Heap → Prop} {YP : World → Heap → Prop} {d : DefRec} {K : Params → PySem.W.Frag} {x : Str} {f : MF}
    (hn : l.most = some n) (hn2 : n ≤ sizeLine) (hdf : d.params.defaults = []) (hr : Room k callerA) (hY : ∀ (w : World) (h : Heap), YP w h → (K w.params).In h)
    (F : ∀ (w : World) (mg : Str → Option Value) (fa : Addr) (h : Heap), (K w.params).In h → h.Ns mainGlobals mg → mg d.name = some (.ref fa) →
      ∃ (cn : String → Addr) (fd : FuncData), (∀ (s : Shared) (u : Value), BindsTo s fd ⟨[u], []⟩ [(x, u)]) ∧ ∀ base : Heap, (K w.params).In base → base.Ns mainGlobals mg → FnG l.prog w (K w.params) mg base (L2.CX l.prog w) k fa fd [x] (spM (K w.params) cn 1 f))
    (hf : ∀ ns : List Int, ns.length ≤ n → (∀ z ∈ ns, Builtin.Int.intBits z ≤ 1048576) → ∃ h, f [.lst (ns.map Val.int)] [] = .ok (.bl true) h) :
    PySem.W.WalkO q loose XP YP l.row.toRowW d [] (fun f vs => PySem.call f vs) := by
  refine Att.attach_callB hn hdf fun w s₀ s₁ mg mb fa o pm cd doc a vs ns G Y ho hd hcd hmg hobj hints hlen hbits hg => ?_
  have KX := hY w _ Y
  obtain ⟨cn, fd, hb, hF⟩ := F w mg fa _ KX G.T.g hmg
  obtain ⟨h, hres⟩ := hf ns hlen hbits
  refine law_callG KX G.T.g G.T.b G.T.builtins G.T.nolimit hg hobj hints (Nat.le_trans hlen hn2) hr hF hb (fun H hO hS => ?_) fun H e s' z => ?_
  · have rvs : ∀ (C : Cn) (p : Pt) (l : List Int), RVs C p (l.map Val.int) (l.map V.int) := fun C p l => by
      induction l with
      | nil => exact .nil
      | cons i l ih => exact .cons (by unfold RV; rfl) ih
    have nF : ∀ b, ¬ (⟨[], [], [], H⟩ : Pt).F b := fun b z => by
      rcases z with z | z | z <;> cases z
    refine ⟨⟨[], [], [], H⟩, [.lst (ns.map Val.int)], [], rfl, rfl, ⟨rfl, fun n o e => (by cases e), ⟨fun n m a h => (by cases h), fun n m a h => (by cases h), fun n m a h => (by cases h), fun n a h => (by cases h), fun n a h => (by cases h)⟩, fun a z => (nF a z).elim⟩, .cons ?_ .nil, rfl, ?_⟩
    · unfold RV
      refine ⟨a, ns.map V.int, rfl, ?_, rvs _ _ ns⟩
      rcases hS with hS | ⟨ob, its, m, e1, e2, e3, e4, e5, e6⟩
      · exact .inl ⟨nF a, hS⟩
      · have e7 := KX a ob e1
        rw [hobj] at e7
        cases e7
        cases e4
        exact .inr ⟨vs, _, e1, by rw [← List.size_toArray]; exact e5, by simpa using e6⟩
    · rw [hres]
      intro q x _ _ _ _ _ rv
      unfold RV at rv
      exact rv
  · obtain ⟨_, _, _, _, _, _, _, _, _, _, _, _, z⟩ := z
    exact z.elim
end Mi
/-! Mi12: what the generated proofs name. -/
namespace Mi
open PySem L2 PyProof.Rows
section
variable {P : Program} {w : World} {K : PySem.W.Frag} {mg : Str → Option Value} {base : Heap} {N : List Str} {qual : Str} {sc : Scope} {f : Addr} {cd : Value} {A : Around} {outer : List PySem.Env} {s : Shared} {H : Hp} {E : XK}
theorem tkM : Takes (cxOf (L2.CX P w) P w K mg base N qual sc f cd A outer s H E) (WD E) := takes_of rfl rfl rfl rfl
theorem hpM : PassesOwn (model P w) (cxOf (L2.CX P w) P w K mg base N qual sc f cd A outer s H E).A (cxOf (L2.CX P w) P w K mg base N qual sc f cd A outer s H E).env (cxOf (L2.CX P w) P w K mg base N qual sc f cd A outer s H E).xe := passes_of rfl
theorem hxM (σ : L2.St) : PassesAt (L2.CX P w) (cxOf (L2.CX P w) P w K mg base N qual sc f cd A outer s H E) σ (WE (WD E) σ) := passAt tkM σ
end
section
variable {X : Cx} {cn : String → Addr} {W : WX} {e : Expr} {es : List Expr} {pos p0 : Pos} {x : Str} {id T : String}
/-- calls of Python's own, by their record -/
theorem e_bc {mo : List Val → MH → Res Val} {m : ME (List Val)} (c : CallB X cn W (.builtin id) mo) (hm : X.mg x = none) (hv : bootBuiltins x = some (.builtin id)) (ha : AT X cn W (e :: es) m)
    (hg : Gl X x := by rfl) (hn : x ≠ "__name__" := by decide) (hdb : (x == ("__debug__" : Str)) = false := by decide)
    (hs : starEach (e :: es) X.env = (false, eval e X.env) :: starEach es X.env := by rfl) (hpl : (backTo pos (starEach es X.env)).any (·.1) = false := by rfl) : EM X cn W (.Call (.Name x p0) (e :: es) [] pos) (mCall mo m) :=
  e_callB c.ok c.ent hm hv ha hg hn hdb hs hpl
theorem e_bt {mo : List Val → MH → Res Val} {m : ME (List Val)} (c : CallB X cn W (.type T) mo) (hm : X.mg x = none) (hv : bootBuiltins x = some (.type T)) (ha : AT X cn W (e :: es) m)
    (hg : Gl X x := by rfl) (hn : x ≠ "__name__" := by decide) (hdb : (x == ("__debug__" : Str)) = false := by decide)
    (hs : starEach (e :: es) X.env = (false, eval e X.env) :: starEach es X.env := by rfl) (hpl : (backTo pos (starEach es X.env)).any (·.1) = false := by rfl) : EM X cn W (.Call (.Name x p0) (e :: es) [] pos) (mCall mo m) :=
  e_callT c.ok c.ent hm hv ha hg hn hdb hs hpl
theorem f_list {m : ME (List Val)} (hm : X.mg "list" = none) (ha : AT X cn W [e] m)
    (hg : Gl X "list" := by rfl) (hs : starEach [e] X.env = (false, eval e X.env) :: starEach [] X.env := by rfl) (hpl : (backTo pos (starEach [] X.env)).any (·.1) = false := by rfl) : EF X cn W (.Call (.Name "list" p0) [e] [] pos) (mCall listF m) :=
  f_callT call_list_of entF_list listF_ok hm bo_list ha hg (by decide) (by decide) hs hpl
theorem e_gS {y : Str} {l : Tx} (h : ∃ t, X.mg x = some (.str y t)) (hl : y = S l) (hg : Gl X x := by rfl) (hd : (x == ("__debug__" : Str)) = false := by decide) : EM X cn W (.Name x pos) (mC (.str l)) := by
  obtain ⟨t, h⟩ := h
  exact e_glob (y := .str y) hg h ⟨t, rfl⟩ (fun p => by unfold RV; rw [hl]) hd
theorem e_gI {i : Int} (h : ∃ t, X.mg x = some (.int i t)) (hg : Gl X x := by rfl) (hd : (x == ("__debug__" : Str)) = false := by decide) : EM X cn W (.Name x pos) (mC (.int i)) := by
  obtain ⟨t, h⟩ := h
  exact e_glob (y := .int i) hg h ⟨t, rfl⟩ (fun p => by unfold RV; rfl) hd
end
end Mi
/-! Mi13: reasoning about mirrors. What follows is an instance, so that simp doesn't look into it before it's its turn. -/
namespace Mi
open PySem L2 PyProof.Rows

/-- an equation that simp doesn't take for a definition's own: its proof is kept, and the kernel needs not find it anew -/
theorem nrf {α : Sort _} {a b : α} (h : a = b) : a = b := h
class Kt (α : Type) where
  run : α → MH → Prop
class Kx where
  run : String → Option Val → MH → Prop
class KS where
  nx : Env → MH → Prop
  rt : Val → MH → Prop := fun _ _ => False
  bk : Env → MH → Prop := fun _ _ => False
  ct : Env → MH → Prop := fun _ _ => False
  ex : String → Option Val → Env → MH → Prop := fun _ _ _ _ => False
/-- a result is there, and what follows holds of it -/
def Res.wp {α : Type} (r : Res α) [Q : Kt α] [X : Kx] : Prop := match r with
  | .ok v h => Q.run v h
  | .exc c f h => X.run c f h
  | .bad => False
abbrev noX : Kx := ⟨fun _ _ _ => False⟩
def SRes.wp (r : SRes) [K : KS] : Prop := match r with
  | .next σ h => K.nx σ h
  | .ret v h => K.rt v h
  | .brk σ h => K.bk σ h
  | .cont σ h => K.ct σ h
  | .exc c f σ h => K.ex c f σ h
  | .bad => False
abbrev KS.x (K : KS) (σ : Env) : Kx := ⟨fun c f h => K.ex c f σ h⟩
section
variable {α β : Type} {σ : Env} {h : MH} {v : Val}
@[simp] theorem kt_run {f : α → MH → Prop} {a : α} : @Kt.run α ⟨f⟩ a h = f a h := nrf rfl
@[simp] theorem kx_run {f : String → Option Val → MH → Prop} {c : String} {x : Option Val} : @Kx.run ⟨f⟩ c x h = f c x h := nrf rfl
@[simp] theorem ks_nx {n r b c e} : @KS.nx ⟨n, r, b, c, e⟩ σ h = n σ h := nrf rfl
@[simp] theorem ks_rt {n r b c e} : @KS.rt ⟨n, r, b, c, e⟩ v h = r v h := nrf rfl
@[simp] theorem ks_bk {n r b c e} : @KS.bk ⟨n, r, b, c, e⟩ σ h = b σ h := nrf rfl
@[simp] theorem ks_ct {n r b c e} : @KS.ct ⟨n, r, b, c, e⟩ σ h = c σ h := nrf rfl
@[simp] theorem ks_ex {n r b c e} {d : String} {x : Option Val} : @KS.ex ⟨n, r, b, c, e⟩ d x σ h = e d x σ h := nrf rfl
@[simp ↓] theorem wp_ok [Q : Kt α] [X : Kx] {a : α} : (Res.ok a h).wp = Q.run a h := nrf rfl
@[simp ↓] theorem wp_exc [Q : Kt α] [X : Kx] {c : String} {f : Option Val} : (Res.exc c f h : Res α).wp = X.run c f h := nrf rfl
@[simp ↓] theorem wp_bad [Q : Kt α] [X : Kx] : (Res.bad : Res α).wp = False := nrf rfl
theorem wp_bind [Q : Kt α] [X : Kx] {r : Res β} {k : β → MH → Res α} : (r.bind k).wp = @Res.wp β r ⟨fun v h => (k v h).wp⟩ X := by cases r <;> rfl
@[simp ↓] theorem swp_next [K : KS] : (SRes.next σ h).wp = K.nx σ h := nrf rfl
@[simp ↓] theorem swp_ret [K : KS] : (SRes.ret v h).wp = K.rt v h := nrf rfl
@[simp ↓] theorem swp_brk [K : KS] : (SRes.brk σ h).wp = K.bk σ h := nrf rfl
@[simp ↓] theorem swp_cont [K : KS] : (SRes.cont σ h).wp = K.ct σ h := nrf rfl
@[simp ↓] theorem swp_exc [K : KS] {c : String} {f : Option Val} : (SRes.exc c f σ h).wp = K.ex c f σ h := nrf rfl
@[simp ↓] theorem swp_bad [K : KS] : SRes.bad.wp = False := nrf rfl
theorem swp_ofE [K : KS] {r : Res α} {k : α → MH → SRes} : (ofE r σ k).wp = @Res.wp α r ⟨fun v h => (k v h).wp⟩ (K.x σ) := by cases r <;> rfl
theorem swp_seq [K : KS] {r : SRes} {k : MS} : (r.seq k).wp = @SRes.wp r { K with nx := fun σ h => (k σ h).wp } := by cases r <;> rfl
theorem Res.wp_mono {Q : Kt α} {X : Kx} {r : Res α} {Q' : Kt α} {X' : Kx} (w : @Res.wp α r Q X) (f : ∀ v h, Q.run v h → Q'.run v h) (g : ∀ c x h, X.run c x h → X'.run c x h) : @Res.wp α r Q' X' := by
  cases r with
  | ok v h => exact f _ _ w
  | exc c x h => exact g _ _ _ w
  | bad => exact w
theorem SRes.wp_mono {K : KS} {r : SRes} {K' : KS} (w : @SRes.wp r K) (h1 : ∀ σ h, K.nx σ h → K'.nx σ h) (h2 : ∀ v h, K.rt v h → K'.rt v h := by exact fun _ _ => id) (h3 : ∀ σ h, K.bk σ h → K'.bk σ h := by exact fun _ _ => id) (h4 : ∀ σ h, K.ct σ h → K'.ct σ h := by exact fun _ _ => id)
    (h5 : ∀ c x σ h, K.ex c x σ h → K'.ex c x σ h := by exact fun _ _ _ _ => id) : @SRes.wp r K' := by
  cases r with
  | next σ h => exact h1 _ _ w
  | ret v h => exact h2 _ _ w
  | brk σ h => exact h3 _ _ w
  | cont σ h => exact h4 _ _ w
  | exc c f σ h => exact h5 _ _ _ _ w
  | bad => exact w
theorem wp_ite [Q : Kt α] [X : Kx] {c : Prop} [Decidable c] {a b : Res α} (h1 : c → a.wp) (h2 : ¬ c → b.wp) : (if c then a else b).wp := by
  by_cases z : c
  · rw [if_pos z]; exact h1 z
  · rw [if_neg z]; exact h2 z
theorem swp_ite [K : KS] {c : Prop} [Decidable c] {a b : SRes} (h1 : c → a.wp) (h2 : ¬ c → b.wp) : (if c then a else b).wp := by
  by_cases z : c
  · rw [if_pos z]; exact h1 z
  · rw [if_neg z]; exact h2 z

/-! ### the combinators -/
/-- one of two: not looked into before it is known which -/
def Br (c : Prop) [Decidable c] (A B : Kt Unit) : Prop := if c then A.run () [] else B.run () []
class Cnd (p : Prop) where
  a : Prop
  b : Prop
/-- if c then a else b, the branches instances -/
def Ch (c : Prop) [d : Decidable c] [K : Cnd True] : Prop := if c then K.a else K.b
@[simp] theorem ch_t {c : Prop} {dc : Decidable c} {A B : Prop} (h : c) : @Ch c dc ⟨A, B⟩ = A := if_pos h
@[simp] theorem ch_f {c : Prop} {dc : Decidable c} {A B : Prop} (h : ¬ c) : @Ch c dc ⟨A, B⟩ = B := if_neg h
theorem ch_of {c : Prop} {dc : Decidable c} {A B : Prop} (h1 : c → A) (h2 : ¬ c → B) : @Ch c dc ⟨A, B⟩ := by
  by_cases z : c
  · rw [ch_t z]; exact h1 z
  · rw [ch_f z]; exact h2 z
theorem ch_go {c : Prop} {dc : Decidable c} {A B : Prop} (h : c) (a : A) : @Ch c dc ⟨A, B⟩ := by rw [ch_t h]; exact a
theorem ch_no {c : Prop} {dc : Decidable c} {A B : Prop} (h : ¬ c) (b : B) : @Ch c dc ⟨A, B⟩ := by rw [ch_f h]; exact b
theorem ch_eq {c : Prop} {dc : Decidable c} {A B : Prop} : @Ch c dc ⟨A, B⟩ = if c then A else B := rfl
variable {mo mo' : Val → Val → MH → Res Val} {a b c m n : ME Val} {cb ma mb : ME Bool} {ml nl : ME (List Val)} {lo hi : ME (Option Int)} {i j k : Nat}
@[simp ↓] theorem wp_C [QV : Kt Val] [X : Kx] : (mC v σ h).wp = QV.run v h := nrf rfl
@[simp ↓] theorem wp_Yes [QB : Kt Bool] [X : Kx] : (mYes σ h).wp = QB.run true h := nrf rfl
@[simp ↓] theorem wp_Nil [QL : Kt (List Val)] [X : Kx] : (mNil σ h).wp = QL.run [] h := nrf rfl
@[simp ↓] theorem wp_NoP [QO : Kt (Option Int)] [X : Kx] : (mNoP σ h).wp = QO.run none h := nrf rfl
def gv : Option Slot → Option Val
  | some (.val v) => some v
  | _ => none
def go : Option Slot → Option (List Val)
  | some (.own l) => some l
  | _ => none
@[simp] theorem gv_val : gv (some (.val v)) = some v := rfl
@[simp] theorem go_own {l : List Val} : go (some (.own l)) = some l := rfl
/-- a value that may be missing -/
def Op {γ : Type} (o : Option γ) [K : Kt γ] (h : MH) : Prop := match o with
  | some v => K.run v h
  | none => False
@[simp] theorem op_some {γ : Type} [K : Kt γ] {x : γ} : Op (some x) h = K.run x h := nrf rfl
@[simp] theorem op_none {γ : Type} [K : Kt γ] : Op (none : Option γ) h = False := nrf rfl
@[simp ↓] theorem wp_V [QV : Kt Val] [X : Kx] : (mV i σ h).wp = Op (gv σ[i]?) h := by
  unfold mV gv
  cases σ[i]? with
  | none => rfl
  | some s => cases s <;> rfl
@[simp ↓] theorem wp_O [QV : Kt Val] [X : Kx] : (mO i σ h).wp = @Op _ (go σ[i]?) ⟨fun l h => QV.run (.lst l) h⟩ h := by
  unfold mO go
  cases σ[i]? with
  | none => rfl
  | some s => cases s <;> rfl
@[simp ↓] theorem wp_lift [QV : Kt Val] [X : Kx] {o : Option Val} : (lift o h).wp = Op o h := by cases o <;> rfl
@[simp] theorem rb_ok {α β : Type} {a : α} {h : MH} {k : α → MH → Res β} : (Res.ok a h).bind k = k a h := nrf rfl
@[simp ↓] theorem wp_ifok {γ : Type} [Q : Kt γ] [X : Kx] {c : Prop} [Decidable c] {x : γ} {h : MH} : (if c then Res.ok x h else Res.bad).wp = @Ch c _ ⟨Q.run x h, False⟩ := by
  by_cases z : c
  · rw [if_pos z, ch_t z]; rfl
  · rw [if_neg z, ch_f z]; rfl
@[simp ↓] theorem op_ifs {γ : Type} [Q : Kt γ] {c : Prop} [Decidable c] {x : γ} {h : MH} : Op (if c then some x else none) h = @Ch c _ ⟨Q.run x h, False⟩ := by
  by_cases z : c
  · rw [if_pos z, ch_t z]; rfl
  · rw [if_neg z, ch_f z]; rfl
theorem wpb {α β : Type} (r : Res β) (k : β → MH → Res α) (Q : Kt α) (X : Kx) : @Res.wp α (r.bind k) Q X = @Res.wp β r ⟨fun v h => @Res.wp α (k v h) Q X⟩ X := by cases r <;> rfl
theorem wpl (o : Option Val) (h : MH) (Q : Kt Val) (X : Kx) : @Res.wp Val (lift o h) Q X = @Op Val o Q h := by cases o <;> rfl
@[simp ↓] theorem wp_Bin [QV : Kt Val] [X : Kx] : (mBin mo a b σ h).wp = @Res.wp Val (a σ h) ⟨fun x h1 => @Res.wp Val (b σ h1) ⟨fun y h2 => (mo x y h2).wp⟩ X⟩ X := by
  unfold mBin
  cases a σ h with
  | ok x h1 => simp only [rb_ok, wp_ok, kt_run]; exact wpb _ _ _ _
  | _ => rfl
@[simp ↓] theorem wp_Cons [QL : Kt (List Val)] [X : Kx] : (mCons m ml σ h).wp = @Res.wp Val (m σ h) ⟨fun v h1 => @Res.wp _ (ml σ h1) ⟨fun l h2 => QL.run (v :: l) h2⟩ X⟩ X := by
  unfold mCons
  cases m σ h with
  | ok x h1 => simp only [rb_ok, wp_ok, kt_run]; exact wpb _ _ _ _
  | _ => rfl
@[simp ↓] theorem wp_Map [X : Kx] {γ δ : Type} [Kt δ] {f : γ → δ} {m : ME γ} : (mMap f m σ h).wp = @Res.wp γ (m σ h) ⟨fun v h1 => Kt.run (f v) h1⟩ X := by
  unfold mMap
  cases m σ h <;> rfl
@[simp ↓] theorem wp_NewL [QV : Kt Val] [X : Kx] : (mNewL ml σ h).wp = @Res.wp _ (ml σ h) ⟨fun l h1 => QV.run (.ref h1.length) (h1 ++ [.lst l])⟩ X := by unfold mNewL; simp only [wp_bind]; rfl
def negV : Val → Option Val
  | .int i => some (.int (-i))
  | _ => none
@[simp] theorem neg_int {i : Int} : negV (.int i) = some (.int (-i)) := rfl
@[simp ↓] theorem wp_Neg [QV : Kt Val] [X : Kx] : (mNeg m σ h).wp = @Res.wp _ (m σ h) ⟨fun v h1 => Op (negV v) h1⟩ X := by
  unfold mNeg; simp only [wp_bind]
  cases m σ h with
  | ok v h1 => cases v <;> rfl
  | _ => rfl
@[simp ↓] theorem wp_Truth [QB : Kt Bool] [X : Kx] : (mTruth m σ h).wp = @Res.wp _ (m σ h) ⟨fun v h1 => Op (truthV h1 v) h1⟩ X := by
  unfold mTruth; simp only [wp_bind]
  cases m σ h with
  | ok v h1 => show Res.wp (match truthV h1 v with | some b => _ | none => _) = _; simp only [kt_run, Res.wp]; cases truthV h1 v <;> rfl
  | _ => rfl
def blV : Val → Option Bool
  | .bl b => some b
  | _ => none
@[simp] theorem blV_bl {b : Bool} : blV (.bl b) = some b := rfl
@[simp ↓] theorem wp_AsB [QB : Kt Bool] [X : Kx] : (mAsB m σ h).wp = @Res.wp _ (m σ h) ⟨fun v h1 => Op (blV v) h1⟩ X := by
  unfold mAsB; simp only [wp_bind]
  cases m σ h with
  | ok v h1 => cases v <;> rfl
  | _ => rfl
@[simp ↓] theorem wp_Chain [QV : Kt Val] [X : Kx] : (mChain mo mo' a b c σ h).wp = @Res.wp _ (a σ h) ⟨fun x h1 => @Res.wp _ (b σ h1) ⟨fun y h2 => @Res.wp _ (mo x y h2) ⟨fun z h3 => @Op _ (blV z) ⟨fun t h3 => @Ch (t = true) _ ⟨@Res.wp _ (c σ h3) ⟨fun w h4 => (mo' y w h4).wp⟩ X, QV.run (.bl false) h3⟩⟩ h3⟩ X⟩ X⟩ X := by
  unfold mChain
  cases a σ h with
  | ok x h1 =>
    simp only [rb_ok, wp_ok, kt_run]
    cases b σ h1 with
    | ok y h2 =>
      simp only [rb_ok, wp_ok, kt_run]
      cases mo x y h2 with
      | ok z h3 =>
        cases z with
        | bl t =>
          cases t with
          | true => simp only [rb_ok, wp_ok, kt_run]; exact wpb _ _ _ _
          | false => rfl
        | _ => rfl
      | _ => rfl
    | _ => rfl
  | _ => rfl
@[simp ↓] theorem wp_And [QB : Kt Bool] [X : Kx] : (mAnd ma mb σ h).wp = @Res.wp _ (ma σ h) ⟨fun t h1 => @Ch (t = true) _ ⟨(mb σ h1).wp, QB.run false h1⟩⟩ X := by
  unfold mAnd; simp only [wp_bind]
  cases ma σ h with
  | ok t h1 => cases t <;> rfl
  | _ => rfl
@[simp ↓] theorem wp_Or [QB : Kt Bool] [X : Kx] : (mOr ma mb σ h).wp = @Res.wp _ (ma σ h) ⟨fun t h1 => @Ch (t = true) _ ⟨QB.run true h1, (mb σ h1).wp⟩⟩ X := by
  unfold mOr; simp only [wp_bind]
  cases ma σ h with
  | ok t h1 => cases t <;> rfl
  | _ => rfl
@[simp ↓] theorem wp_Not [QB : Kt Bool] [X : Kx] : (mNot ma σ h).wp = @Res.wp _ (ma σ h) ⟨fun t h1 => QB.run (!t) h1⟩ X := by unfold mNot; simp only [wp_bind]; rfl
@[simp ↓] theorem wp_AndV [QV : Kt Val] [X : Kx] : (mAndV a b σ h).wp = @Res.wp _ (a σ h) ⟨fun v h1 => @Op _ (blV v) ⟨fun t h1 => @Ch (t = true) _ ⟨(b σ h1).wp, QV.run (.bl false) h1⟩⟩ h1⟩ X := by
  unfold mAndV; simp only [wp_bind]
  cases a σ h with
  | ok v h1 =>
    cases v with
    | bl t => cases t <;> rfl
    | _ => rfl
  | _ => rfl
@[simp ↓] theorem wp_OrV [QV : Kt Val] [X : Kx] : (mOrV a b σ h).wp = @Res.wp _ (a σ h) ⟨fun v h1 => @Op _ (blV v) ⟨fun t h1 => @Ch (t = true) _ ⟨QV.run (.bl true) h1, (b σ h1).wp⟩⟩ h1⟩ X := by
  unfold mOrV; simp only [wp_bind]
  cases a σ h with
  | ok v h1 =>
    cases v with
    | bl t => cases t <;> rfl
    | _ => rfl
  | _ => rfl
@[simp ↓] theorem wp_NotV [QV : Kt Val] [X : Kx] : (mNotV a σ h).wp = @Res.wp _ (a σ h) ⟨fun v h1 => @Op _ (blV v) ⟨fun t h1 => QV.run (.bl (!t)) h1⟩ h1⟩ X := by
  unfold mNotV; simp only [wp_bind]
  cases a σ h with
  | ok v h1 => cases v <;> rfl
  | _ => rfl
@[simp ↓] theorem wp_If [X : Kx] {γ : Type} [Kt γ] {x y : ME γ} : (mIf cb x y σ h).wp = @Res.wp _ (cb σ h) ⟨fun t h1 => @Ch (t = true) _ ⟨(x σ h1).wp, (y σ h1).wp⟩⟩ X := by
  unfold mIf; simp only [wp_bind]
  cases cb σ h with
  | ok t h1 => cases t <;> rfl
  | _ => rfl
def itV : Val → Option Int
  | .int i => some i
  | _ => none
@[simp] theorem itV_int {i : Int} : itV (.int i) = some i := rfl
@[simp ↓] theorem wp_P [QO : Kt (Option Int)] [X : Kx] : (mP m σ h).wp = @Res.wp _ (m σ h) ⟨fun v h1 => @Op _ (itV v) ⟨fun i h1 => QO.run (some i) h1⟩ h1⟩ X := by
  unfold mP; simp only [wp_bind]
  cases m σ h with
  | ok v h1 => cases v <;> rfl
  | _ => rfl
@[simp ↓] theorem wp_Sl [QV : Kt Val] [X : Kx] : (mSl m lo hi σ h).wp = @Res.wp _ (m σ h) ⟨fun v h1 => @Res.wp _ (lo σ h1) ⟨fun l h2 => @Res.wp _ (hi σ h2) ⟨fun u h3 => Op (slV (deref h3 v) l u) h3⟩ X⟩ X⟩ X := by
  unfold mSl
  cases m σ h with
  | ok v h1 =>
    simp only [rb_ok, wp_ok, kt_run]
    cases lo σ h1 with
    | ok l h2 =>
      simp only [rb_ok, wp_ok, kt_run]
      cases hi σ h2 with
      | ok u h3 => simp only [rb_ok, wp_ok, kt_run]; exact wpl _ _ _ _
      | _ => rfl
    | _ => rfl
  | _ => rfl
@[simp ↓] theorem wp_Tup [QV : Kt Val] [X : Kx] : (mTup ml σ h).wp = @Res.wp _ (ml σ h) ⟨fun l h1 => @Ch (l.length ≤ 16777216) _ ⟨QV.run (.tup l) h1, False⟩⟩ X := by
  unfold mTup; simp only [wp_bind]
  cases ml σ h with
  | ok l h1 => by_cases z : l.length ≤ 16777216 <;> simp [z]
  | _ => rfl
@[simp ↓] theorem wp_Lst [QL : Kt (List Val)] [X : Kx] : (mLst ml σ h).wp = @Res.wp _ (ml σ h) ⟨fun l h1 => @Ch (l.length ≤ 16777216) _ ⟨QL.run l h1, False⟩⟩ X := by
  unfold mLst; simp only [wp_bind]
  cases ml σ h with
  | ok l h1 => by_cases z : l.length ≤ 16777216 <;> simp [z]
  | _ => rfl
@[simp ↓] theorem wp_Call [X : Kx] {γ : Type} [Kt γ] {f : List Val → MH → Res γ} : (mCall f ml σ h).wp = @Res.wp _ (ml σ h) ⟨fun l h1 => (f l h1).wp⟩ X := by unfold mCall; simp only [wp_bind]
@[simp ↓] theorem wp_fn1 [QV : Kt Val] [X : Kx] {f : MH → Val → Option Val} : (fn1 f [v] h).wp = Op (f h v) h := wp_lift
@[simp ↓] theorem wp_fn2 [QV : Kt Val] [X : Kx] {f : MH → Val → Val → Option Val} {w : Val} : (fn2 f [v, w] h).wp = Op (f h v w) h := wp_lift
def lsV : Val → Option (List Val)
  | .lst l => some l
  | _ => none
def ltV : Val → Option (List Val)
  | .lst l => some l
  | .tup l => some l
  | _ => none
@[simp] theorem lsV_l {l : List Val} : lsV (.lst l) = some l := rfl
@[simp] theorem ltV_l {l : List Val} : ltV (.lst l) = some l := rfl
@[simp] theorem ltV_t {l : List Val} : ltV (.tup l) = some l := rfl
@[simp ↓] theorem wp_listF [QL : Kt (List Val)] [X : Kx] : (listF [v] h).wp = Op (ltV (deref h v)) h := by
  unfold listF ltV
  simp only
  cases deref h v <;> rfl
@[simp ↓] theorem wp_Isi [QV : Kt Val] [X : Kx] {t : String} : (mIsi t m σ h).wp = @Res.wp _ (m σ h) ⟨fun v h1 => Op (isiV t h1 v) h1⟩ X := by
  unfold mIsi
  cases m σ h with
  | ok v h1 => simp only [rb_ok, wp_ok, kt_run]; exact wpl _ _ _ _
  | _ => rfl
def sgV : Val → Option Tx
  | .str s => some s
  | _ => none
@[simp] theorem sgV_s {s : Tx} : sgV (.str s) = some s := rfl
@[simp ↓] theorem wp_Tx [QV : Kt Val] [X : Kx] {f : MH → Tx → Val → Option Val} : (mTx f m n σ h).wp = @Res.wp _ (m σ h) ⟨fun o h1 => @Op _ (sgV o) ⟨fun s h1 => @Res.wp _ (n σ h1) ⟨fun v h2 => Op (f h2 s v) h2⟩ X⟩ h1⟩ X := by
  unfold mTx; simp only [wp_bind]
  cases m σ h with
  | ok o h1 =>
    cases o with
    | str s =>
      simp only [rb_ok, wp_ok, kt_run, sgV, op_some]
      cases n σ h1 with
      | ok v h2 => simp only [rb_ok, wp_ok, kt_run]; exact wpl _ _ _ _
      | _ => rfl
    | _ => rfl
  | _ => rfl
@[simp ↓] theorem wp_RevS [QV : Kt Val] [X : Kx] : (mRevS m σ h).wp = @Res.wp _ (m σ h) ⟨fun v h1 => @Op _ (sgV v) ⟨fun s h1 => @Ch (s.length ≤ 16777216) _ ⟨QV.run (.str s.reverse) h1, False⟩⟩ h1⟩ X := by
  unfold mRevS; simp only [wp_bind]
  cases m σ h with
  | ok v h1 =>
    cases v with
    | str s =>
      show Res.wp (if s.length ≤ 16777216 then _ else _) = @Ch (s.length ≤ 16777216) _ ⟨_, _⟩
      by_cases z : s.length ≤ 16777216 <;> simp [z]
    | _ => rfl
  | _ => rfl
@[simp ↓] theorem wp_RevL [QL : Kt (List Val)] [X : Kx] : (mRevL m σ h).wp = @Res.wp _ (m σ h) ⟨fun v h1 => @Op _ (lsV (deref h1 v)) ⟨fun l h1 => QL.run l.reverse h1⟩ h1⟩ X := by
  unfold mRevL lsV; simp only [wp_bind]
  cases m σ h with
  | ok v h1 => simp only [wp_ok, kt_run]; cases deref h1 v <;> rfl
  | _ => rfl
@[simp ↓] theorem wp_Fn [QV : Kt Val] [X : Kx] {f : MF} : (mFn i f ml σ h).wp = @Res.wp _ (ml σ h) ⟨fun l h1 => @Ch (l.length = i) _ ⟨(f l h1).wp, False⟩⟩ X := by
  unfold mFn; simp only [wp_bind]
  cases ml σ h with
  | ok l h1 => by_cases z : l.length = i <;> simp [z]
  | _ => rfl
@[simp] theorem seqOf_l {l : List Val} : seqOf (.lst l) = some l := rfl
@[simp] theorem seqOf_t {l : List Val} : seqOf (.tup l) = some l := rfl
@[simp] theorem seqOf_s {s : Tx} : seqOf (.str s) = some (s.map fun c => .str [c]) := rfl
/-- what may be walked -/
def seqI (v : Val) : Option (List Val) := match v with
  | .lst l => some l
  | .tup l => some l
  | .ktp l => some l
  | .str s => some (s.map fun c => .str [c])
  | _ => none
@[simp] theorem seqI_l {l : List Val} : seqI (.lst l) = some l := rfl
@[simp] theorem seqI_t {l : List Val} : seqI (.tup l) = some l := rfl
@[simp] theorem seqI_k {l : List Val} : seqI (.ktp l) = some l := rfl
@[simp] theorem seqI_s {s : Tx} : seqI (.str s) = some (s.map fun c => .str [c]) := rfl
@[simp ↓] theorem wp_Iter [QL : Kt (List Val)] [X : Kx] : (mIter m σ h).wp = @Res.wp _ (m σ h) ⟨fun v h1 => Op (seqI v) h1⟩ X := by
  unfold mIter; simp only [wp_bind]
  cases m σ h with
  | ok v h1 => cases v <;> rfl
  | _ => rfl
@[simp ↓] theorem wp_Range1 [QL : Kt (List Val)] [X : Kx] : (mRange1 m σ h).wp = @Res.wp _ (m σ h) ⟨fun v h1 => @Op _ (itV v) ⟨fun j h1 => @Ch (-(2 ^ 62) ≤ j ∧ j < 2 ^ 62) _ ⟨QL.run (rangeL 0 j) h1, False⟩⟩ h1⟩ X := by
  unfold mRange1; simp only [wp_bind]
  cases m σ h with
  | ok v h1 =>
    cases v with
    | int j =>
      show Res.wp (if -(2 ^ 62) ≤ j ∧ j < 2 ^ 62 then _ else _) = @Ch (-(2 ^ 62) ≤ j ∧ j < 2 ^ 62) _ ⟨_, _⟩
      by_cases z : -(2 ^ 62) ≤ j ∧ j < 2 ^ 62
      · rw [if_pos z, ch_t z]; rfl
      · rw [if_neg z, ch_f z]; rfl
    | _ => rfl
  | _ => rfl
@[simp ↓] theorem wp_Range2 [QL : Kt (List Val)] [X : Kx] : (mRange2 m n σ h).wp = @Res.wp _ (m σ h) ⟨fun v h1 => @Res.wp _ (n σ h1) ⟨fun w h2 => @Op _ (itV v) ⟨fun i h2 => @Op _ (itV w) ⟨fun j h2 => @Ch (-(2 ^ 62) ≤ i ∧ i < 2 ^ 62 ∧ -(2 ^ 62) ≤ j ∧ j < 2 ^ 62) _ ⟨QL.run (rangeL i j) h2, False⟩⟩ h2⟩ h2⟩ X⟩ X := by
  unfold mRange2; simp only [wp_bind]
  cases m σ h with
  | ok v h1 =>
    simp only [wp_ok, kt_run]
    cases n σ h1 with
    | ok w h2 =>
      cases v with
      | int i =>
        cases w with
        | int j =>
          show Res.wp (if -(2 ^ 62) ≤ i ∧ i < 2 ^ 62 ∧ -(2 ^ 62) ≤ j ∧ j < 2 ^ 62 then _ else _) = @Ch (-(2 ^ 62) ≤ i ∧ i < 2 ^ 62 ∧ -(2 ^ 62) ≤ j ∧ j < 2 ^ 62) _ ⟨_, _⟩
          by_cases z : -(2 ^ 62) ≤ i ∧ i < 2 ^ 62 ∧ -(2 ^ 62) ≤ j ∧ j < 2 ^ 62
          · rw [if_pos z, ch_t z]; rfl
          · rw [if_neg z, ch_f z]; rfl
        | _ => rfl
      | _ => cases w <;> rfl
    | _ => rfl
  | _ => rfl
@[simp ↓] theorem wp_Enum [QL : Kt (List Val)] [X : Kx] : (mEnum m σ h).wp = @Res.wp _ (m σ h) ⟨fun v h1 => @Op _ (seqOf v) ⟨fun l h1 => QL.run (enumF 0 l) h1⟩ h1⟩ X := by
  unfold mEnum; simp only [wp_bind]
  cases m σ h with
  | ok v h1 => cases v <;> rfl
  | _ => rfl
@[simp ↓] theorem wp_Zip [QL : Kt (List Val)] [X : Kx] : (mZip m n σ h).wp = @Res.wp _ (m σ h) ⟨fun v h1 => @Res.wp _ (n σ h1) ⟨fun w h2 => @Op _ (seqOf v) ⟨fun l h2 => @Op _ (seqOf w) ⟨fun k h2 => QL.run (zipF l k) h2⟩ h2⟩ h2⟩ X⟩ X := by
  unfold mZip
  cases m σ h with
  | ok v h1 =>
    simp only [rb_ok, wp_ok, kt_run]
    cases n σ h1 with
    | ok w h2 => simp only [rb_ok, wp_ok, kt_run]; cases v <;> cases w <;> rfl
    | _ => rfl
  | _ => rfl
@[simp ↓] theorem wp_Lc [QL : Kt (List Val)] [X : Kx] {vs : List Nat} {mi : ME (List Val)} {t : Tg} : (mLc vs mi t cb m σ h).wp = @Res.wp _ (mi σ h) ⟨fun l h1 => @Ch (okWipe σ vs = true) _ ⟨(lcL t cb m l [] (wipeM σ vs) h1).wp, False⟩⟩ X := by
  unfold mLc; simp only [wp_bind]
  cases mi σ h with
  | ok l h1 => by_cases z : okWipe σ vs = true <;> simp [z]
  | _ => rfl
end
end Mi
/-! Mi14: reasoning about mirrors: statements, loops, comprehensions, the heap of ids. -/
namespace Mi
open PySem L2 PyProof.Rows

/-! ### values -/
section
variable {h : MH}
@[simp] theorem dr_non : deref h .non = .non := rfl
@[simp] theorem dr_bl {b : Bool} : deref h (.bl b) = .bl b := rfl
@[simp] theorem dr_int {b : Int} : deref h (.int b) = .int b := rfl
@[simp] theorem dr_str {b : Tx} : deref h (.str b) = .str b := rfl
@[simp] theorem dr_tup {b : List Val} : deref h (.tup b) = .tup b := rfl
@[simp] theorem dr_lst {b : List Val} : deref h (.lst b) = .lst b := rfl
def drf (n : Nat) : Option MObj → Val
  | some (.lst l) => .lst l
  | _ => .ref n
@[simp] theorem drf_lst {n : Nat} {l : List Val} : drf n (some (.lst l)) = .lst l := rfl
@[simp] theorem drf_ins {n : Nat} {c : String} {l : List (String × Val)} : drf n (some (.ins c l)) = .ref n := rfl
@[simp] theorem dr_ref {n : Nat} : deref h (.ref n) = drf n h[n]? := by
  cases e : h[n]? with
  | none => simp [deref, drf, e]
  | some o => cases o <;> simp [deref, drf, e]
end
section
variable {x y : Val} {h : MH}
@[simp] theorem opSub_e : opSub x y h = intOp (fun _ _ => true) (fun i j => .int (i - j)) x y h := rfl
@[simp] theorem opDiv_e : opDiv x y h = intOp (fun _ j => decide (0 < j) && decide (j < 1073741824)) (fun i j => .int (i / j)) x y h := rfl
@[simp] theorem opMod_e : opMod x y h = intOp (fun _ j => decide (0 < j)) (fun i j => .int (i % j)) x y h := rfl
@[simp] theorem opPow_e : opPow x y h = intOp (fun i j => decide (0 ≤ j) && decide (j ≤ 1000000) && decide (i.natAbs < 2 ^ 64)) (fun i j => .int (i ^ j.toNat)) x y h := rfl
@[simp] theorem opLt_e : opLt x y h = ordOp (fun i j => decide (i < j)) (fun i j => decide (i < j)) x y h := rfl
@[simp] theorem opLe_e : opLe x y h = ordOp (fun i j => decide (i ≤ j)) (fun i j => !decide (j < i)) x y h := rfl
@[simp] theorem opGt_e : opGt x y h = ordOp (fun i j => decide (j < i)) (fun i j => decide (j < i)) x y h := rfl
@[simp] theorem opGe_e : opGe x y h = ordOp (fun i j => decide (j ≤ i)) (fun i j => !decide (i < j)) x y h := rfl
end
theorem sIx_nn {n d : Nat} {i : Int} (h : 0 ≤ i) : HT.sIx n d (some i) = min i.toNat n := by
  show (if i < 0 then (i + (n : Int)).toNat else min i.toNat n) = _
  rw [if_neg (by omega)]
theorem cut_to {α : Type} {xs : List α} {i : Int} (h : 0 ≤ i) : cutL xs none (some i) = xs.take i.toNat := by
  unfold cutL
  rw [sIx_nn h, HT.sIx_none, List.drop_zero, Nat.sub_zero]
  exact List.take_eq_take_iff.mpr (by omega)
theorem cut_from {α : Type} {xs : List α} {i : Int} (h : 0 ≤ i) : cutL xs (some i) none = xs.drop i.toNat := by
  unfold cutL
  rw [sIx_nn h, HT.sIx_none]
  by_cases z : i.toNat ≤ xs.length
  · rw [Nat.min_eq_left z]
    exact List.take_of_length_le (by simp)
  · rw [Nat.min_eq_right (by omega), List.drop_length, List.drop_eq_nil_of_le (by omega), List.take_nil]
theorem cut_mid {α : Type} {xs : List α} {i j : Int} (h : 0 ≤ i) (h2 : 0 ≤ j) : cutL xs (some i) (some j) = (xs.drop i.toNat).take (j.toNat - i.toNat) := by
  unfold cutL
  rw [sIx_nn h, sIx_nn h2]
  by_cases z : i.toNat ≤ xs.length
  · rw [Nat.min_eq_left z]
    exact List.take_eq_take_iff.mpr (by simp; omega)
  · rw [Nat.min_eq_right (a := i.toNat) (by omega), List.drop_length, List.drop_eq_nil_of_le (by omega), List.take_nil, List.take_nil]
theorem atI_nn {α : Type} (l : List α) (i : Nat) : L2.atI l (i : Int) = l[i]? := by
  unfold L2.atI ixN
  by_cases z : (i : Int) < l.length
  · simp [z]
  · have : l.length ≤ i := by omega
    simp [z, List.getElem?_eq_none this]
theorem atI_of {α : Type} (l : List α) {i : Int} (h : 0 ≤ i) : L2.atI l i = l[i.toNat]? := by
  obtain ⟨n, rfl⟩ := Int.eq_ofNat_of_zero_le h
  exact atI_nn l n
@[simp] theorem atI_0 {α : Type} {l : List α} : L2.atI l 0 = l[0]? := atI_nn l 0
@[simp] theorem atI_1 {α : Type} {l : List α} : L2.atI l 1 = l[1]? := atI_nn l 1
@[simp] theorem atI_2 {α : Type} {l : List α} : L2.atI l 2 = l[2]? := atI_nn l 2
@[simp] theorem atI_3 {α : Type} {l : List α} : L2.atI l 3 = l[3]? := atI_nn l 3
@[simp] theorem atI_4 {α : Type} {l : List α} : L2.atI l 4 = l[4]? := atI_nn l 4
@[simp] theorem atI_5 {α : Type} {l : List α} : L2.atI l 5 = l[5]? := atI_nn l 5
@[simp] theorem atI_6 {α : Type} {l : List α} : L2.atI l 6 = l[6]? := atI_nn l 6
theorem ixN_nn {n i : Nat} (h : i < n) : ixN n (i : Int) = some i := by
  unfold ixN
  have : (i : Int) < (n : Nat) := by omega
  simp [this]
theorem ixN_of {n : Nat} {i : Int} (h : 0 ≤ i) (h2 : i < n) : ixN n i = some i.toNat := by
  obtain ⟨k, rfl⟩ := Int.eq_ofNat_of_zero_le h
  exact ixN_nn (by omega)
@[simp] theorem ixN_0 {n : Nat} : ixN (n + 1) 0 = some 0 := ixN_nn (i := 0) (by omega)
@[simp] theorem ixN_1 {n : Nat} : ixN (n + 2) 1 = some 1 := ixN_nn (i := 1) (by omega)
@[simp] theorem ixN_2 {n : Nat} : ixN (n + 3) 2 = some 2 := ixN_nn (i := 2) (by omega)

section
variable {σ : Env} {h : MH} {v : Val} {a b : MS} {m n : ME Val} {cb : ME Bool} {ml : ME (List Val)} {i j k : Nat}
@[simp ↓] theorem sw_Skip [K : KS] : (sSkip σ h).wp = K.nx σ h := nrf rfl
@[simp ↓] theorem sw_Brk [K : KS] : (sBrk σ h).wp = K.bk σ h := nrf rfl
@[simp ↓] theorem sw_Cont [K : KS] : (sCont σ h).wp = K.ct σ h := nrf rfl
@[simp ↓] theorem sw_RetN [K : KS] : (sRetN σ h).wp = K.rt .non h := nrf rfl
@[simp ↓] theorem sw_Seq [K : KS] : (sSeq a b σ h).wp = @SRes.wp (a σ h) ⟨fun σ h => (b σ h).wp, K.rt, K.bk, K.ct, K.ex⟩ := by unfold sSeq; rw [swp_seq]
@[simp ↓] theorem sw_Expr [K : KS] : (sExpr m σ h).wp = @Res.wp _ (m σ h) ⟨fun _ h1 => K.nx σ h1⟩ (K.x σ) := by unfold sExpr; rw [swp_ofE]; rfl
@[simp ↓] theorem sw_Ret [K : KS] : (sRet m σ h).wp = @Res.wp _ (m σ h) ⟨fun v h1 => K.rt v h1⟩ (K.x σ) := by unfold sRet; rw [swp_ofE]; rfl
@[simp ↓] theorem sw_RetO [K : KS] : (sRetO i σ h).wp = @Op _ (Mi.go σ[i]?) ⟨fun l h => K.rt (.lst l) h⟩ h := by
  unfold sRetO Mi.go
  cases σ[i]? with
  | none => rfl
  | some s => cases s <;> rfl
@[simp ↓] theorem sw_If [K : KS] : (sIf cb a b σ h).wp = @Res.wp _ (cb σ h) ⟨fun t h1 => @Ch (t = true) _ ⟨(a σ h1).wp, (b σ h1).wp⟩⟩ (K.x σ) := by
  unfold sIf; rw [swp_ofE]
  cases cb σ h with
  | ok t h1 => cases t <;> rfl
  | _ => rfl
@[simp ↓] theorem sw_Set [K : KS] : (sSet i m σ h).wp = @Res.wp _ (m σ h) ⟨fun v h1 => @Ch (i < σ.length) _ ⟨K.nx (σ.set i (.val v)) h1, False⟩⟩ (K.x σ) := by
  unfold sSet; rw [swp_ofE]
  cases m σ h with
  | ok v h1 => by_cases z : i < σ.length <;> simp [z]
  | _ => rfl
@[simp ↓] theorem sw_SetO [K : KS] : (sSetO i ml σ h).wp = @Res.wp _ (ml σ h) ⟨fun v h1 => @Ch (i < σ.length) _ ⟨K.nx (σ.set i (.own v)) h1, False⟩⟩ (K.x σ) := by
  unfold sSetO; rw [swp_ofE]
  cases ml σ h with
  | ok v h1 => by_cases z : i < σ.length <;> simp [z]
  | _ => rfl
@[simp ↓] theorem sw_Frz [K : KS] : (sFrz i σ h).wp = @Op _ (Mi.go σ[i]?) ⟨fun l h => K.nx (σ.set i (.val (.lst l))) h⟩ h := by
  unfold sFrz Mi.go
  cases σ[i]? with
  | none => rfl
  | some s => cases s <;> rfl
/-- targets -/
def gW (g : MG) (v : Val) (σ : Env) (h : MH) [K : KS] : Prop := (plainG (g v σ h)).wp
def gsW (g : MGs) (l : List Val) (σ : Env) (h : MH) [K : KS] : Prop := (plainG (g l σ h)).wp
theorem plain_seq {r : SRes} {k : MS} : plainG (r.seq k) = plainG ((plainG r).seq fun σ h => plainG (k σ h)) := by
  cases r <;> first | rfl | (show plainG (k _ _) = plainG (plainG (k _ _)); cases k _ _ <;> rfl)
@[simp ↓] theorem sw_AsgG [K : KS] {g : MG} : (sAsgG m g σ h).wp = @Res.wp _ (m σ h) ⟨fun v h1 => gW g v σ h1⟩ (K.x σ) := by unfold sAsgG; rw [swp_ofE]; rfl
@[simp ↓] theorem gw_Set [K : KS] : gW (gSet i) v σ h = @Ch (i < σ.length) _ ⟨K.nx (σ.set i (.val v)) h, False⟩ := by
  unfold gW gSet
  by_cases z : i < σ.length <;> simp [z, plainG]
@[simp ↓] theorem gw_Nil [K : KS] : gsW gsNil [] σ h = K.nx σ h := nrf rfl
@[simp ↓] theorem gw_Cons [K : KS] {g : MG} {r : MGs} {l : List Val} : gsW (gsCons g r) (v :: l) σ h = @gW g v σ h ⟨fun σ1 h1 => gsW r l σ1 h1, K.rt, K.bk, K.ct, K.ex⟩ := by
  unfold gW gsW gsCons
  simp only
  cases g v σ h <;> rfl
def tpV : Val → Option (List Val)
  | .tup l => some l
  | _ => none
@[simp] theorem tpV_t {l : List Val} : tpV (.tup l) = some l := rfl
@[simp ↓] theorem gw_Tup [K : KS] {r : MGs} : gW (gTupM i r) v σ h = @Op _ (tpV v) ⟨fun l h => @Ch (l.length = i) _ ⟨gsW r l σ h, False⟩⟩ h := by
  unfold gW gsW gTupM
  cases v with
  | tup l => by_cases z : l.length = i <;> simp [z, plainG, tpV]
  | _ => rfl
@[simp ↓] theorem gw_SubR [K : KS] : gW (gSubR m n) v σ h = @Res.wp _ (m σ h) ⟨fun o h1 => @Res.wp _ (n σ h1) ⟨fun i h2 => @Op _ (putL o i v h2) ⟨fun h3 _ => K.nx σ h3⟩ h2⟩ (K.x σ)⟩ (K.x σ) := by
  unfold gW gSubR
  cases m σ h with
  | ok o h1 =>
    simp only [ofE, wp_ok, kt_run]
    cases n σ h1 with
    | ok i h2 =>
      simp only [ofE, wp_ok, kt_run]
      cases putL o i v h2 <;> rfl
    | _ => rfl
  | _ => rfl
def putR (n : Nat) (o : Option MObj) (k : Int) (v : Val) (h : MH) : Option MH := match o with
  | some (.lst l) => (ixN l.length k).map fun j => h.set n (.lst (l.set j v))
  | _ => none
@[simp] theorem putL_ref {o : Nat} {k : Int} : putL (.ref o) (.int k) v h = putR o h[o]? k v h := by
  cases e : h[o]? with
  | none => simp [putL, putR, e]
  | some ob => cases ob <;> simp [putL, putR, e]
@[simp] theorem putR_lst {o : Nat} {k : Int} {l : List Val} : putR o (some (.lst l)) k v h = (ixN l.length k).map fun j => h.set o (.lst (l.set j v)) := rfl
def two : List Val → Option (Val × Val)
  | [a, b] => some (a, b)
  | _ => none
def three : List Val → Option (Val × Val × Val)
  | [a, b, c] => some (a, b, c)
  | _ => none
@[simp] theorem two_e {a b : Val} : two [a, b] = some (a, b) := rfl
@[simp] theorem three_e {a b c : Val} : three [a, b, c] = some (a, b, c) := rfl
@[simp ↓] theorem sw_Par2 [K : KS] : (sPar2 i j ml σ h).wp = @Res.wp _ (ml σ h) ⟨fun l h1 => @Op _ (two l) ⟨fun p h1 => @Ch (i < σ.length ∧ j < σ.length) _ ⟨K.nx ((σ.set i (.val p.1)).set j (.val p.2)) h1, False⟩⟩ h1⟩ (K.x σ) := by
  unfold sPar2; rw [swp_ofE]
  cases ml σ h with
  | ok l h1 =>
    match l with
    | [v, w] => by_cases z : i < σ.length ∧ j < σ.length <;> simp [z]
    | [] => rfl
    | [_] => rfl
    | _ :: _ :: _ :: _ => rfl
  | _ => rfl
@[simp ↓] theorem sw_Par3 [K : KS] : (sPar3 i j k ml σ h).wp = @Res.wp _ (ml σ h) ⟨fun l h1 => @Op _ (three l) ⟨fun p h1 => @Ch (i < σ.length ∧ j < σ.length ∧ k < σ.length) _ ⟨K.nx (((σ.set i (.val p.1)).set j (.val p.2.1)).set k (.val p.2.2)) h1, False⟩⟩ h1⟩ (K.x σ) := by
  unfold sPar3; rw [swp_ofE]
  cases ml σ h with
  | ok l h1 =>
    match l with
    | [u, v, w] => by_cases z : i < σ.length ∧ j < σ.length ∧ k < σ.length <;> simp [z]
    | [] => rfl
    | [_] => rfl
    | [_, _] => rfl
    | _ :: _ :: _ :: _ :: _ => rfl
  | _ => rfl
@[simp ↓] theorem sw_Own [K : KS] {f : LF} : (sOwn f i ml σ h).wp = @Op _ (Mi.go σ[i]?) ⟨fun l h => @Res.wp _ (ml σ h) ⟨fun args h1 => @Op _ (f l args) ⟨fun p h1 => K.nx (σ.set i (.own p.1)) h1⟩ h1⟩ (K.x σ)⟩ h := by
  unfold sOwn Mi.go
  cases σ[i]? with
  | none => rfl
  | some s =>
    cases s with
    | own l =>
      simp only [op_some, kt_run]
      rw [swp_ofE]
      cases ml σ h with
      | ok args h1 => simp only [wp_ok, kt_run]; cases f l args <;> rfl
      | _ => rfl
    | _ => rfl
@[simp ↓] theorem sw_OwnPut [K : KS] : (sOwnPut i m n σ h).wp = @Res.wp _ (m σ h) ⟨fun v h1 => @Op _ (Mi.go σ[i]?) ⟨fun l h1 => @Res.wp _ (n σ h1) ⟨fun k h2 => @Op _ (itV k) ⟨fun k h2 => @Op _ (ixN l.length k) ⟨fun j h2 => K.nx (σ.set i (.own (l.set j v))) h2⟩ h2⟩ h2⟩ (K.x σ)⟩ h1⟩ (K.x σ) := by
  unfold sOwnPut Mi.go; rw [swp_ofE]
  cases m σ h with
  | ok v h1 =>
    simp only [wp_ok, kt_run]
    cases σ[i]? with
    | none => rfl
    | some s =>
      cases s with
      | own l =>
        simp only [op_some, kt_run]
        rw [swp_ofE]
        cases n σ h1 with
        | ok k h2 =>
          cases k with
          | int k => simp only [wp_ok, kt_run, itV_int, op_some]; cases ixN l.length k <;> rfl
          | _ => rfl
        | _ => rfl
      | _ => rfl
  | _ => rfl
@[simp ↓] theorem sw_For [K : KS] {it : ME (List Val)} {g : MG} : (sFor it g b σ h).wp = @Res.wp _ (it σ h) ⟨fun l h1 => (forL g b l σ h1).wp⟩ (K.x σ) := by unfold sFor; rw [swp_ofE]
def lo1 : Option MObj → Option (List Val)
  | some (.lst l) => some l
  | _ => none
@[simp] theorem lo1_l {l : List Val} : lo1 (some (.lst l)) = some l := rfl
def rfV : Val → Option Nat
  | .ref n => some n
  | _ => none
@[simp] theorem rfV_r {n : Nat} : rfV (.ref n) = some n := rfl
@[simp ↓] theorem wp_Meth [QV : Kt Val] [X : Kx] {f : LF} : (mMeth f m ml σ h).wp = @Res.wp _ (m σ h) ⟨fun o h1 => @Op _ (rfV o) ⟨fun n h1 => @Op _ (lo1 h1[n]?) ⟨fun _ h1 => @Res.wp _ (ml σ h1) ⟨fun args h2 => @Op _ (lo1 h2[n]?) ⟨fun l h2 => @Op _ (f l args) ⟨fun p h2 => QV.run p.2 (h2.set n (.lst p.1))⟩ h2⟩ h2⟩ X⟩ h1⟩ h1⟩ X := by
  unfold mMeth
  cases m σ h with
  | ok o h1 =>
    simp only [rb_ok, wp_ok, kt_run]
    cases o with
    | ref n =>
      simp only [rfV_r, op_some, kt_run]
      cases h1[n]? with
      | none => rfl
      | some ob =>
        cases ob with
        | lst l0 =>
          simp only [lo1_l, op_some, kt_run]
          cases ml σ h1 with
          | ok args h2 =>
            simp only [rb_ok, wp_ok, kt_run]
            cases h2[n]? with
            | none => rfl
            | some ob2 =>
              cases ob2 with
              | lst l => simp only [lo1_l, op_some, kt_run]; cases f l args <;> rfl
              | _ => rfl
          | _ => rfl
        | _ => rfl
    | _ => rfl
  | _ => rfl
@[simp] theorem fApp_e {l : List Val} (z : l.length < 16777216) : fApp l [v] = some (l ++ [v], .non) := by unfold fApp; simp [z]
end

/-! ### a def -/
theorem runF_wp {n : Nat} {b : MS} {args : List Val} {h : MH} {Q : Kt Val} {X : Kx}
    (w : @SRes.wp (b (args.map Slot.val ++ List.replicate (n - args.length) .unset) h) ⟨fun _ h => Q.run .non h, fun v h => Q.run v h, fun _ _ => False, fun _ _ => False, fun c f _ h => X.run c f h⟩) : (runF n b args h).wp := by
  unfold runF
  cases r : b (args.map Slot.val ++ List.replicate (n - args.length) .unset) h with
  | next σ h => rw [r] at w; exact w
  | ret v h => rw [r] at w; exact w
  | exc c f σ h => rw [r] at w; exact w
  | brk σ h => rw [r] at w; exact w.elim
  | cont σ h => rw [r] at w; exact w.elim
  | bad => rw [r] at w; exact w.elim
/-- told of a result: it is there -/
theorem wp_eq {α : Type} {r : Res α} {v : α} {h : MH} (w : @Res.wp α r ⟨fun v' h' => v' = v ∧ h' = h⟩ noX) : r = .ok v h := by
  cases r with
  | ok v' h' => obtain ⟨rfl, rfl⟩ := w; rfl
  | exc c f h => exact w.elim
  | bad => exact w.elim
theorem wp_ex {α : Type} {r : Res α} {P : α → MH → Prop} (w : @Res.wp α r ⟨P⟩ noX) : ∃ v h, r = .ok v h ∧ P v h := by
  cases r with
  | ok v' h' => exact ⟨v', h', rfl, w⟩
  | exc c f h => exact w.elim
  | bad => exact w.elim

/-! ### loops -/
theorem for_wp {g : MG} {b : MS} (K : KS) (I : List Val → Env → MH → Prop)
    (st : ∀ v l σ h, I (v :: l) σ h → @gW g v σ h ⟨fun σ h => @SRes.wp (b σ h) ⟨I l, K.rt, K.nx, I l, K.ex⟩, K.rt, K.bk, K.ct, K.ex⟩)
    (en : ∀ σ h, I [] σ h → K.nx σ h) : ∀ (l : List Val) (σ : Env) (h : MH), I l σ h → (forL g b l σ h).wp
  | [], σ, h, i => en σ h i
  | v :: l, σ, h, i => by
    have w := st v l σ h i
    unfold gW at w
    unfold forL
    cases r : plainG (g v σ h) with
    | next σ1 h1 =>
      rw [r] at w
      have w : @SRes.wp (b σ1 h1) ⟨I l, K.rt, K.nx, I l, K.ex⟩ := w
      simp only
      cases r2 : b σ1 h1 with
      | next σ2 h2 => rw [r2] at w; exact for_wp K I st en l σ2 h2 w
      | cont σ2 h2 => rw [r2] at w; exact for_wp K I st en l σ2 h2 w
      | brk σ2 h2 => rw [r2] at w; exact w
      | ret v h2 => rw [r2] at w; exact w
      | exc c f σ2 h2 => rw [r2] at w; exact w
      | bad => rw [r2] at w; exact w
    | ret v h => rw [r] at w; exact w
    | brk σ h => rw [r] at w; exact w
    | cont σ h => rw [r] at w; exact w
    | exc c f σ h => rw [r] at w; exact w
    | bad => rw [r] at w; exact w
/-- while, with what falls -/
theorem while_wp' {c : ME Bool} {b : MS} (K : KS) (I : Nat → Env → MH → Prop)
    (st : ∀ n σ h, I n σ h → @Res.wp _ (c σ h) ⟨fun t h1 => @Ch (t = true) _ ⟨@SRes.wp (b σ h1) ⟨fun σ h => ∃ m, m < n ∧ I m σ h, K.rt, K.nx, fun σ h => ∃ m, m < n ∧ I m σ h, K.ex⟩, K.nx σ h1⟩⟩ (K.x σ)) :
    ∀ (m n : Nat) (σ : Env) (h : MH), n < m → I n σ h → (whileL c b m σ h).wp
  | 0, n, σ, h, z, i => absurd z (Nat.not_lt_zero _)
  | m + 1, n, σ, h, z, i => by
    unfold whileL
    rw [swp_ofE]
    refine Res.wp_mono (st n σ h i) (fun t h1 w => ?_) fun _ _ _ => id
    have w : @Ch (t = true) _ ⟨_, _⟩ := w
    show SRes.wp (if t = true then _ else _)
    by_cases ht : t = true
    · rw [ch_t ht] at w
      rw [if_pos ht]
      cases r : b σ h1 with
      | next σ2 h2 => rw [r] at w; obtain ⟨k, hk, ik⟩ := w; exact while_wp' K I st m k σ2 h2 (by omega) ik
      | cont σ2 h2 => rw [r] at w; obtain ⟨k, hk, ik⟩ := w; exact while_wp' K I st m k σ2 h2 (by omega) ik
      | brk σ2 h2 => rw [r] at w; exact w
      | ret v h2 => rw [r] at w; exact w
      | exc c f σ2 h2 => rw [r] at w; exact w
      | bad => rw [r] at w; exact w
    · rw [ch_f ht] at w
      rw [if_neg ht]; exact w
theorem while_wp {c : ME Bool} {b : MS} {σ : Env} {h : MH} {K : KS} (I : Nat → Env → MH → Prop) (n : Nat) (hn : n < 1000000) (i : I n σ h)
    (st : ∀ n σ h, I n σ h → @Res.wp _ (c σ h) ⟨fun t h1 => @Ch (t = true) _ ⟨@SRes.wp (b σ h1) ⟨fun σ h => ∃ m, m < n ∧ I m σ h, K.rt, K.nx, fun σ h => ∃ m, m < n ∧ I m σ h, K.ex⟩, K.nx σ h1⟩⟩ (K.x σ)) : (sWhile c b σ h).wp :=
  while_wp' K I st FUEL n σ h hn i

/-! ### comprehensions -/
theorem lc_wp {t : Tg} {c : ME Bool} {m : ME Val} {σ : Env} {Q : Kt (List Val)} {X : Kx} (I : List Val → List Val → MH → Prop)
    (st : ∀ v l acc h, I (v :: l) acc h → @gW (tgM t) v σ h ⟨fun σ1 h1 => @Res.wp _ (c σ1 h1) ⟨fun b h2 => @Ch (b = true) _ ⟨@Res.wp _ (m σ1 h2) ⟨fun y h3 => acc.length < 16777216 ∧ I l (acc ++ [y]) h3⟩ noX, I l acc h2⟩⟩ noX, fun _ _ => False, fun _ _ => False, fun _ _ => False, fun _ _ _ _ => False⟩)
    (en : ∀ acc h, I [] acc h → Q.run acc h) : ∀ (l acc : List Val) (h : MH), I l acc h → (lcL t c m l acc σ h).wp
  | [], acc, h, i => en acc h i
  | v :: l, acc, h, i => by
    have w := st v l acc h i
    unfold gW at w
    unfold lcL
    cases r0 : tgM t v σ h with
    | next σ1 h1 =>
      rw [r0] at w
      have w : @Res.wp _ (c σ1 h1) ⟨fun b h2 => @Ch (b = true) _ ⟨@Res.wp _ (m σ1 h2) ⟨fun y h3 => acc.length < 16777216 ∧ I l (acc ++ [y]) h3⟩ noX, I l acc h2⟩⟩ noX := w
      simp only
      cases r : c σ1 h1 with
      | exc c f h => rw [r] at w; exact w.elim
      | bad => rw [r] at w; exact w.elim
      | ok b h2 =>
        rw [r] at w
        have w : @Ch (b = true) _ ⟨_, _⟩ := w
        simp only
        by_cases hb : b = true
        · rw [ch_t hb] at w
          rw [if_pos hb]
          cases r2 : m σ1 h2 with
          | exc c f h => rw [r2] at w; exact w.elim
          | bad => rw [r2] at w; exact w.elim
          | ok y h3 =>
            rw [r2] at w
            have w : _ ∧ _ := w
            simp only
            rw [if_pos w.1]
            exact lc_wp I st en l (acc ++ [y]) h3 w.2
        · rw [ch_f hb] at w
          rw [if_neg hb]
          exact lc_wp I st en l acc h2 w
    | _ => rw [r0] at w; exact w.elim
@[simp ↓] theorem gw_nm {i : Nat} {v : Val} {σ : Env} {h : MH} [K : KS] : gW (tgM (.nm i)) v σ h = @Ch (i < σ.length) _ ⟨K.nx (σ.set i (.val v)) h, False⟩ := gw_Set
@[simp ↓] theorem gw_tp {l : List Tg} {v : Val} {σ : Env} {h : MH} [K : KS] : gW (tgM (.tp l)) v σ h = @Op _ (tpV v) ⟨fun vs h => @Ch (vs.length = l.length) _ ⟨gsW (tgMs l) vs σ h, False⟩⟩ h := by
  exact gw_Tup (i := l.length) (r := tgMs l)
@[simp ↓] theorem gw_tnil {σ : Env} {h : MH} [K : KS] : gsW (tgMs []) [] σ h = K.nx σ h := nrf rfl
@[simp ↓] theorem gw_tcons {t : Tg} {l : List Tg} {v : Val} {vs : List Val} {σ : Env} {h : MH} [K : KS] : gsW (tgMs (t :: l)) (v :: vs) σ h = @gW (tgM t) v σ h ⟨fun σ1 h1 => gsW (tgMs l) vs σ1 h1, K.rt, K.bk, K.ct, K.ex⟩ := by
  exact gw_Cons (g := tgM t) (r := tgMs l)
/-- all of it plain: a map with a filter -/
theorem lc_map {t : Tg} {c : ME Bool} {m : ME Val} {σ : Env} {h : MH} (g : Val → Val) (p : Val → Bool) : ∀ (l acc : List Val), acc.length + l.length ≤ 16777216 →
    (∀ v ∈ l, @gW (tgM t) v σ h ⟨fun σ1 h1 => h1 = h ∧ @Res.wp _ (c σ1 h) ⟨fun b h2 => b = p v ∧ h2 = h⟩ noX ∧ (p v = true → @Res.wp _ (m σ1 h) ⟨fun y h2 => y = g v ∧ h2 = h⟩ noX), fun _ _ => False, fun _ _ => False, fun _ _ => False, fun _ _ _ _ => False⟩) → lcL t c m l acc σ h = .ok (acc ++ (l.filter p).map g) h
  | [], acc, _, _ => by simp [lcL]
  | v :: l, acc, hl, hv => by
    have w := hv v List.mem_cons_self
    unfold gW at w
    have hl' : acc.length + (l.length + 1) ≤ 16777216 := hl
    unfold lcL
    cases r0 : tgM t v σ h with
    | next σ1 h1 =>
      rw [r0] at w
      obtain ⟨rfl, e2, e3⟩ := w
      have e2 := wp_eq e2
      simp only [e2]
      by_cases z : p v = true
      · rw [if_pos z, wp_eq (e3 z)]
        simp only
        rw [if_pos (by omega), lc_map g p l (acc ++ [g v]) (by simp; omega) fun w hw => hv w (List.mem_cons_of_mem _ hw), List.filter_cons_of_pos z]
        simp
      · rw [if_neg z, lc_map g p l acc (by omega) fun w hw => hv w (List.mem_cons_of_mem _ hw), List.filter_cons_of_neg z]
    | _ => rw [r0] at w; exact w.elim

/-! ### the heap of ids -/
theorem set_get {h : MH} {n : Nat} {o : MObj} (e : h[n]? = some o) : ∀ o', (h.set n o')[n]? = some o' := fun o' => List.getElem?_set_self (List.getElem?_eq_some_iff.mp e).1
/-- only n may have changed, new ones may have come -/
def Onl (n : Nat) (h h' : MH) : Prop := h.length ≤ h'.length ∧ ∀ k, k < h.length → k ≠ n → h'[k]? = h[k]?
theorem Onl.refl {n : Nat} {h : MH} : Onl n h h := ⟨Nat.le_refl _, fun _ _ _ => rfl⟩
theorem Onl.trans {n : Nat} {h h' h2 : MH} (a : Onl n h h') (b : Onl n h' h2) : Onl n h h2 := ⟨Nat.le_trans a.1 b.1, fun k hk ne => (b.2 k (Nat.lt_of_lt_of_le hk a.1) ne).trans (a.2 k hk ne)⟩
theorem Onl.set {n : Nat} {h : MH} {o : MObj} : Onl n h (h.set n o) := ⟨by simp, fun k hk ne => by rw [List.getElem?_set_ne (Ne.symm ne)]⟩
theorem Onl.get {n k : Nat} {h h' : MH} {o : MObj} (a : Onl n h h') (ne : k ≠ n) (e : h[k]? = some o) : h'[k]? = some o := by
  rw [a.2 k (List.getElem?_eq_some_iff.mp e).1 ne]; exact e
end Mi
/-! Mi15: values compared, kinds of values. -/
namespace Mi
open PySem L2 PyProof.Rows

@[simp] theorem wf_non {n : Nat} : wfD n .non = true := by cases n <;> rfl
@[simp] theorem wf_bl {n : Nat} {b : Bool} : wfD n (.bl b) = true := by cases n <;> rfl
@[simp] theorem wf_int {n : Nat} {b : Int} : wfD n (.int b) = true := by cases n <;> rfl
@[simp] theorem wf_str {n : Nat} {b : Tx} : wfD n (.str b) = txOk b := by cases n <;> rfl
@[simp] theorem wf_tup64 {l : List Val} : wfD 64 (.tup l) = l.all (wfD 63) := rfl
@[simp] theorem wf_lst64 {l : List Val} : wfD 64 (.lst l) = l.all (wfD 63) := rfl
@[simp] theorem wf_tup63 {l : List Val} : wfD 63 (.tup l) = l.all (wfD 62) := rfl
@[simp] theorem wf_lst63 {l : List Val} : wfD 63 (.lst l) = l.all (wfD 62) := rfl
@[simp] theorem wf_tup62 {l : List Val} : wfD 62 (.tup l) = l.all (wfD 61) := rfl
@[simp] theorem wf_lst62 {l : List Val} : wfD 62 (.lst l) = l.all (wfD 61) := rfl
@[simp] theorem veq_non : veq .non .non = true := rfl
@[simp] theorem veq_bl {a b : Bool} : veq (.bl a) (.bl b) = (a == b) := rfl
@[simp] theorem veq_int {a b : Int} : veq (.int a) (.int b) = decide (a = b) := rfl
@[simp] theorem veq_str {a b : Tx} : veq (.str a) (.str b) = (a == b) := rfl
@[simp] theorem veq_tup {a b : List Val} : veq (.tup a) (.tup b) = veqs a b := rfl
@[simp] theorem veq_lst {a b : List Val} : veq (.lst a) (.lst b) = veqs a b := rfl
@[simp] theorem veqs_nil : veqs [] [] = true := rfl
@[simp] theorem veqs_cons {a b : Val} {l m : List Val} : veqs (a :: l) (b :: m) = (veq a b && veqs l m) := rfl
@[simp] theorem veqs_nc {a : Val} {l : List Val} : veqs [] (a :: l) = false := rfl
@[simp] theorem veqs_cn {a : Val} {l : List Val} : veqs (a :: l) [] = false := rfl
@[simp] theorem veq_int_str {a : Int} {b : Tx} : veq (.int a) (.str b) = false := rfl
@[simp] theorem veq_str_int {a : Int} {b : Tx} : veq (.str b) (.int a) = false := rfl
@[simp] theorem veq_tup_lst {a b : List Val} : veq (.tup a) (.lst b) = false := rfl
@[simp] theorem veq_lst_tup {a b : List Val} : veq (.lst a) (.tup b) = false := rfl
@[simp] theorem veq_bl_int {a : Bool} {b : Int} : veq (.bl a) (.int b) = ((if a then 1 else 0) == b) := rfl
@[simp] theorem veq_int_bl {a : Int} {b : Bool} : veq (.int a) (.bl b) = (a == (if b then 1 else 0)) := rfl
mutual
theorem veq_refl : ∀ (n : Nat) (v : Val), wfD n v = true → veq v v = true
  | _, .non, _ => rfl
  | _, .bl a, _ => by simp
  | _, .int a, _ => by simp
  | _, .str a, _ => by simp
  | n + 1, .tup l, h => by rw [veq_tup]; exact veqs_refl n l (by simpa [wfD] using h)
  | n + 1, .lst l, h => by rw [veq_lst]; exact veqs_refl n l (by simpa [wfD] using h)
  | 0, .tup l, h => by simp [wfD] at h
  | 0, .lst l, h => by simp [wfD] at h
  | n, .ref _, h => by cases n <;> simp [wfD] at h
  | n, .exc _ _, h => by cases n <;> simp [wfD] at h
  | n, .ktp _, h => by cases n <;> simp [wfD] at h
theorem veqs_refl : ∀ (n : Nat) (l : List Val), (∀ v ∈ l, wfD n v = true) → veqs l l = true
  | _, [], _ => rfl
  | n, v :: l, h => by
    rw [veqs_cons, veq_refl n v (h v List.mem_cons_self), veqs_refl n l fun w hw => h w (List.mem_cons_of_mem _ hw)]
    rfl
end
@[simp] theorem filter_tt {α : Type} (l : List α) : l.filter (fun _ => true) = l := List.filter_eq_self.mpr fun _ _ => rfl
theorem txOk_of {s : Tx} (h : ∀ c ∈ s, c < 1114112) : txOk s = true := by
  unfold txOk
  simpa using h
@[simp] theorem kit_NoneType_bool : kitB "NoneType" "bool" = some false := by first | rfl | decide +kernel
@[simp] theorem kit_NoneType_int : kitB "NoneType" "int" = some false := by first | rfl | decide +kernel
@[simp] theorem kit_NoneType_str : kitB "NoneType" "str" = some false := by first | rfl | decide +kernel
@[simp] theorem kit_NoneType_tuple : kitB "NoneType" "tuple" = some false := by first | rfl | decide +kernel
@[simp] theorem kit_NoneType_list : kitB "NoneType" "list" = some false := by first | rfl | decide +kernel
@[simp] theorem kit_bool_bool : kitB "bool" "bool" = some true := by first | rfl | decide +kernel
@[simp] theorem kit_bool_int : kitB "bool" "int" = some true := by first | rfl | decide +kernel
@[simp] theorem kit_bool_str : kitB "bool" "str" = some false := by first | rfl | decide +kernel
@[simp] theorem kit_bool_tuple : kitB "bool" "tuple" = some false := by first | rfl | decide +kernel
@[simp] theorem kit_bool_list : kitB "bool" "list" = some false := by first | rfl | decide +kernel
@[simp] theorem kit_int_bool : kitB "int" "bool" = some false := by first | rfl | decide +kernel
@[simp] theorem kit_int_int : kitB "int" "int" = some true := by first | rfl | decide +kernel
@[simp] theorem kit_int_str : kitB "int" "str" = some false := by first | rfl | decide +kernel
@[simp] theorem kit_int_tuple : kitB "int" "tuple" = some false := by first | rfl | decide +kernel
@[simp] theorem kit_int_list : kitB "int" "list" = some false := by first | rfl | decide +kernel
@[simp] theorem kit_str_bool : kitB "str" "bool" = some false := by first | rfl | decide +kernel
@[simp] theorem kit_str_int : kitB "str" "int" = some false := by first | rfl | decide +kernel
@[simp] theorem kit_str_str : kitB "str" "str" = some true := by first | rfl | decide +kernel
@[simp] theorem kit_str_tuple : kitB "str" "tuple" = some false := by first | rfl | decide +kernel
@[simp] theorem kit_str_list : kitB "str" "list" = some false := by first | rfl | decide +kernel
@[simp] theorem kit_tuple_bool : kitB "tuple" "bool" = some false := by first | rfl | decide +kernel
@[simp] theorem kit_tuple_int : kitB "tuple" "int" = some false := by first | rfl | decide +kernel
@[simp] theorem kit_tuple_str : kitB "tuple" "str" = some false := by first | rfl | decide +kernel
@[simp] theorem kit_tuple_tuple : kitB "tuple" "tuple" = some true := by first | rfl | decide +kernel
@[simp] theorem kit_tuple_list : kitB "tuple" "list" = some false := by first | rfl | decide +kernel
@[simp] theorem kit_list_bool : kitB "list" "bool" = some false := by first | rfl | decide +kernel
@[simp] theorem kit_list_int : kitB "list" "int" = some false := by first | rfl | decide +kernel
@[simp] theorem kit_list_str : kitB "list" "str" = some false := by first | rfl | decide +kernel
@[simp] theorem kit_list_tuple : kitB "list" "tuple" = some false := by first | rfl | decide +kernel
@[simp] theorem kit_list_list : kitB "list" "list" = some true := by first | rfl | decide +kernel
end Mi
/-! Mi16: isinstance with several of Python's own classes. -/
namespace Mi
open PySem L2 PyProof.Rows

def isiTV (Ts : List String) (h : MH) (v : Val) : Option Val := (tyN h v).bind fun t => if Ts.all (fun T => (kitB t T).isSome) then some (.bl (Ts.any fun T => kitB t T == some true)) else none
theorem kit_any {K : PySem.W.Frag} {t : String} : ∀ {Ts : List String}, Ts.all (fun T => (kitB t T).isSome) = true → PySem.W.kitAny K (.type t) (Ts.map Value.type) = some (Ts.any fun T => kitB t T == some true)
  | [], _ => rfl
  | T :: Ts, h => by
    simp only [List.all_cons, Bool.and_eq_true] at h
    obtain ⟨b, hb⟩ := Option.isSome_iff_exists.mp h.1
    have ih := kit_any (K := K) h.2
    show (match PySem.W.kitOne K (.type t) (.type T) with | some true => some true | some false => PySem.W.kitAny K (.type t) (Ts.map Value.type) | none => none) = _
    rw [kit_ty hb]
    cases b with
    | true => simp [hb]
    | false => simp only [ih, List.any_cons, hb]; rfl
def mIsiT (Ts : List String) (m : ME Val) : ME Val := fun σ h => (m σ h).bind fun v h1 => lift (isiTV Ts h1 v) h1
section
variable {X : Cx} {cn : String → Addr} {W : WX} {e : Expr} {p0 p1 p2 p3 pos : Pos} {x y : Str} {m : ME Val} {T U : String} {kt : Nat}
theorem tyPair {cs : List V} {Ts : List String} (h : cs = Ts.map V.ty) : Paired ClsV cs (Ts.map Value.type) := by
  subst h
  induction Ts with
  | nil => exact .nil
  | cons t Ts ih => exact .cons (.ty t) ih
theorem e_isi2 {k} (ha : EM X cn W e m) (hi : X.mg "isinstance" = none) (hx : X.mg x = none) (hy : X.mg y = none) (hv : bootBuiltins x = some (.type T)) (hw : bootBuiltins y = some (.type U)) (hgx : Gl X x := by rfl) (hgy : Gl X y := by rfl) (hg : Gl X "isinstance" := by rfl)
    (hn : x ≠ "__name__" := by decide) (hn2 : y ≠ "__name__" := by decide) (hdb : (x == ("__debug__" : Str)) = false := by decide) (hdb2 : (y == ("__debug__" : Str)) = false := by decide)
    (hs : starEach [e, .Tuple [.Name x p1, .Name y p2] k p3] X.env = (false, eval e X.env) :: starEach [.Tuple [.Name x p1, .Name y p2] k p3] X.env := by rfl)
    (hpl : (backTo pos (starEach [.Tuple [.Name x p1, .Name y p2] k p3] X.env)).any (·.1) = false := by rfl)
    (hs2 : starEach [.Tuple [.Name x p1, .Name y p2] k p3] X.env = (false, eval (.Tuple [.Name x p1, .Name y p2] k p3) X.env) :: starEach [] X.env := by rfl)
    (hs3 : starEach [.Name x p1, .Name y p2] X.env = (false, eval (.Name x p1) X.env) :: starEach [.Name y p2] X.env := by rfl)
    (hs4 : starEach [.Name y p2] X.env = (false, eval (.Name y p2) X.env) :: starEach [] X.env := by rfl) :
    EM X cn W (.Call (.Name "isinstance" p0) [e, .Tuple [.Name x p1, .Name y p2] k p3] [] pos) (mIsiT [T, U] m) :=
  PE.wk (pe_callB call_isiT hg hi bo_isinstance (pa_cons ha (pa_cons (pe_tup (pa_cons (pe_bltn (v := .ty T) hgx hx hv rfl hn hdb) (pa_cons (pe_bltn (v := .ty U) hgy hy hw rfl hn2 hdb2) pa_nil hs4) hs3)) pa_nil hs2) hs) (by decide) (by decide) hs hpl) fun σ H Q ⟨E, p, σm, mh, e1, R, kk⟩ => ⟨E, p, σm, mh, e1, R, kk.bind fun v mh1 q z R1 x1 rv k1 => by
    cases d : isiTV [T, U] mh1 v with
    | none => rw [d] at k1; exact k1.elim
    | some w =>
      rw [d] at k1
      unfold isiTV at d
      cases dt : tyN mh1 v with
      | none => rw [dt] at d; cases d
      | some t =>
        rw [dt] at d
        simp only [Option.bind_some] at d
        split at d
        · rename_i ha
          cases d
          refine ⟨by show 2 ≤ sizeLine; decide, fun tp htp => ?_⟩
          refine ⟨z, tp, [.ty T, .ty U], .type t, [.type T, .type U], _, rfl, upd_same, tyPair (Ts := [T, U]) rfl, ?_, kit_any (Ts := [T, U]) ha, ?_⟩
          · exact tyN_ok (R1.up htp) ((RV.ext (ext_up htp) rv).t) dt
          · exact k1 (q.up tp (.tup _)) _ (R1.up htp) (ext_up htp) (show RV _ _ _ _ by unfold RV; rfl)
        · cases d⟩
@[simp ↓] theorem wp_IsiT {Ts : List String} {σ : Env} {h : MH} [QV : Kt Val] [X : Kx] : (mIsiT Ts m σ h).wp = @Res.wp _ (m σ h) ⟨fun v h1 => Op (isiTV Ts h1 v) h1⟩ X := by
  unfold mIsiT
  cases m σ h with
  | ok v h1 => simp only [rb_ok, wp_ok, kt_run]; exact wpl _ _ _ _
  | _ => rfl
end
/-- the promise that asks for the impossible: the bottom of a def that calls itself -/
theorem okBad {P : Program} {w : World} {K : PySem.W.Frag} {mg : Str → Option Value} {base : Heap} {x qual : Str} {st : Stmt} {f : Addr} {fd : FuncData} {N ps : List Str} {k : Nat} {cn : String → Addr} (F : Fun K x qual st f fd) (Sc : FnScope N ps (defScope st)) :
    FnG P w K mg base (L2.CX P w) (k + 1) f fd ps (spM K cn ps.length (fun _ _ => .bad)) := by
  have no : ∀ {vs : List V} {H : Hp} {Q : VK} {E : XK}, spM K cn ps.length (fun _ _ => .bad) vs H Q E → False := fun ⟨_, _, _, _, _, _, _, _, z⟩ => z
  exact entryG F Sc (fun vs H Q E h => (no h).elim) fun cdv A outer s H vs Q E hr h => (no h).elim
end Mi
/-! Mi17: more methods of lists. -/
namespace Mi
open PySem L2 PyProof.Rows

section
variable {X : Cx} {cn : String → Addr}
def rExtG (K : PySem.W.Frag) : V → List V → Hp → VK → Prop := fun x vs H Q => ∃ l b xs zs, x = .ref l ∧ vs = [.ref b] ∧ H l = some (.lst xs) ∧ LsG K H b zs ∧ xs.length + zs.length ≤ sizeLine ∧ Q .non (upd H l (.lst (xs ++ zs)))
theorem mt_extG : MtR X "list.extend" (rExtG X.K) := by
  intro pins s σ H x vs v us Q I rx rv ⟨l, b, xs, zs, ex, ev, hH, hB, hz, q⟩
  subst ex ev
  cases rx
  obtain ⟨u, rfl, ru⟩ := rv.one
  cases ru
  obtain ⟨z, its, n, r, hl, e⟩ := I.lstM hH
  obtain ⟨z2, its2, n2, r2, hl2, e2⟩ := rdM I hB
  have hs : its.toArray.size + its2.toArray.size ≤ sizeLine := by simp only [List.size_toArray]; omega
  have hlong : ¬ (!its.toArray.isEmpty && Builtin.List.listTooLong (its.toArray.size + its2.toArray.size)) = true := by
    rw [notLongL hs, Bool.and_false]; simp
  refine call_meets F.slot_list_extend ⟨_, e, rfl⟩ F.entry_list_extend (F.args_list_extend_2 _ _) (AutoSeq1.list_extend_list_list_0 l its.toArray n b its2.toArray n2 hlong (by simp only [List.size_toArray]; omega) (by omega)) ⟨e, e2, ?_⟩
  exact ⟨.non, _, I.lset (its' := its ++ its2) hH e (by simp) (r.append r2) (by rw [List.length_append]; omega), rfl, q⟩
def fExt : LF := fun l a => match a with
  | [.lst m] => if l.length + m.length ≤ 16777216 then some (l ++ m, .non) else none
  | _ => none
theorem fExt_inv {l args l' : List Val} {w : Val} (h : fExt l args = some (l', w)) : ∃ m, args = [.lst m] ∧ l.length + m.length ≤ 16777216 ∧ l' = l ++ m ∧ w = .non := by
  unfold fExt at h
  split at h
  · rename_i m
    split at h
    · rename_i z
      cases h
      exact ⟨m, rfl, z, rfl, rfl⟩
    · cases h
  · cases h
def l_extend : LMeth X cn "list.extend" fExt := ⟨rExtG X.K, mt_extG, fun q a l vs args xs l' w Q e r rs hf k => by
  obtain ⟨m, rfl, z, rfl, rfl⟩ := fExt_inv hf
  obtain ⟨x, t, rfl, h1, h2⟩ := rs.cons_inv
  rw [h2.nil_inv]
  unfold RV at h1
  obtain ⟨b, zs, rfl, h3, h4⟩ := h1
  exact ⟨a, b, vs, zs, rfl, rfl, e, h3.g, by rw [r.length, h4.length, sizeLine_eq]; exact z, k _ _ (r.append h4) (by unfold RV; rfl)⟩⟩
@[simp] theorem fExt_e {l m : List Val} (z : l.length + m.length ≤ 16777216) : fExt l [.lst m] = some (l ++ m, .non) := by unfold fExt; simp [z]
def fIns : LF := fun l a => match a with
  | [.int i, v] => if l.length < 16777216 ∧ 0 ≤ i ∧ i < 2 ^ 63 then some (l.take i.toNat ++ [v] ++ l.drop i.toNat, .non) else none
  | _ => none
theorem fIns_inv {l args l' : List Val} {w : Val} (h : fIns l args = some (l', w)) : ∃ i v, args = [.int i, v] ∧ (l.length < 16777216 ∧ 0 ≤ i ∧ i < 2 ^ 63) ∧ l' = l.take i.toNat ++ [v] ++ l.drop i.toNat ∧ w = .non := by
  unfold fIns at h
  split at h
  · rename_i i v
    split at h
    · rename_i z
      cases h
      exact ⟨i, v, rfl, z, rfl, rfl⟩
    · cases h
  · cases h
def l_insert : LMeth X cn "list.insert" fIns := ⟨_, mt_insert, fun q a l vs args xs l' w Q e r rs hf k => by
  obtain ⟨i, v, rfl, z, rfl, rfl⟩ := fIns_inv hf
  obtain ⟨x, t, rfl, h1, h2⟩ := rs.cons_inv
  obtain ⟨y, t', rfl, h3, h4⟩ := h2.cons_inv
  rw [h4.nil_inv]
  unfold RV at h1
  subst h1
  exact ⟨a, vs, i, y, rfl, rfl, e, by rw [r.length, sizeLine_eq]; exact z.1, z.2.1, z.2.2, k _ _ (((r.take _).append (.cons h3 .nil)).append (r.drop _)) (by unfold RV; rfl)⟩⟩
@[simp] theorem fIns_e {l : List Val} {i : Int} {v : Val} (z : l.length < 16777216) (h0 : 0 ≤ i) (h1 : i < 9223372036854775808) : fIns l [.int i, v] = some (l.take i.toNat ++ [v] ++ l.drop i.toNat, .non) := by
  unfold fIns
  simp only
  rw [if_pos ⟨z, h0, by rw [show (2 : Int) ^ 63 = 9223372036854775808 by decide]; exact h1⟩]
/-- pop(i), i not below nought -/
def fPopAt : LF := fun l a => match a with
  | [.int i] => if 0 ≤ i ∧ i < 2 ^ 62 then (match l[i.toNat]? with
    | some v => some (l.eraseIdx i.toNat, v)
    | none => none) else none
  | _ => none
theorem fPopAt_inv {l args l' : List Val} {w : Val} (h : fPopAt l args = some (l', w)) : ∃ i, args = [.int i] ∧ (0 ≤ i ∧ i < 2 ^ 62) ∧ l[i.toNat]? = some w ∧ l' = l.eraseIdx i.toNat := by
  unfold fPopAt at h
  split at h
  · rename_i i
    split at h
    · rename_i z
      split at h
      · rename_i v hv
        cases h
        exact ⟨i, rfl, z, hv, rfl⟩
      · cases h
    · cases h
  · cases h
def l_popAt : LMeth X cn "list.pop" fPopAt := ⟨rPopAt, fun pins s σ H x xs v us Q I rx rv h => mt_popAt pins s σ H x xs v us Q I rx rv h, fun q a l vs args xs l' w Q e r rs hf k => by
  obtain ⟨i, rfl, z, hv, rfl⟩ := fPopAt_inv hf
  obtain ⟨x, t, rfl, h1, h2⟩ := rs.cons_inv
  rw [h2.nil_inv]
  unfold RV at h1
  subst h1
  obtain ⟨y, hy, ry⟩ := r.get hv
  have hl : i.toNat < vs.length := (List.getElem?_eq_some_iff.mp hy).1
  have b1 : -(2 ^ 63) ≤ i := by have := z.1; omega
  have b2 : i < 2 ^ 63 := by have := z.2; omega
  refine ⟨a, vs, i, i.toNat, y, rfl, rfl, e, b1, b2, ?_, hy, k _ _ (r.eraseIdx _) ry⟩
  unfold seqIndex?
  have h3 : ¬ i < 0 := by omega
  have h4 : i < (vs.length : Int) := by omega
  have h5 := z.1
  simp only [h3, if_false, h4, h5, decide_true, Bool.and_self, if_true]⟩
theorem fPopAt_e {l : List Val} {i : Int} {v : Val} (h0 : 0 ≤ i) (h1 : i < 4611686018427387904) (h : l[i.toNat]? = some v) : fPopAt l [.int i] = some (l.eraseIdx i.toNat, v) := by
  have z : 0 ≤ i ∧ i < 2 ^ 62 := ⟨h0, by have : (2 : Int) ^ 62 = 4611686018427387904 := by decide
                                         omega⟩
  unfold fPopAt
  simp only [z, and_self, if_true, h]
def fPop : LF := fun l a => match a with
  | [] => match l[l.length - 1]? with
    | some v => some (l.dropLast, v)
    | none => none
  | _ => none
theorem RVs.dropLast {C : Cn} {p : Pt} {l : List Val} {vs : List V} (h : RVs C p l vs) : RVs C p l.dropLast vs.dropLast := by
  rw [List.dropLast_eq_take, List.dropLast_eq_take, h.length]
  exact h.take _
theorem fPop_inv {l args l' : List Val} {w : Val} (h : fPop l args = some (l', w)) : args = [] ∧ l[l.length - 1]? = some w ∧ l' = l.dropLast := by
  unfold fPop at h
  split at h
  · split at h
    · rename_i v hv
      cases h
      exact ⟨rfl, hv, rfl⟩
    · cases h
  · cases h
def l_pop : LMeth X cn "list.pop" fPop := ⟨rPop, fun pins s σ H x xs v us Q I rx rv h => mt_pop pins s σ H x xs v us Q I rx rv h, fun q a l vs args xs l' w Q e r rs hf k => by
  obtain ⟨rfl, hv, rfl⟩ := fPop_inv hf
  rw [rs.nil_inv]
  obtain ⟨y, hy, ry⟩ := r.get hv
  exact ⟨a, vs, y, rfl, rfl, e, by rw [r.length]; exact hy, k _ _ r.dropLast ry⟩⟩
theorem fPop_e {l : List Val} {v : Val} : fPop (l ++ [v]) [] = some (l, v) := by
  unfold fPop
  simp
def fRev : LF := fun l a => match a with
  | [] => some (l.reverse, .non)
  | _ => none
theorem fRev_inv {l args l' : List Val} {w : Val} (h : fRev l args = some (l', w)) : args = [] ∧ l' = l.reverse ∧ w = .non := by
  unfold fRev at h
  split at h
  · cases h; exact ⟨rfl, rfl, rfl⟩
  · cases h
def l_reverse : LMeth X cn "list.reverse" fRev := ⟨rReverse, fun pins s σ H x xs v us Q I rx rv h => mt_reverse pins s σ H x xs v us Q I rx rv h, fun q a l vs args xs l' w Q e r rs hf k => by
  obtain ⟨rfl, rfl, rfl⟩ := fRev_inv hf
  rw [rs.nil_inv]
  exact ⟨a, vs, rfl, rfl, e, k _ _ r.reverse (by unfold RV; rfl)⟩⟩
@[simp] theorem fRev_e {l : List Val} : fRev l [] = some (l.reverse, .non) := rfl
end

/-! ### range with a step -/
def rgN (i j c : Int) : Nat := (if i < j then (j - i - 1) / c + 1 else 0).toNat
def rangeC (i j c : Int) : List Val := (List.range (rgN i j c)).map fun k => .int (i + (k : Nat) * c)
def mRange3 (m n o : ME Val) : ME (List Val) := fun σ h => (m σ h).bind fun v h1 => (n σ h1).bind fun w h2 => (o σ h2).bind fun u h3 => match v, w, u with
  | .int i, .int j, .int c => if -(2 ^ 61) ≤ i ∧ i < 2 ^ 61 ∧ -(2 ^ 61) ≤ j ∧ j < 2 ^ 61 ∧ 0 < c ∧ c < 1073741824 then .ok (rangeC i j c) h3 else .bad
  | _, _, _ => .bad
theorem rgc_of {i j c : Int} (h : -(2 ^ 61) ≤ i ∧ i < 2 ^ 61 ∧ -(2 ^ 61) ≤ j ∧ j < 2 ^ 61 ∧ 0 < c ∧ c < 1073741824) : RgC i j c (rgN i j c) := by
  obtain ⟨a1, a2, a3, a4, a5, a6⟩ := h
  have e : Builtin.Range.rangeSize i j c = (rgN i j c : Int) := by
    unfold Builtin.Range.rangeSize rgN
    rw [if_pos a5]
    split
    · have : 0 ≤ (j - i - 1) / c := Int.ediv_nonneg (by omega) (by omega)
      omega
    · rfl
  have hb : (rgN i j c : Int) ≤ 2 ^ 62 := by
    unfold rgN
    split
    · have h0 : 0 ≤ (j - i - 1) / c := Int.ediv_nonneg (by omega) (by omega)
      have h1 : (j - i - 1) / c ≤ j - i - 1 := Int.ediv_le_self _ (by omega)
      omega
    · decide
  refine ⟨by omega, by omega, ?_, e⟩
  unfold Builtin.Range.small
  rw [e]
  have hm : i + (rgN i j c : Int) * c ≤ 2 ^ 62 ∧ -(2 ^ 62) ≤ i + (rgN i j c : Int) * c := by
    unfold rgN
    split
    · have h0 : 0 ≤ (j - i - 1) / c := Int.ediv_nonneg (by omega) (by omega)
      have h1 : (j - i - 1) / c * c ≤ j - i - 1 := Int.ediv_mul_le _ (by omega)
      have h2 : ((((j - i - 1) / c + 1).toNat : Nat) : Int) = (j - i - 1) / c + 1 := by omega
      have h3 : 0 ≤ (j - i - 1) / c * c := Int.mul_nonneg h0 (by omega)
      rw [h2, Int.add_mul, Int.one_mul]
      omega
    · simp; omega
  have a5' : c > 0 := a5
  rw [if_pos a5']
  simp only [Builtin.Range.rangeFitsLong, Bool.and_eq_true, Bool.or_eq_true, decide_eq_true_eq, beq_iff_eq]
  have hm0 : 0 ≤ (rgN i j c : Int) := Int.natCast_nonneg _
  generalize (rgN i j c : Int) = m at hb hm hm0 ⊢
  exact ⟨⟨⟨⟨⟨by omega, by omega⟩, by omega, by omega⟩, by omega, by omega⟩, by omega, by omega⟩, .inr ⟨by omega, by omega⟩⟩
theorem it_rangeC {C : Cn} {q : Pt} {lo hi c : Int} : ItOk C q (Itc lo c (rgN lo hi c)) (rangeC lo hi c) := by
  have hl : (rangeC lo hi c).length = rgN lo hi c := by simp [rangeC]
  refine ⟨fun q' i x' h => ?_, fun q' i x H' v x' ev y => ?_, fun q' x' => ?_⟩
  · rw [hl] at h; exact h
  · obtain ⟨e2, y⟩ := y
    refine .inl ⟨e2, ?_⟩
    unfold rangeC at ev
    rw [List.getElem?_map] at ev
    cases hr : (List.range (rgN lo hi c))[i]? with
    | none => rw [hr] at ev; cases ev
    | some k =>
      rw [hr] at ev
      have : k = i := by
        obtain ⟨h1, h2⟩ := List.getElem?_eq_some_iff.mp hr
        rw [List.getElem_range] at h2
        exact h2.symm
      subst this
      simp only [Option.map_some, Option.some.injEq] at ev
      subst ev
      unfold RV
      exact y
  · show _ ≤ _
    rw [hl]; exact Nat.le_refl _
section
variable {X : Cx} {cn : String → Addr} {W : WX} {a b c tg e : Expr} {pos : Pos}
theorem i_range3 {p0 : Pos} {m n o : ME Val} (hm : X.mg "range" = none) (ha : ET X cn W a m) (hb : ET X cn W b n) (hc : ET X cn W c o) (hg : Gl X "range" := by rfl) (hs : starEach [a, b, c] X.env = (false, eval a X.env) :: starEach [b, c] X.env := by rfl) (hs2 : starEach [b, c] X.env = (false, eval b X.env) :: starEach [c] X.env := by rfl) (hs3 : starEach [c] X.env = [(false, eval c X.env)] := by rfl) : IM X cn W tg (.Call (.Name "range" p0) [a, b, c] [] pos) (mRange3 m n o) :=
  PI.wk (pi_range3 hg hm (pa_cons ha (pa_cons hb (pa_cons hc pa_nil (by rw [hs3]; rfl)) hs2) hs) hs (by rw [hs2, hs3]; rfl)) fun σ H K ⟨E, p, σm, mh, e1, R, k⟩ => ⟨E, p, σm, mh, e1, R, by
    unfold mRange3 at k
    cases r : m σm mh with
    | bad => rw [r] at k; exact k.elim
    | exc c f h => rw [r] at k; exact fun q cls d R1 x1 rx => k q cls d R1 x1 rx
    | ok v h =>
      rw [r] at k
      simp only [Res.bind] at k
      intro q x R1 x1 rv
      refine ⟨E, q, σm, h, rfl, R1, ?_⟩
      cases r2 : n σm h with
      | bad => rw [r2] at k; exact k.elim
      | exc c f h => rw [r2] at k; exact fun q2 cls d R2 x2 rx => k q2 cls d R2 (x1.trans x2) rx
      | ok w h2 =>
        rw [r2] at k
        simp only at k
        intro q2 y R2 x2 rw'
        refine ⟨E, q2, σm, h2, rfl, R2, ?_⟩
        cases r3 : o σm h2 with
        | bad => rw [r3] at k; exact k.elim
        | exc c f h => rw [r3] at k; exact fun q3 cls d R3 x3 rx => k q3 cls d R3 (x1.trans (x2.trans x3)) rx
        | ok u h3 =>
          rw [r3] at k
          simp only at k
          intro q3 z R3 x3 ru
          cases v with
          | int i =>
            cases w with
            | int j =>
              cases u with
              | int l =>
                simp only at k
                by_cases z : -(2 ^ 61) ≤ i ∧ i < 2 ^ 61 ∧ -(2 ^ 61) ≤ j ∧ j < 2 ^ 61 ∧ 0 < l ∧ l < 1073741824
                · rw [if_pos z] at k
                  exact ⟨i, j, l, rgN i j l, by rw [RVT.int rv, RVT.int rw', RVT.int ru], rgc_of z, k q3 _ R3 (x1.trans (x2.trans x3)) it_rangeC⟩
                · rw [if_neg z] at k; exact k.elim
              | _ => exact k.elim
            | _ => exact k.elim
          | _ => exact k.elim⟩
end
end Mi
/-! Mi18: stores by an operator, methods of the text's own classes, new instances. -/
namespace Mi
open PySem L2 PyProof.Rows

section
variable {X : Cx} {cn : String → Addr} {W : WX} {e o : Expr} {es : List Expr} {pos apos p0 : Pos}
/-- x += e of whole numbers -/
def sAug (f : Int → Int → Int) (i : Nat) (m : ME Val) : MS := fun σ h => match σ[i]? with
  | some (.val (.int a)) => ofE (m σ h) σ fun v h1 => match v with
    | .int b => if i < σ.length then .next (σ.set i (.val (.int (f a b)))) h1 else .bad
    | _ => .bad
  | _ => .bad
theorem s_aug (i : Nat) {x : Str} {pos' : Pos} {op : Operator} {f : Int → Int → Int} {m : ME Val} (hN : X.N.Nodup) (he : EM X cn W e m) (ip : PIp X op (ipI f)) (hi : X.N[i]? = some x := by rfl) (hx : Loc X.env.scope x := by first | exact Or.inl rfl | exact Or.inr rfl)
    (hf : X.fn x = true ∨ X.env.scope.names.lookup x = some .local := by first | exact .inl rfl | exact .inr rfl) : SM X cn W (.AugAssign (.Name x pos') op e pos) (sAug f i m) := PS.wk (ps_aug (i := i) hN hi hx he ip) fun D σ H ⟨E, p, σm, mh, e1, R, k⟩ => by
  unfold sAug at k
  cases hs : σm[i]? with
  | none => rw [hs] at k; exact k.elim
  | some s =>
    rw [hs] at k
    cases s with
    | val v =>
      cases v with
      | int a =>
        obtain ⟨h1, y, h2, h3⟩ := R.slot i _ hs
        unfold RV at h3
        subst h3
        refine ⟨_, h2, E, p, σm, mh, e1, R, postS.of k fun v mh1 q x R1 x1 rv k1 => ?_⟩
        cases v with
        | int b =>
          have rv' : RV ⟨X.K, cn⟩ q (.int b) x := rv
          unfold RV at rv'
          refine ⟨a, b, rfl, rv', ?_⟩
          by_cases z : i < σm.length
          · simp only [z, if_true] at k1
            exact k1 (q.un i) _ (R1.setV z (v := .int (f a b)) (by unfold RV; rfl)) ext_un
          · simp only [z, if_false] at k1; exact k1.elim
        | _ => exact k1.elim
      | _ => exact k.elim
    | _ => exact k.elim
/-- o.f += e of whole numbers -/
def sFldAugC (f : Int → Int → Int) (L : List (String × List String)) (g : String) (mo me : ME Val) : MS := fun σ h => ofE (mo σ h) σ fun o h1 => match o with
  | .ref n => match h1[n]? with
    | some (.ins c fs) => match L.lookup c with
      | some ks => if g ∈ ks then (match fs.lookup g with
        | some (.int a) => ofE (me σ h1) σ fun v h2 => match v, h2[n]? with
          | .int b, some (.ins c' fs') => if c' = c ∧ fs'.length < 1000 then .next σ (h2.set n (.ins c (putM g (.int (f a b)) fs'))) else .bad
          | _, _ => .bad
        | _ => .bad) else .bad
      | none => .bad
    | _ => .bad
  | _ => .bad
def ioI (f : Int → Int → Int) : V → V → Hp → VK → Prop := fun x y H Q => ∃ i j, x = .int i ∧ y = .int j ∧ Q (.int (f i j)) H
theorem s_fldaug {g : String} {op : Operator} {f : Int → Int → Int} {L : List (String × List String)} {mo me : ME Val} (K0 : Clss X.K cn L) (ho : EM X cn W o mo) (he : EM X cn W e me) (hop : InOp X op (ioI f)) : SM X cn W (.AugAssign (.Attribute o (Str.ofString g) apos) op e pos) (sFldAugC f L g mo me) :=
  PS.wk (ps_fldaug ho he hop) fun D σ H ⟨E, p, σm, mh, e1, R, k⟩ => ⟨E, p, σm, mh, e1, R, postS.of k fun ov mh1 q x R1 x1 ro k1 => by
    cases ov with
    | ref n =>
      have ro' : RV ⟨X.K, cn⟩ q (.ref n) x := ro
      unfold RV at ro'
      obtain ⟨a, rfl, ha⟩ := ro'
      simp only at k1
      cases hm : mh1[n]? with
      | none => rw [hm] at k1; exact k1.elim
      | some ob =>
        rw [hm] at k1
        cases ob with
        | ins c fs =>
          simp only at k1
          cases hL : L.lookup c with
          | none => rw [hL] at k1; exact k1.elim
          | some ks =>
            rw [hL] at k1
            simp only at k1
            by_cases hg : g ∈ ks
            · rw [if_pos hg] at k1
              cases hl : fs.lookup g with
              | none => rw [hl] at k1; exact k1.elim
              | some v =>
                rw [hl] at k1
                cases v with
                | int i =>
                  simp only at k1
                  rcases R1.h.obj n _ hm with ⟨z, _⟩ | ⟨a', ea, dx, gs, e3, e4⟩
                  · cases z
                  have ha' : q.ι[n]? = some (some a) := by
                    rcases ha with ha | ha
                    · exact ha
                    · rw [ea] at ha; cases ha
                  rw [ea] at ha'; cases ha'
                  obtain ⟨y, h1, h2⟩ := e4.lookup hl
                  unfold RV at h2
                  subst h2
                  have M := K0 c ks (lookup_mem hL)
                  refine ⟨a, cn c, dx, gs, _, rfl, e3, M.cl, M.no g hg, h1, E, q, σm, mh1, rfl, R1, postS.of k1 fun w mh2 q2 y R2 x2 rw' k2 => ?_⟩
                  cases w with
                  | int j =>
                    have rw2 : RV ⟨X.K, cn⟩ q2 (.int j) y := rw'
                    unfold RV at rw2
                    subst rw2
                    cases hm2 : mh2[n]? with
                    | none => rw [hm2] at k2; exact k2.elim
                    | some ob2 =>
                      rw [hm2] at k2
                      cases ob2 with
                      | ins c2 fs2 =>
                        simp only at k2
                        by_cases z : c2 = c ∧ fs2.length < 1000
                        · rw [if_pos z] at k2
                          obtain ⟨rfl, z2⟩ := z
                          rcases R2.h.obj n _ hm2 with ⟨z, _⟩ | ⟨a2, ea2, dx2, gs2, e32, e42⟩
                          · cases z
                          have ea3 : q2.ι[n]? = some (some a) ∨ q2.ι[n]? = some none := x2.idx _ _ ea
                          have ea4 : a2 = a := by
                            rcases ea3 with z | z
                            · rw [ea2] at z; cases z; rfl
                            · rw [ea2] at z; cases z
                          subst ea4
                          have F2 : q2.F a2 := F_ι ea2
                          refine ⟨i, j, rfl, rfl, dx2, gs2, e32, by rw [e42.length]; exact z2, ?_⟩
                          have e5 : RFs ⟨X.K, cn⟩ (q2.up a2 (.ins (cn c2) dx2 (putF (Str.ofString g) (.int (f i j)) gs2))) (putM g (.int (f i j)) fs2) (putF (Str.ofString g) (.int (f i j)) gs2) := by
                            obtain ⟨vs, e6, r6⟩ := e42.put (f := g) (v := .int (f i j)) (y := .int (f i j)) (by unfold RV; rfl)
                            exact ⟨vs, e6, r6.ext (ext_wr F2)⟩
                          exact k2 (q2.up a2 (.ins (cn c2) dx2 (putF (Str.ofString g) (.int (f i j)) gs2))) σ (R2.write ea2 ⟨dx2, _, upd_same, e5⟩) (ext_wr F2)
                        · rw [if_neg z] at k2; exact k2.elim
                      | _ => exact k2.elim
                  | _ => exact k2.elim
                | _ => exact k1.elim
            · rw [if_neg hg] at k1; exact k1.elim
        | _ => exact k1.elim
    | _ => exact k1.elim⟩

/-! ### methods -/
/-- a method m of the class c that is there to be called, n arguments with the object -/
structure MthM (P : Program) (w : World) (K : PySem.W.Frag) (mg : Str → Option Value) (base : Heap) (cn : String → Addr) (k : Nat) (c m : String) (n : Nat) (f : MF) : Prop where
  cl : Cls K (cn c)
  ex : ∃ (a : Addr) (fd : FuncData) (ps : List Str), ps.length = n ∧ FnG P w K mg base (L2.CX P w) k a fd ps (spM K cn n f) ∧ Meth K (cn c) (Str.ofString m) a ∧ Binds K fd ps []
theorem MthM.mono {P : Program} {w : World} {K : PySem.W.Frag} {mg : Str → Option Value} {base : Heap} {cn : String → Addr} {j k : Nat} {c m : String} {n : Nat} {f : MF} (D : MthM P w K mg base cn j c m n f) (h : j ≤ k) : MthM P w K mg base cn k c m n f := by
  obtain ⟨cl, a, fd, ps, h1, h2, h3⟩ := D
  exact ⟨cl, a, fd, ps, h1, h2.mono h, h3⟩
/-- o.m(..): L says which classes' methods m may be meant -/
def mMth (m : String) (L : List (String × MF)) (n : Nat) (mo : ME Val) (ml : ME (List Val)) : ME Val := fun σ h => (mo σ h).bind fun o h1 => match o with
  | .ref i => match h1[i]? with
    | some (.ins c fs) => match L.lookup c, fs.lookup m with
      | some f, none => (ml σ h1).bind fun args h2 => if args.length + 1 = n then f (.ref i :: args) h2 else .bad
      | _, _ => .bad
    | _ => .bad
  | _ => .bad
def tMthL (K : PySem.W.Frag) (cn : String → Addr) (m : String) (L : List (String × MF)) (n : Nat) (E : L2.St → XK) (ta : TE) (t : TA) : TE := fun σ H Q => ta σ H fun x H1 => ∃ (c : String) (f : MF) (a dx : Addr) (fs : List (Str × V)), (c, f) ∈ L ∧ x = .ref a ∧ H1 a = some (.ins (cn c) dx fs) ∧ fs.lookup (Str.ofString m) = none ∧ t σ H1 fun vs H2 => spM K cn n f (x :: vs) H2 Q (E σ)
theorem pe_mthL {m : String} {L : List (String × MF)} {n k : Nat} {E : L2.St → XK} {ta : TE} {t : TA} {pl : Sem Bool} (he : PE X o ta) (D : ∀ c f, (c, f) ∈ L → MthM X.prog X.w X.K X.mg X.base cn k c m n f) (hr : RoomG k X.A) (hx : ∀ σ, PassesAt (L2.CX X.prog X.w) X σ (E σ)) (ha : PA X (e :: es) t)
    (hst : starEach (e :: es) X.env = (false, eval e X.env) :: starEach es X.env := by rfl) (hpl : (backTo pos (starEach es X.env)).any (·.1) = false := by rfl)
    (ht : eval (.Call (.Attribute o (Str.ofString m) apos) (e :: es) [] pos) X.env = (do
      let ov ← eval o X.env
      standAt apos.atName
      let (f, first) ← holding [ov] (getMethod ov (Str.ofString m) pl)
      callWith pos f first (backTo pos (starEach (e :: es) X.env)) (backToKw pos (keywordEach [] X.env))) := by rfl) :
    PE X (.Call (.Attribute o (Str.ofString m) apos) (e :: es) [] pos) (tMthL X.K cn m L n E ta t) := by
  refine ⟨fun pins s σ H Q I h => ?_⟩
  refine PySem.W.methodCall_KW (pl := pl) (thn (he.run pins s σ H _ I h) fun u s1 ⟨x, H1, I1, rx, c, f, a, dx, fs, hL, ex, ea, l, q⟩ => ?_) ht
  obtain ⟨cl, fa, fd, ps, hps, F, hm, hb⟩ := D c f hL
  subst ex
  obtain rfl : u = Value.ref a := rx
  refine getmeth_ok I1 ea cl hm l ?_
  refine PySem.W.callWith_K (first := [.ref a]) (h₀ := X.base) I.ok.mod.kin hm.kp (thn (ha.run pos pins s1 σ H1 _ I1 q) fun us s2 ⟨vs, H2, I2, r, q2⟩ => ⟨I2.kIn, ?_⟩) hst hpl
  exact run_fnG (us := .ref a :: us) (vs := .ref a :: vs) F hr hb (hx σ) I2 (.cons rfl r) q2
theorem pe_mthL0 {m : String} {L : List (String × MF)} {n k : Nat} {E : L2.St → XK} {ta : TE} {pl : Sem Bool} (he : PE X o ta) (D : ∀ c f, (c, f) ∈ L → MthM X.prog X.w X.K X.mg X.base cn k c m n f) (hr : RoomG k X.A) (hx : ∀ σ, PassesAt (L2.CX X.prog X.w) X σ (E σ))
    (ht : eval (.Call (.Attribute o (Str.ofString m) apos) [] [] pos) X.env = (do
      let ov ← eval o X.env
      standAt apos.atName
      let (f, first) ← holding [ov] (getMethod ov (Str.ofString m) pl)
      callWith pos f first (backTo pos (starEach [] X.env)) (backToKw pos (keywordEach [] X.env))) := by rfl) :
    PE X (.Call (.Attribute o (Str.ofString m) apos) [] [] pos) (tMthL X.K cn m L n E ta tNil) := by
  refine ⟨fun pins s σ H Q I h => ?_⟩
  refine PySem.W.methodCall_KW (pl := pl) (thn (he.run pins s σ H _ I h) fun u s1 ⟨x, H1, I1, rx, c, f, a, dx, fs, hL, ex, ea, l, q⟩ => ?_) ht
  obtain ⟨cl, fa, fd, ps, hps, F, hm, hb⟩ := D c f hL
  subst ex
  obtain rfl : u = Value.ref a := rx
  refine getmeth_ok I1 ea cl hm l ?_
  refine PySem.W.callWith_K0 (first := [.ref a]) I1.kIn hm.kp ?_
  exact run_fnG (us := [.ref a]) (vs := [.ref a]) F hr hb (hx σ) I1 (.cons rfl .nil) q
def CRes (C : Cn) (p : Pt) (Q : VK) (Ex : XK) : Res Val → Prop
  | .ok v h => ∀ q x, HRel C q h → Ext p q → q.ω = [] → q.ο = p.ο → (∀ a ∈ p.ο, q.H a = p.H a) → RV C q v x → Q x q.H
  | .exc c g h => ∀ q cls d, HRel C q h → Ext p q → q.ω = [] → q.ο = p.ο → (∀ a ∈ p.ο, q.H a = p.H a) → RX C q c g cls d → Ex cls d q.H
  | .bad => False
theorem callee_res {C : Cn} {E q : Pt} {σm : Env} {mh1 : MH} {σ : L2.St} {Q : VK} {r : Res Val} (R1 : Rel C E q σm mh1 σ) (k1 : post RVr C W E q σm σ Q r) : CRes C q.callee Q (WE W σ) r := by
  cases r with
  | ok v h =>
    intro q2 x h2 x2 hω hο ho rv
    obtain ⟨r3, R3, x3, x4, e3⟩ := rel_back R1 h2 x2 hω hο ho
    rw [← e3]
    exact k1 r3 x R3 x3 (RV.ext x4 rv)
  | exc c g h =>
    intro q2 cls d h2 x2 hω hο ho rx
    obtain ⟨r3, R3, x3, x4, e3⟩ := rel_back R1 h2 x2 hω hο ho
    show W cls d σ q2.H
    rw [← e3]
    refine k1 r3 cls d R3 x3 ?_
    obtain ⟨r1, r2⟩ := rx
    refine ⟨r1, ?_⟩
    cases g with
    | none => exact r2
    | some v =>
      obtain ⟨dd, fs, y, b1, b2, b3, b4, b5⟩ := r2
      exact ⟨dd, fs, y, b1, x4.nF b3 b2, x4.keep _ _ b3 b2, b4, b5.ext x4⟩
  | bad => exact k1
theorem tMth_of {m : String} {L : List (String × MF)} {n : Nat} {mo : ME Val} {ml : ME (List Val)} {σ : L2.St} {H : Hp} {Q : VK} (h : tG RVr ⟨X.K, cn⟩ W (mMth m L n mo ml) σ H Q) : tMthL X.K cn m L n (WE W) (tG RVr ⟨X.K, cn⟩ W mo) (tG RVsr ⟨X.K, cn⟩ W ml) σ H Q := by
  obtain ⟨E, p, σm, mh, e1, R, k⟩ := h
  refine ⟨E, p, σm, mh, e1, R, k.bind fun ov mh1 q x R1 x1 ro k1 => ?_⟩
  cases ov with
  | ref i =>
    have ro' : RV ⟨X.K, cn⟩ q (.ref i) x := ro
    have ro2 := ro'
    unfold RV at ro'
    obtain ⟨a, rfl, ha⟩ := ro'
    simp only at k1
    cases hm : mh1[i]? with
    | none => rw [hm] at k1; exact k1.elim
    | some ob =>
      rw [hm] at k1
      cases ob with
      | ins c fs =>
        simp only at k1
        cases hL : L.lookup c with
        | none => rw [hL] at k1; exact k1.elim
        | some f =>
          rw [hL] at k1
          cases hl : fs.lookup m with
          | some v => rw [hl] at k1; exact k1.elim
          | none =>
            rw [hl] at k1
            simp only at k1
            rcases R1.h.obj i _ hm with ⟨z, _⟩ | ⟨a', ea, dx, gs, e3, e4⟩
            · cases z
            have ha' : q.ι[i]? = some (some a) := by
              rcases ha with ha | ha
              · exact ha
              · rw [ea] at ha; cases ha
            rw [ea] at ha'; cases ha'
            refine ⟨c, f, a, dx, gs, lookup_mem hL, rfl, e3, e4.lookup_none hl, E, q, σm, mh1, rfl, R1, k1.bind fun args mh2 q2 xs R2 x2 rs k2 => ?_⟩
            by_cases hn : args.length + 1 = n
            · rw [if_pos hn] at k2
              have rs' : RVs ⟨X.K, cn⟩ q2 args xs := rs
              exact ⟨q2.callee, .ref i :: args, mh2, rfl, rfl, hrel_callee R2.h, .cons ((ro2.ext x2).ext (ext_callee q2)) (rs'.ext (ext_callee q2)), by simpa using hn, callee_res R2 k2⟩
            · rw [if_neg hn] at k2; exact k2.elim
      | _ => exact k1.elim
  | _ => exact k1.elim
theorem e_mth {m : String} {L : List (String × MF)} {n k : Nat} {mo : ME Val} {ml : ME (List Val)} {pl : Sem Bool} (he : EM X cn W o mo) (D : ∀ c f, (c, f) ∈ L → MthM X.prog X.w X.K X.mg X.base cn k c m n f) (hr : RoomG k X.A) (hx : ∀ σ, PassesAt (L2.CX X.prog X.w) X σ (WE W σ)) (ha : AM X cn W (e :: es) ml)
    (hst : starEach (e :: es) X.env = (false, eval e X.env) :: starEach es X.env := by rfl) (hpl : (backTo pos (starEach es X.env)).any (·.1) = false := by rfl)
    (ht : eval (.Call (.Attribute o (Str.ofString m) apos) (e :: es) [] pos) X.env = (do
      let ov ← eval o X.env
      standAt apos.atName
      let (f, first) ← holding [ov] (getMethod ov (Str.ofString m) pl)
      callWith pos f first (backTo pos (starEach (e :: es) X.env)) (backToKw pos (keywordEach [] X.env))) := by rfl) :
    EM X cn W (.Call (.Attribute o (Str.ofString m) apos) (e :: es) [] pos) (mMth m L n mo ml) :=
  PE.wk (pe_mthL he D hr hx ha hst hpl ht) fun _ _ _ h => tMth_of h
theorem e_mth0 {m : String} {L : List (String × MF)} {n k : Nat} {mo : ME Val} {pl : Sem Bool} (he : EM X cn W o mo) (D : ∀ c f, (c, f) ∈ L → MthM X.prog X.w X.K X.mg X.base cn k c m n f) (hr : RoomG k X.A) (hx : ∀ σ, PassesAt (L2.CX X.prog X.w) X σ (WE W σ))
    (ht : eval (.Call (.Attribute o (Str.ofString m) apos) [] [] pos) X.env = (do
      let ov ← eval o X.env
      standAt apos.atName
      let (f, first) ← holding [ov] (getMethod ov (Str.ofString m) pl)
      callWith pos f first (backTo pos (starEach [] X.env)) (backToKw pos (keywordEach [] X.env))) := by rfl) :
    EM X cn W (.Call (.Attribute o (Str.ofString m) apos) [] [] pos) (mMth m L n mo mNil) := by
  refine PE.wk (pe_mthL0 he D hr hx ht) fun σ H Q h => ?_
  obtain ⟨E, p, σm, mh, e1, R, k⟩ := tMth_of h
  refine ⟨E, p, σm, mh, e1, R, ?_⟩
  have mono : ∀ {r : Res Val} {Q Q' : VK}, (∀ x H, Q x H → Q' x H) → post RVr ⟨X.K, cn⟩ W E p σm σ Q r → post RVr ⟨X.K, cn⟩ W E p σm σ Q' r := fun {r Q Q'} hq w => by
    cases r with
    | ok v m => exact fun q' y r e rv => hq _ _ (w q' y r e rv)
    | exc c f m => exact w
    | bad => exact w
  refine mono (fun x H1 ⟨c, f, a, dx, fs, h1, h2, h3, h4, E2, p2, σm2, mh2, e2, R2, w⟩ => ?_) k
  subst e2
  exact ⟨c, f, a, dx, fs, h1, h2, h3, h4, w p2 [] R2 (Ext.refl p2) .nil⟩

/-! ### new instances -/
structure MkM (P : Program) (w : World) (K : PySem.W.Frag) (mg : Str → Option Value) (base : Heap) (cn : String → Addr) (k : Nat) (c : String) (n : Nat) (f : MF) : Prop where
  gC : mg (Str.ofString c) = some (.ref (cn c))
  ex : ∃ (a : Addr) (fd : FuncData) (ps : List Str), ps.length = n ∧ FnG P w K mg base (L2.CX P w) k a fd ps (spM K cn n f) ∧ Mk K (cn c) a ∧ Binds K fd ps []
theorem MkM.mono {P : Program} {w : World} {K : PySem.W.Frag} {mg : Str → Option Value} {base : Heap} {cn : String → Addr} {j k : Nat} {c : String} {n : Nat} {f : MF} (D : MkM P w K mg base cn j c n f) (h : j ≤ k) : MkM P w K mg base cn k c n f := by
  obtain ⟨cl, a, fd, ps, h1, h2, h3⟩ := D
  exact ⟨cl, a, fd, ps, h1, h2.mono h, h3⟩
def isNonV : Val → Bool
  | .non => true
  | _ => false
def mMake (c : String) (n : Nat) (f : MF) (ml : ME (List Val)) : ME Val := fun σ h => (ml σ h).bind fun args h1 => if args.length + 1 = n then (match f (.ref h1.length :: args) (h1 ++ [.ins c []]) with
  | .ok v h2 => if isNonV v = true then .ok (.ref h1.length) h2 else .bad
  | .exc d g h2 => .exc d g h2
  | .bad => .bad) else .bad
def tMakeW (C : Addr) (sp : Sp) (E : L2.St → XK) (t : TA) : TE := fun σ H Q => t σ H fun vs H1 => ∀ x dx, H1 x = none → H1 dx = none → dx ≠ x → sp (.ref x :: vs) (upd (upd H1 dx (.own x)) x (.ins C dx [])) (fun v H2 => v = .non ∧ Q (.ref x) H2) (E σ)
section
variable {CX : CXT} {k : Nat} {f C : Addr} {fd : FuncData} {ps : List Str} {sp : Sp} {E : L2.St → XK} {x : Str} {t : TA}
theorem run_makeW {pins : List (Addr × Obj)} {σ : L2.St} {H : Hp} {s : Shared} {Q : VK} {us : List Value} {vs : List V} (M : Mk X.K C f) (F : FnG X.prog X.w X.K X.mg X.base CX k f fd ps sp) (hr : RoomG (k + 1) X.A) (hb : Binds X.K fd ps [])
    (hx : PassesAt CX X σ (E σ)) (I : Inv X pins σ H s) (r : Vals vs us)
    (h : ∀ x dx, H x = none → H dx = none → dx ≠ x → sp (.ref x :: vs) (upd (upd H dx (.own x)) x (.ins C dx [])) (fun v H2 => v = .non ∧ Q (.ref x) H2) (E σ)) :
    wpAny (model X.prog X.w) X.A (call (.ref C) us) (EP X pins σ Q) X.xe s := by
  have hq := h (s.heap.objs.size + 1) s.heap.objs.size (I.hok.fresh (Nat.le_succ _)) (I.hok.fresh (Nat.le_refl _)) (Nat.ne_of_lt (Nat.lt_succ_self _))
  have I2 := Inv.made (C := C) I
  have r2 : Vals (V.ref (s.heap.objs.size + 1) :: vs) (Value.ref (s.heap.objs.size + 1) :: us) := .cons rfl r
  have hl : (Value.ref (s.heap.objs.size + 1) :: us).length = ps.length := by
    have e := r2.length
    rw [F.lenG _ _ _ _ hq] at e
    exact e.symm
  have b := hb _ (Value.ref (s.heap.objs.size + 1) :: us) I2.kIn (by rw [List.append_nil]; exact hl)
  rw [List.append_nil] at b
  refine wpAny_call (make_map (f := f) I.kIn M.makes M.init (beq_iff_eq.mp M.fn) (codeAny_mono (F.runG _ X.stack _ _ ⟨Value.ref (s.heap.objs.size + 1) :: us, []⟩ (Value.ref (s.heap.objs.size + 1) :: us) _ _ (E σ) (hr.make C us [])
    (I2.env0.make C us []) b r2 hq) fun r s' hq' => ?_))
  cases r with
  | error e => exact hx pins _ _ e s' I2 hq'
  | ok fl =>
    cases fl with
    | ret u =>
      obtain ⟨v, H', I3, rv, ev, q3⟩ := I2.after hq'
      subst ev
      exact ⟨rv, ⟨V.ref (s.heap.objs.size + 1), H', I3, rfl, q3⟩⟩
    | next => exact False.elim hq'
    | brk => exact False.elim hq'
    | cont => exact False.elim hq'
theorem pe_makeW (M : Mk X.K C f) (F : FnG X.prog X.w X.K X.mg X.base CX k f fd ps sp) (hr : RoomG (k + 1) X.A) (hg : Gl X x) (hm : X.mg x = some (.ref C)) (hb : Binds X.K fd ps []) (hx : ∀ σ, PassesAt CX X σ (E σ))
    (ha : PA X (e :: es) t) (hdb : (x == ("__debug__" : Str)) = false := by decide) (he : starEach (e :: es) X.env = (false, eval e X.env) :: starEach es X.env := by rfl) (hpl : (backTo pos (starEach es X.env)).any (·.1) = false := by rfl) :
    PE X (.Call (.Name x p0) (e :: es) [] pos) (tMakeW C sp E t) := by
  refine ⟨fun pins s σ H Q I h => ?_⟩
  refine wpAny_Call_Name_kw (ld_glob I hg hm ?_ hdb)
  refine PySem.W.callWith_K (h₀ := X.base) I.ok.mod.kin M.kp (thn (ha.run pos pins s σ H _ I h) fun us s1 ⟨vs, H1, I1, r, q⟩ => ⟨I1.kIn, ?_⟩) he hpl
  exact run_makeW M F hr hb (hx σ) I1 r q
theorem pe_makeW0 (M : Mk X.K C f) (F : FnG X.prog X.w X.K X.mg X.base CX k f fd ps sp) (hr : RoomG (k + 1) X.A) (hg : Gl X x) (hm : X.mg x = some (.ref C)) (hb : Binds X.K fd ps []) (hx : ∀ σ, PassesAt CX X σ (E σ))
    (hdb : (x == ("__debug__" : Str)) = false := by decide) : PE X (.Call (.Name x p0) [] [] pos) (tMakeW C sp E tNil) := by
  refine ⟨fun pins s σ H Q I h => ?_⟩
  refine wpAny_Call_Name_kw (ld_glob I hg hm ?_ hdb)
  exact PySem.W.callWith_K0 I.kIn M.kp (run_makeW (us := []) M F hr hb (hx σ) I .nil h)
end
theorem tMake_of {c : String} {n : Nat} {f : MF} {ml : ME (List Val)} {σ : L2.St} {H : Hp} {Q : VK} (h : tG RVr ⟨X.K, cn⟩ W (mMake c n f ml) σ H Q) : tMakeW (cn c) (spM X.K cn n f) (WE W) (tG RVsr ⟨X.K, cn⟩ W ml) σ H Q := by
  obtain ⟨E, p, σm, mh, e1, R, k⟩ := h
  refine ⟨E, p, σm, mh, e1, R, k.bind fun args mh1 q xs R1 x1 rs k1 => ?_⟩
  intro x dx hx hdx hne
  have rs' : RVs ⟨X.K, cn⟩ q args xs := rs
  by_cases hn : args.length + 1 = n
  · rw [if_pos hn] at k1
    have R2 : Rel ⟨X.K, cn⟩ E (q.up dx (.own x)) σm mh1 σ := R1.up hdx
    have x2 : Ext q (q.up dx (.own x)) := ext_up hdx
    have hx2 : (q.up dx (.own x)).H x = none := by
      show upd q.H dx (.own x) x = none
      rw [upd_ne (Ne.symm hne)]; exact hx
    have R3 : Rel ⟨X.K, cn⟩ E ((q.up dx (.own x)).al x (.ins (cn c) dx [])) σm (mh1 ++ [.ins c []]) σ := R2.al hx2 ⟨dx, [], upd_same, [], rfl, .nil⟩
    have x3 : Ext (q.up dx (.own x)) ((q.up dx (.own x)).al x (.ins (cn c) dx [])) := ext_al hx2
    have at_ : ((q.up dx (.own x)).al x (.ins (cn c) dx [])).ι[mh1.length]? = some (some x) := al_at R2.h
    refine ⟨((q.up dx (.own x)).al x (.ins (cn c) dx [])).callee, .ref mh1.length :: args, mh1 ++ [.ins c []], rfl, rfl, hrel_callee R3.h, .cons ?_ ((rs'.ext (x2.trans x3)).ext (ext_callee _)), by simpa using hn, ?_⟩
    · unfold RV
      exact ⟨x, rfl, .inl at_⟩
    · have k2 : post RVr ⟨X.K, cn⟩ W E ((q.up dx (.own x)).al x (.ins (cn c) dx [])) σm σ (fun v H2 => v = .non ∧ Q (.ref x) H2) (f (.ref mh1.length :: args) (mh1 ++ [.ins c []])) := by
        cases r : f (.ref mh1.length :: args) (mh1 ++ [.ins c []]) with
        | ok v h =>
          rw [r] at k1
          simp only at k1
          by_cases hv : isNonV v = true
          · rw [if_pos hv] at k1
            intro q4 y R4 x4 rv
            cases v with
            | non =>
              have rv' : RV ⟨X.K, cn⟩ q4 .non y := rv
              unfold RV at rv'
              refine ⟨rv', k1 q4 _ R4 (x2.trans (x3.trans x4)) ?_⟩
              show RV _ _ _ _
              unfold RV
              exact ⟨x, rfl, x4.idx _ _ at_⟩
            | _ => cases hv
          · rw [if_neg hv] at k1; exact k1.elim
        | exc d g h =>
          rw [r] at k1
          exact fun q4 cls d R4 x4 rx => k1 q4 cls d R4 (x2.trans (x3.trans x4)) rx
        | bad => rw [r] at k1; exact k1
      exact callee_res R3 k2
  · rw [if_neg hn] at k1; exact k1.elim
theorem e_make {c : String} {n k : Nat} {f : MF} {ml : ME (List Val)} (D : MkM X.prog X.w X.K X.mg X.base cn k c n f) (hr : RoomG (k + 1) X.A) (hx : ∀ σ, PassesAt (L2.CX X.prog X.w) X σ (WE W σ)) (ha : AM X cn W (e :: es) ml) (hg : Gl X (Str.ofString c) := by rfl)
    (hdb : (Str.ofString c == ("__debug__" : Str)) = false := by decide) (he : starEach (e :: es) X.env = (false, eval e X.env) :: starEach es X.env := by rfl) (hpl : (backTo pos (starEach es X.env)).any (·.1) = false := by rfl) :
    EM X cn W (.Call (.Name (Str.ofString c) p0) (e :: es) [] pos) (mMake c n f ml) := by
  obtain ⟨gC, a, fd, ps, h1, h2, h3, h4⟩ := D
  exact PE.wk (pe_makeW h3 h2 hr hg gC h4 hx ha hdb he hpl) fun σ H Q h => tMake_of h
theorem e_make0 {c : String} {n k : Nat} {f : MF} (D : MkM X.prog X.w X.K X.mg X.base cn k c n f) (hr : RoomG (k + 1) X.A) (hx : ∀ σ, PassesAt (L2.CX X.prog X.w) X σ (WE W σ)) (hg : Gl X (Str.ofString c) := by rfl)
    (hdb : (Str.ofString c == ("__debug__" : Str)) = false := by decide) : EM X cn W (.Call (.Name (Str.ofString c) p0) [] [] pos) (mMake c n f mNil) := by
  obtain ⟨gC, a, fd, ps, h1, h2, h3, h4⟩ := D
  refine PE.wk (pe_makeW0 h3 h2 hr hg gC h4 hx hdb) fun σ H Q h => ?_
  obtain ⟨E, p, σm, mh, e1, R, k⟩ := tMake_of h
  rw [← e1]
  exact k p [] R (Ext.refl p) .nil
end

/-! ### reasoning -/
section
variable {σ : Env} {h : MH} {mo m : ME Val} {ml : ME (List Val)} {i n : Nat}
def gI : Option Slot → Option Int
  | some (.val (.int a)) => some a
  | _ => none
@[simp] theorem gI_val {a : Int} : gI (some (.val (.int a))) = some a := rfl
@[simp ↓] theorem sw_Aug [K : KS] {f : Int → Int → Int} : (sAug f i m σ h).wp = @Op _ (gI σ[i]?) ⟨fun a h => @Res.wp _ (m σ h) ⟨fun v h1 => @Op _ (itV v) ⟨fun b h1 => @Ch (i < σ.length) _ ⟨K.nx (σ.set i (.val (.int (f a b)))) h1, False⟩⟩ h1⟩ (K.x σ)⟩ h := by
  unfold sAug gI
  cases σ[i]? with
  | none => rfl
  | some s =>
    cases s with
    | val v =>
      cases v with
      | int a =>
        simp only [op_some, kt_run]
        rw [swp_ofE]
        cases m σ h with
        | ok v h1 =>
          cases v with
          | int b => simp only [wp_ok, kt_run, itV_int, op_some]; by_cases z : i < σ.length <;> simp [z]
          | _ => rfl
        | _ => rfl
      | _ => rfl
    | _ => rfl
def insV : Option MObj → Option (String × List (String × Val))
  | some (.ins c fs) => some (c, fs)
  | _ => none
@[simp] theorem insV_i {c : String} {fs : List (String × Val)} : insV (some (.ins c fs)) = some (c, fs) := rfl
@[simp ↓] theorem wp_FldC [QV : Kt Val] [X : Kx] {L : List (String × List String)} {g : String} : (mFldC L g mo σ h).wp = @Res.wp _ (mo σ h) ⟨fun o h1 => @Op _ (rfV o) ⟨fun n h1 => @Op _ (insV h1[n]?) ⟨fun p h1 => @Op _ (L.lookup p.1) ⟨fun ks h1 => @Ch (g ∈ ks) _ ⟨Op (p.2.lookup g) h1, False⟩⟩ h1⟩ h1⟩ h1⟩ X := by
  unfold mFldC; simp only [wp_bind]
  cases mo σ h with
  | ok o h1 =>
    cases o with
    | ref n =>
      simp only [wp_ok, kt_run, rfV_r, op_some]
      cases e : h1[n]? with
      | none => rfl
      | some ob =>
        cases ob with
        | ins c fs =>
          simp only [insV_i, op_some, kt_run]
          cases L.lookup c with
          | none => rfl
          | some ks =>
            simp only [op_some, kt_run]
            by_cases z : g ∈ ks
            · rw [if_pos z, ch_t z]
              cases fs.lookup g <;> rfl
            · rw [if_neg z, ch_f z]; rfl
        | _ => rfl
    | _ => rfl
  | _ => rfl
@[simp ↓] theorem sw_FldC [K : KS] {L : List (String × List String)} {g : String} : (sFldC L g mo m σ h).wp = @Res.wp _ (m σ h) ⟨fun v h1 => @Res.wp _ (mo σ h1) ⟨fun o h2 => @Op _ (rfV o) ⟨fun n h2 => @Op _ (insV h2[n]?) ⟨fun p h2 => @Op _ (L.lookup p.1) ⟨fun ks h2 => @Ch (g ∈ ks ∧ p.2.length < 1000) _ ⟨K.nx σ (h2.set n (.ins p.1 (putM g v p.2))), False⟩⟩ h2⟩ h2⟩ h2⟩ (K.x σ)⟩ (K.x σ) := by
  unfold sFldC; rw [swp_ofE]
  cases m σ h with
  | ok v h1 =>
    simp only [wp_ok, kt_run]
    rw [swp_ofE]
    cases mo σ h1 with
    | ok o h2 =>
      cases o with
      | ref n =>
        simp only [wp_ok, kt_run, rfV_r, op_some]
        cases e : h2[n]? with
        | none => rfl
        | some ob =>
          cases ob with
          | ins c fs =>
            simp only [insV_i, op_some, kt_run]
            cases L.lookup c with
            | none => rfl
            | some ks =>
              simp only [op_some, kt_run]
              by_cases z : g ∈ ks ∧ fs.length < 1000
              · rw [if_pos z, ch_t z]; rfl
              · rw [if_neg z, ch_f z]; rfl
          | _ => rfl
      | _ => rfl
    | _ => rfl
  | _ => rfl
@[simp ↓] theorem sw_FldAugC [K : KS] {f : Int → Int → Int} {L : List (String × List String)} {g : String} : (sFldAugC f L g mo m σ h).wp = @Res.wp _ (mo σ h) ⟨fun o h1 => @Op _ (rfV o) ⟨fun n h1 => @Op _ (insV h1[n]?) ⟨fun p h1 => @Op _ (L.lookup p.1) ⟨fun ks h1 => @Ch (g ∈ ks) _ ⟨@Op _ (p.2.lookup g) ⟨fun x h1 => @Op _ (itV x) ⟨fun a h1 => @Res.wp _ (m σ h1) ⟨fun y h2 => @Op _ (itV y) ⟨fun b h2 => @Op _ (insV h2[n]?) ⟨fun p2 h2 => @Ch (p2.1 = p.1 ∧ p2.2.length < 1000) _ ⟨K.nx σ (h2.set n (.ins p.1 (putM g (.int (f a b)) p2.2))), False⟩⟩ h2⟩ h2⟩ (K.x σ)⟩ h1⟩ h1, False⟩⟩ h1⟩ h1⟩ h1⟩ (K.x σ) := by
  unfold sFldAugC; rw [swp_ofE]
  cases mo σ h with
  | ok o h1 =>
    cases o with
    | ref n =>
      simp only [wp_ok, kt_run, rfV_r, op_some]
      cases e : h1[n]? with
      | none => rfl
      | some ob =>
        cases ob with
        | ins c fs =>
          simp only [insV_i, op_some, kt_run]
          cases L.lookup c with
          | none => rfl
          | some ks =>
            simp only [op_some, kt_run]
            by_cases z : g ∈ ks
            · rw [if_pos z, ch_t z]
              cases fs.lookup g with
              | none => rfl
              | some x =>
                cases x with
                | int a =>
                  simp only [op_some, kt_run, itV_int]
                  rw [swp_ofE]
                  cases m σ h1 with
                  | ok y h2 =>
                    cases y with
                    | int b =>
                      simp only [wp_ok, kt_run, itV_int, op_some]
                      cases h2[n]? with
                      | none => rfl
                      | some ob2 =>
                        cases ob2 with
                        | ins c2 fs2 =>
                          simp only [insV_i, op_some, kt_run]
                          by_cases z2 : c2 = c ∧ fs2.length < 1000
                          · rw [if_pos z2, ch_t z2]; rfl
                          · rw [if_neg z2, ch_f z2]; rfl
                        | _ => rfl
                    | _ => rfl
                  | _ => rfl
                | _ => rfl
            · rw [if_neg z, ch_f z]; rfl
        | _ => rfl
    | _ => rfl
  | _ => rfl
@[simp ↓] theorem wp_Mth [QV : Kt Val] [X : Kx] {g : String} {L : List (String × MF)} : (mMth g L n mo ml σ h).wp = @Res.wp _ (mo σ h) ⟨fun o h1 => @Op _ (rfV o) ⟨fun i h1 => @Op _ (insV h1[i]?) ⟨fun p h1 => @Op _ (L.lookup p.1) ⟨fun f h1 => @Ch (p.2.lookup g = none) (decidable_of_iff (p.2.lookup g).isNone (by cases p.2.lookup g <;> simp)) ⟨@Res.wp _ (ml σ h1) ⟨fun args h2 => @Ch (args.length + 1 = n) _ ⟨(f (.ref i :: args) h2).wp, False⟩⟩ X, False⟩⟩ h1⟩ h1⟩ h1⟩ X := by
  unfold mMth; simp only [wp_bind]
  cases mo σ h with
  | ok o h1 =>
    cases o with
    | ref i =>
      simp only [wp_ok, kt_run, rfV_r, op_some]
      cases e : h1[i]? with
      | none => rfl
      | some ob =>
        cases ob with
        | ins c fs =>
          simp only [insV_i, op_some, kt_run]
          cases L.lookup c with
          | none => rfl
          | some f =>
            simp only [op_some, kt_run]
            cases q : fs.lookup g with
            | none =>
              rw [ch_t rfl]
              simp only [wp_bind]
              cases ml σ h1 with
              | ok args h2 => by_cases z : args.length + 1 = n <;> simp [z]
              | _ => rfl
            | some v => rw [ch_f (by simp)]; rfl
        | _ => rfl
    | _ => rfl
  | _ => rfl
@[simp] theorem isNonV_n : isNonV .non = true := rfl
@[simp ↓] theorem wp_Make [QV : Kt Val] [X : Kx] {c : String} {f : MF} : (mMake c n f ml σ h).wp = @Res.wp _ (ml σ h) ⟨fun args h1 => @Ch (args.length + 1 = n) _ ⟨@Res.wp _ (f (.ref h1.length :: args) (h1 ++ [.ins c []])) ⟨fun v h2 => @Ch (isNonV v = true) _ ⟨QV.run (.ref h1.length) h2, False⟩⟩ X, False⟩⟩ X := by
  unfold mMake; simp only [wp_bind]
  cases ml σ h with
  | ok args h1 =>
    simp only [wp_ok, kt_run]
    by_cases z : args.length + 1 = n
    · rw [if_pos z, ch_t z]
      cases f (.ref h1.length :: args) (h1 ++ [.ins c []]) with
      | ok v h2 => simp only [wp_ok, kt_run]; by_cases q : isNonV v = true <;> simp [q]
      | _ => rfl
    · rw [if_neg z, ch_f z]; rfl
  | _ => rfl
end
end Mi
/-! Mi19: what is raised, what is caught and kept as a value. -/
namespace Mi
open PySem L2 PyProof.Rows

/-! ### an exception that was caught becomes a tracked object -/
theorem exH_ok {P : Program} {w : World} {H : Hp} {h : Heap} {a : Addr} {cls : Value} {d : Option Addr} {oe : Obj} {vs : Array Value} (e : h.get? a = some oe) (z : Zc cls d oe) (dd : oe.data = .fields vs) : ObjOk P w H h a (ExH a cls d) :=
  ⟨⟨oe, vs, e, z, dd⟩, ⟨oe, e⟩, fun h1 h2 ⟨o, v, q, r⟩ k => ⟨o, v, k o q, r⟩⟩
section
variable {X : Cx} {pins : List (Addr × Obj)} {σ : L2.St} {H : Hp} {s : Shared} {a : Addr}
theorem inv_track {cls : Value} {d : Option Addr} {oe : Obj} {vs : Array Value} (I : Inv X pins σ H s) (ha : s.heap.get? a = some oe) (hz : Zc cls d oe) (hd : oe.data = .fields vs) (na : H a = none) (n0 : X.s_0.heap.get? a = none) (nL : a ≠ X.env.locals) (np : ∀ p ∈ X.pn ++ pins, p.1 ≠ a) :
    Inv X pins σ (upd H a (ExH a cls d)) s := by
  have other : ∀ {b : Addr} {u : HO}, H b = some u → upd H a (ExH a cls d) b = some u := fun {b u} e => by rw [upd_ne (ne_of_none e na)]; exact e
  have none' : ∀ {b : Addr}, b ≠ a → H b = none → upd H a (ExH a cls d) b = none := fun {b} n e => by rw [upd_ne n]; exact e
  have cellN : ∀ x c, X.env.cells.lookup x = some c → c ≠ a := fun x c e z => by
    obtain ⟨v, o, h1, h2⟩ := I.cell x c e
    rw [z, ha] at h1
    cases h1
    rw [hd] at h2; cases h2
  have U := I.base
  constructor
  case ok => exact I.ok
  case os => exact I.os
  case bare => exact I.bare
  case base =>
    constructor
    case keep => exact U.keep
    case slot => exact U.slot
    case free => exact fun b o e n x => none' (fun z => by rw [z, n0] at e; cases e) (U.free b o e n x)
    case there => exact U.there
    case tups => exact fun b xs e => other (U.tups b xs e)
    case frzs => exact fun b o u e => other (U.frzs b o u e)
    case tbls => exact fun b ps e => let ⟨m, q⟩ := U.tbls b ps e; ⟨m, other q⟩
  case loc => exact I.loc
  case cell => exact I.cell
  case free => exact none' (Ne.symm nL) I.free
  case freeC => exact fun x c e => none' (cellN x c e) (I.freeC x c e)
  case pin =>
    intro p hp
    obtain ⟨h1, h2, h3⟩ := I.pin p hp
    exact ⟨h1, none' (np p hp) h2, h3⟩
  case hok =>
    intro b u e
    by_cases q : b = a
    · subst q
      rw [upd_same] at e
      cases e
      exact exH_ok ha hz hd
    · rw [upd_ne q] at e
      exact (I.hok b u e).stay (fun _ _ _ z => z) (fun _ z => other z) fun _ _ z => other z
  case len => exact I.len
/-- into the suite, and out of it; nothing is pinned that wasn't -/
theorem inv_in (I : Inv X pins σ H s) : Inv (X.suite a (X.pn ++ pins)) [] σ H s := by
  obtain ⟨h1, h2, h3, h4, h5, h6, h7, h8, h9, h10, h11⟩ := I
  exact ⟨h1.suite _ _, h2, h3, h4, h5, h6, h7, h8, fun p hp => h9 p (by simpa using hp), h10, h11⟩
theorem inv_out (I : Inv (X.suite a (X.pn ++ pins)) [] σ H s) (ok : X.Ok) : Inv X pins σ H s := by
  obtain ⟨h1, h2, h3, h4, h5, h6, h7, h8, h9, h10, h11⟩ := I
  exact ⟨ok, h2, h3, h4, h5, h6, h7, h8, fun p hp => h9 p (by simpa using hp), h10, h11⟩
end
/-- what 'except x as n' wishes, the exception tracked from there on -/
def wAsT (K : PySem.W.Frag) (c : Value) (i : Nat) (ts : Addr → Value → Option Addr → TS) (Wout : WX) (D : Ends) : WX := fun cls d σ H => ∃ b, PySem.W.exmOne K cls c = some b ∧
  (b = true → ∀ a, H a = none → ts a cls d ⟨fun σ' H' => D.nx (σ'.set i none) H', D.rt, fun σ' H' => D.bk (σ'.set i none) H', fun σ' H' => D.ct (σ'.set i none) H'⟩ (σ.set i (some (.ref a))) (upd H a (ExH a cls d))) ∧ (b = false → Wout cls d σ H)
section
variable {X : Cx} {x n : Str} {c : Value} {i : Nat} {body suite : List Stmt} {st0 : Stmt} {np pos pos' : Pos} {tb : WX → TS} {ts : Addr → Value → Option Addr → TS} {Wo : WX}
/-- try: body, except x as n: suite; what was caught is tracked within the suite and behind it -/
theorem ps_tryT (hs : X.stack = X.env :: X.outer) (hf : X.env.frame = some X.env.locals) (hex : X.ex = []) (hN : X.N.Nodup) (hi : X.N[i]? = some n) (hk : X.env.kindOf n = some .local) (hc : Names X x c) (tk : Takes X Wo)
    (hb : ∀ (W : WX) (pn : List (Addr × Obj)) (xe : Value → Shared → Prop), Takes (X.tr pn xe) W → PassesOwn (model X.prog X.w) X.A X.env xe → PSs (X.tr pn xe) body (tb W))
    (hu : ∀ (a : Addr) (cls : Value) (d : Option Addr) (pn : List (Addr × Obj)), PSs (X.suite a pn) (st0 :: suite) (ts a cls d)) :
    PS X (.Try body [.ExceptHandler (some (.Name x np)) (some n) (st0 :: suite) pos'] [] [] pos) (fun D σ H => tb (wAsT X.K c i ts Wo D) D σ H) := ⟨fun pins s σ H D I h => by
  have ok := I.ok
  have frA : X.A.frames = some (X.env :: X.outer) := ok.frames.trans (congrArg some hs)
  have caught : ∀ u s', XE (X.tr (X.pn ++ pins) (fun e s₁ => wpAny (model X.prog X.w) X.A (noteFrame e X.env) (fun _ s₂ => wpAny (model X.prog X.w) X.A (setFlight e none) (fun _ s₃ =>
      wpAny (model X.prog X.w) X.A (handleBy e X.env [.ExceptHandler (some (.Name x np)) (some n) (st0 :: suite) pos']) (SP X pins D) X.xe s₃) X.xe s₂) X.xe s₁)) (wAsT X.K c i ts Wo D) u s' →
      wpAny (model X.prog X.w) X.A (noteFrame u X.env) (fun _ s₂ => wpAny (model X.prog X.w) X.A (setFlight u none) (fun _ s₃ => wpAny (model X.prog X.w) X.A (handleBy u X.env [.ExceptHandler (some (.Name x np)) (some n) (st0 :: suite) pos']) (SP X pins D) X.xe s₃) X.xe s₂) X.xe s' := by
    rintro u s' ⟨a, B, sI, pins2, σ1, H1, cls, d, rfl, J0, nb, up, sky, na, os, ag, b, eb, yes, no⟩
    have J : Inv X pins σ1 H1 sI := J0.ofTry ok
    refine Sky.land Zc.steady frA hf (by rw [← hs]; exact sky) fun g1 fly1 up1 => ?_
    have land : ∀ {g : Heap}, HandSPX.FlyingZ B (X.env :: X.outer) a (Zc cls d) g → s'.heap.UpToSlots g → Inv X pins σ1 H1 { s' with heap := g } := fun {g} f v => J.landed nb f.1 (up.trans v) os ag
    have off : ∀ {g : Heap}, HandSPX.FlyingZ B (X.env :: X.outer) a (Zc cls d) g → a ∉ frs (X.env :: X.outer) := fun {g} f hm => by
      obtain ⟨o1, v1, e1, _, dt⟩ := f.there
      obtain ⟨_, o2, e2, no2⟩ := f.2.2.1.mem hm
      rw [e1] at e2
      cases e2
      exact no2 _ dt
    have a_fr := off fly1
    have a_loc : a ≠ X.env.locals := fun z => a_fr (List.mem_filterMap.mpr ⟨X.env, List.mem_cons_self, hf.trans (congrArg some z.symm)⟩)
    have a_sI : sI.heap.get? a = none := by
      cases e : sI.heap.get? a with
      | none => rfl
      | some o =>
        have := nb a o e (by rw [hs]; exact a_fr)
        rw [fly1.2.1] at this; cases this
    have a_s0 : X.s_0.heap.get? a = none := by
      cases e : X.s_0.heap.get? a with
      | none => rfl
      | some o =>
        obtain ⟨o', q⟩ := J.base.there a o e (by rw [hex]; exact fun z => nomatch z)
        rw [a_sI] at q; cases q
    have a_pin : ∀ p ∈ X.pn ++ pins, p.1 ≠ a := fun p hp z => by
      have := (J.pin p hp).1
      rw [z, a_sI] at this; cases this
    have track : ∀ {g : Heap}, HandSPX.FlyingZ B (X.env :: X.outer) a (Zc cls d) g → s'.heap.UpToSlots g → Inv X pins σ1 (upd H1 a (ExH a cls d)) { s' with heap := g } := fun {g} f v => by
      obtain ⟨o1, v1, e1, z1, dt⟩ := f.there
      exact inv_track (land f v) e1 z1 dt na a_s0 a_loc a_pin
    have S1 := inv_in (a := a) (land fly1 up1)
    refine wpAny_handleBy_cons (codeAny_handlers_test ?_) (by intro q; cases q)
    obtain ⟨o1, v1, e1, z1, dt1⟩ := fly1.there
    have ofT : PySem.W.Looks (model X.prog X.w) g1 (typeOf (.ref a)) cls := fun _ _ _ _ k q => wpAny_typeOf_ref (k _ _ e1) (z1.1 ▸ q)
    have match_ := PySem.W.exm_one (M := model X.prog X.w) (land fly1 up1).kIn ofT eb
    have name : ∀ {Q E : Value → Shared → Prop}, Q c { s' with heap := g1 } → wpAny (model X.prog X.w) (X.A.mark (some (.ref a))) (eval (.Name x np) X.env) Q E { s' with heap := g1 } := fun {Q E} q => by
      obtain ⟨hg, hdb, hm | ⟨hm, hv, hn⟩⟩ := hc
      · exact ld_glob (X := X.suite a (X.pn ++ pins)) S1 hg hm q hdb
      · exact ld_blt (X := X.suite a (X.pn ++ pins)) S1 hg hm hv q hn hdb
    refine name (match_.here ?_)
    cases b with
    | false =>
      refine wpAny_handleBy_nil ?_
      obtain ⟨_, _, _, oe, vs, T, oT, ts', he, hz, hd, h1, hr⟩ := id fly1
      unfold PySem.passOn
      refine wpAny_bind (wpAny_field he hd h1 ?_)
      rw [if_neg (by simp : ¬ ((Value.ref T == Value.none) = true))]
      have on : wpAny (model X.prog X.w) X.A (setFlight (.ref a) X.env.frame) (fun _ s4 => wpAny (model X.prog X.w) X.A (throw (.ref a) : Sem Flow) (SP X pins D) X.xe s4) X.xe { s' with heap := g1 } := by
        rw [hf]
        exact HandSPX.setFlight_upZ fly1 fun g2 fly2 up2 => wpAny_throw (tk _ _ ⟨a, B, sI, pins, σ1, H1, cls, d, rfl, J, nb, (up.trans up1).trans up2, .inr (.inr (by rw [hs]; exact fly2)), na, os, ag, no rfl⟩)
      first
        | exact wpAny_bind on
        | exact wpAny_bind (wpAny_pure (wpAny_bind on))
    | true =>
      refine codeAny_handlers_suite_as (HandSPX.lands_againZ fly1 fun g2 fly2 up2 => ?_)
      have S2 := inv_in (a := a) (track fly2 (up1.trans up2))
      refine store_ok (X := X.suite a (X.pn ++ pins)) (v := .ref a) S2 hN hi (.inl hk) rfl (fun s5 S5 => ?_) (.inr hk)
      have leave : ∀ {s6 : Shared} {σ6 : L2.St} {H6 : Hp} {Q : Shared → Prop}, Inv (X.suite a (X.pn ++ pins)) [] σ6 H6 s6 → (∀ s7, Inv X pins (σ6.set i none) H6 s7 → Q s7) →
          wpAny (model X.prog X.w) X.A (do bindName X.env n .none; unbindBehindTheSuite X.env n pos') (fun _ s7 => Q s7) X.xe s6 := fun S6 hq => gone_ok (inv_out S6 ok) hN hi hk hq
      refine wpAny_mono ((hu a cls d (X.pn ++ pins)).run [] s5 _ _ _ S5 (yes rfl a na)) (fun f s6 e => ?_) fun _ _ z => z.elim
      cases f with
      | next => obtain ⟨σ6, H6, S6, q⟩ := e; exact leave S6 fun s7 J7 => ⟨_, _, J7, q⟩
      | brk => obtain ⟨σ6, H6, S6, q⟩ := e; exact leave S6 fun s7 J7 => ⟨_, _, J7, q⟩
      | cont => obtain ⟨σ6, H6, S6, q⟩ := e; exact leave S6 fun s7 J7 => ⟨_, _, J7, q⟩
      | ret u => obtain ⟨v6, σ6, H6, S6, r, q⟩ := e; exact leave S6 fun s7 J7 => ⟨_, _, _, J7, r, q⟩
  refine wpAny_Try_except (wpAny_mono ((hb _ _ _ caught PassesOwn.looking).run [] s σ H D (I.toTry _) h) (fun f s1 e => ?_) fun _ _ z => z)
  cases f with
  | next => obtain ⟨σ2, H2, J2, q⟩ := e; exact wpAny_execs_nil ⟨σ2, H2, J2.ofTry ok, q⟩
  | brk => obtain ⟨σ2, H2, J2, q⟩ := e; exact ⟨σ2, H2, J2.ofTry ok, q⟩
  | cont => obtain ⟨σ2, H2, J2, q⟩ := e; exact ⟨σ2, H2, J2.ofTry ok, q⟩
  | ret u => obtain ⟨v, σ2, H2, J2, r, q⟩ := e; exact ⟨v, σ2, H2, J2.ofTry ok, r, q⟩⟩
end

/-! ### raise -/
structure ExcM (K : PySem.W.Frag) (mg : Str → Option Value) (cn : String → Addr) (c : String) : Prop where
  x : PySem.W.excIn K (cn c) [.type "ValueError", .type "Exception", .type "BaseException", .type "object"] "ValueError.__new__" = true
  g : mg (Str.ofString c) = some (.ref (cn c))
  k : PySem.W.keepIn K (.ref (cn c)) = true
  b : PySem.W.subIn K (.ref (cn c)) (.type "BaseException") = some true
  t : PySem.W.typeIn K (.ref (cn c)) = some (.type "type")
def sRaise (c : String) : MS := fun σ h => .exc c none σ h
section
variable {X : Cx} {cn : String → Addr} {W : WX} {e : Expr} {p0 p1 p2 pos : Pos}
theorem s_raise {c : String} {m : Str} {j : Nat} (M : ExcM X.K X.mg cn c) (tk : Takes X W) (hc : X.calm = true := by rfl) (hg : Gl X (Str.ofString c) := by rfl) (hdb : (Str.ofString c == ("__debug__" : Str)) = false := by decide) :
    SM X cn W (.Raise (some (.Call (.Name (Str.ofString c) p0) [.Constant (.str m) j p1] [] p2)) none pos) (sRaise c) :=
  PS.wk (ps_raise hc tk (pmk_own PySem.F.excBase_ValueError M.x M.g M.k (raises_own M.b M.t) hg hdb)) fun D σ H ⟨E, p, σm, mh, e1, R, k⟩ => by
    subst e1
    exact k p σ _ _ R (Ext.refl p) ⟨rfl, rfl⟩

/-! ### try -/
def sTryAs (L : List (String × Bool)) (i : Nat) (body suite : MS) : MS := fun σ h => match body σ h with
  | .exc c f σ1 h1 => match L.lookup c with
    | some true => if i < σ1.length then (match suite (σ1.set i (.val (.exc c f))) h1 with
      | .next σ2 h2 => if i < σ2.length then .next (σ2.set i .unset) h2 else .bad
      | .brk σ2 h2 => if i < σ2.length then .brk (σ2.set i .unset) h2 else .bad
      | .cont σ2 h2 => if i < σ2.length then .cont (σ2.set i .unset) h2 else .bad
      | .ret v h2 => .ret v h2
      | _ => .bad) else .bad
    | some false => .exc c f σ1 h1
    | none => .bad
  | r => r
def sTry (L : List (String × Bool)) (body suite : MS) : MS := fun σ h => match body σ h with
  | .exc c f σ1 h1 => match L.lookup c with
    | some true => (match suite σ1 h1 with
      | .exc _ _ _ _ => .bad
      | r => r)
    | some false => .exc c f σ1 h1
    | none => .bad
  | r => r
theorem rx_track {C : Cn} {E q : Pt} {σm : Env} {mh : MH} {σ : L2.St} {c : String} {f : Option Val} {cls : Value} {d : Option Addr} {a : Addr} (R : Rel C E q σm mh σ) (rx : RX C q c f cls d) (na : q.H a = none) : RV C (q.up a (ExH a cls d)) (.exc c f) (.ref a) := by
  obtain ⟨rfl, r2⟩ := rx
  have nf : ¬ q.F a := nF_new R.h na
  cases f with
  | none =>
    subst r2
    unfold RV
    exact ⟨a, rfl, nf, upd_same⟩
  | some v =>
    obtain ⟨dd, fs, y, rfl, b2, b3, b4, b5⟩ := r2
    unfold RV
    refine ⟨a, dd, fs, y, rfl, nf, upd_same, b2, ?_, b4, b5.ext (ext_up na)⟩
    show upd q.H a _ dd = _
    rw [upd_ne (ne_of_none b3 na)]
    exact b3
variable {x n : Str} {C : Addr} {i : Nat} {body suite : List Stmt} {st0 : Stmt} {np pos' : Pos} {L : List (String × Bool)} {mb ms : MS}
theorem s_tryAs (i : Nat) (hL : ∀ c b, (c, b) ∈ L → PySem.W.exmOne X.K (.ref (cn c)) (.ref C) = some b) (hg : X.mg x = some (.ref C)) (hN : X.N.Nodup) (tk : Takes X W)
    (hb : ∀ (W : WX) (pn : List (Addr × Obj)) (xe : Value → Shared → Prop), Takes (X.tr pn xe) W → PassesOwn (model X.prog X.w) X.A X.env xe → BM (X.tr pn xe) cn W body mb)
    (hu : ∀ (a : Addr) (pn : List (Addr × Obj)), BM (X.suite a pn) cn W0 (st0 :: suite) ms)
    (hs : X.stack = X.env :: X.outer := by rfl) (hf : X.env.frame = some X.env.locals := by rfl) (hex : X.ex = [] := by rfl) (hi : X.N[i]? = some n := by rfl) (hk : X.env.kindOf n = some .local := by rfl) (hgl : Gl X x := by rfl) (hdb : (x == ("__debug__" : Str)) = false := by decide) :
    SM X cn W (.Try body [.ExceptHandler (some (.Name x np)) (some n) (st0 :: suite) pos'] [] [] pos) (sTryAs L i mb ms) :=
  PS.wk (ps_tryT (tb := fun W => tS ⟨X.K, cn⟩ W mb) (ts := fun _ _ _ => tS ⟨X.K, cn⟩ W0 ms) hs hf hex hN hi hk ⟨hgl, hdb, .inl hg⟩ tk (fun W pn xe t o => hb W pn xe t o) fun a _ _ pn => hu a pn) fun D σ H ⟨E, p, σm, mh, e1, R, k⟩ => by
    refine ⟨E, p, σm, mh, e1, R, ?_⟩
    unfold sTryAs at k
    cases r : mb σm mh with
    | next σ1 h1 => rw [r] at k; exact k
    | brk σ1 h1 => rw [r] at k; exact k
    | cont σ1 h1 => rw [r] at k; exact k
    | ret v h1 => rw [r] at k; exact k
    | bad => rw [r] at k; exact k
    | exc c f σ1 h1 =>
      rw [r] at k
      intro q σ' cls d R1 x1 rx
      simp only at k
      cases hl : L.lookup c with
      | none => rw [hl] at k; exact k.elim
      | some b =>
        rw [hl] at k
        refine ⟨b, by rw [rx.1]; exact hL c b (lookup_mem hl), fun eb a na => ?_, fun eb => ?_⟩
        · subst eb
          simp only at k
          by_cases z : i < σ1.length
          · rw [if_pos z] at k
            have R2 : Rel ⟨X.K, cn⟩ E (q.up a (ExH a cls d)) σ1 h1 σ' := R1.up na
            have R3 := R2.setV z (rx_track R1 rx na)
            have k3 := postS.ext (x1.trans ((ext_up (o := ExH a cls d) na).trans (ext_un (i := i)))) k
            refine ⟨E, (q.up a (ExH a cls d)).un i, _, h1, rfl, R3, ?_⟩
            cases r2 : ms (σ1.set i (.val (.exc c f))) h1 with
            | next σ2 h2 =>
              rw [r2] at k3
              intro q4 σ4 R4 x4
              simp only at k3
              by_cases z2 : i < σ2.length
              · rw [if_pos z2] at k3
                exact k3 (q4.un i) _ (R4.unset z2) (x4.trans ext_un)
              · rw [if_neg z2] at k3; exact k3.elim
            | brk σ2 h2 =>
              rw [r2] at k3
              intro q4 σ4 R4 x4
              simp only at k3
              by_cases z2 : i < σ2.length
              · rw [if_pos z2] at k3
                exact k3 (q4.un i) _ (R4.unset z2) (x4.trans ext_un)
              · rw [if_neg z2] at k3; exact k3.elim
            | cont σ2 h2 =>
              rw [r2] at k3
              intro q4 σ4 R4 x4
              simp only at k3
              by_cases z2 : i < σ2.length
              · rw [if_pos z2] at k3
                exact k3 (q4.un i) _ (R4.unset z2) (x4.trans ext_un)
              · rw [if_neg z2] at k3; exact k3.elim
            | ret v h2 => rw [r2] at k3; exact k3
            | exc c2 f2 σ2 h2 => rw [r2] at k3; exact k3.elim
            | bad => rw [r2] at k3; exact k3.elim
          · rw [if_neg z] at k; exact k.elim
        · subst eb
          exact k q σ' cls d R1 x1 rx
theorem s_try (hL : ∀ c b, (c, b) ∈ L → PySem.W.exmOne X.K (.ref (cn c)) (.ref C) = some b) (hg : X.mg x = some (.ref C)) (tk : Takes X W)
    (hb : ∀ (W : WX) (pn : List (Addr × Obj)) (xe : Value → Shared → Prop), Takes (X.tr pn xe) W → PassesOwn (model X.prog X.w) X.A X.env xe → BM (X.tr pn xe) cn W body mb)
    (hu : ∀ (a : Addr) (pn : List (Addr × Obj)), BM (X.suite a pn) cn W0 (st0 :: suite) ms)
    (hs : X.stack = X.env :: X.outer := by rfl) (hf : X.env.frame = some X.env.locals := by rfl) (hgl : Gl X x := by rfl) (hdb : (x == ("__debug__" : Str)) = false := by decide) :
    SM X cn W (.Try body [.ExceptHandler (some (.Name x np)) none (st0 :: suite) pos'] [] [] pos) (sTry L mb ms) :=
  PS.wk (ps_try_only (tb := fun W => tS ⟨X.K, cn⟩ W mb) (ts := fun _ _ _ => tS ⟨X.K, cn⟩ W0 ms) hs hf ⟨hgl, hdb, .inl hg⟩ tk (fun W pn xe t o => hb W pn xe t o) fun a _ _ _ pn _ _ => hu a _) fun D σ H ⟨E, p, σm, mh, e1, R, k⟩ => by
    refine ⟨E, p, σm, mh, e1, R, ?_⟩
    unfold sTry at k
    cases r : mb σm mh with
    | next σ1 h1 => rw [r] at k; exact k
    | brk σ1 h1 => rw [r] at k; exact k
    | cont σ1 h1 => rw [r] at k; exact k
    | ret v h1 => rw [r] at k; exact k
    | bad => rw [r] at k; exact k
    | exc c f σ1 h1 =>
      rw [r] at k
      intro q σ' cls d R1 x1 rx
      simp only at k
      cases hl : L.lookup c with
      | none => rw [hl] at k; exact k.elim
      | some b =>
        rw [hl] at k
        refine ⟨b, by rw [rx.1]; exact hL c b (lookup_mem hl), fun eb a na => ?_, fun eb => ?_⟩
        · subst eb
          simp only at k
          have k3 := postS.ext x1 k
          refine ⟨E, q, σ1, h1, rfl, R1, ?_⟩
          cases r2 : ms σ1 h1 with
          | next σ2 h2 => rw [r2] at k3; exact k3
          | brk σ2 h2 => rw [r2] at k3; exact k3
          | cont σ2 h2 => rw [r2] at k3; exact k3
          | ret v h2 => rw [r2] at k3; exact k3
          | exc c2 f2 σ2 h2 => rw [r2] at k3; exact k3.elim
          | bad => rw [r2] at k3; exact k3.elim
        · subst eb
          exact k q σ' cls d R1 x1 rx

/-! ### isinstance of what was caught -/
def tCl (cs : List V) : TA := fun _ H Q => Q cs H
theorem pc_nil : PA X [] (tCl []) := pa_nil
theorem pc_own {es : List Expr} {cs : List V} (hm : X.mg x = some (.ref C)) (h : PA X es (tCl cs)) (hg : Gl X x := by rfl) (hdb : (x == ("__debug__" : Str)) = false := by decide) : PA X (.Name x p0 :: es) (tCl (.ref C :: cs)) :=
  pa_cons (pe_glob hg hm (v := .ref C) rfl hdb) h rfl
theorem pc_blt {es : List Expr} {cs : List V} {T : String} (hm : X.mg x = none) (hv : bootBuiltins x = some (.type T)) (h : PA X es (tCl cs)) (hg : Gl X x := by rfl) (hn : x ≠ "__name__" := by decide) (hdb : (x == ("__debug__" : Str)) = false := by decide) : PA X (.Name x p0 :: es) (tCl (.ty T :: cs)) :=
  pa_cons (pe_bltn hg hm hv (v := .ty T) rfl hn hdb) h rfl
theorem inst_x {K : PySem.W.Frag} {P : Program} {w : World} {H : Hp} {s : Shared} {a D : Addr} (ok : HOk P w H s.heap) (h : H a = some (ExH a (.ref D) none)) : ∃ oe, PySem.W.InstAt s.heap a oe D none := by
  obtain ⟨⟨oe, vs, e1, ⟨z1, z2⟩, e2⟩, _⟩ := (show ObjOk P w H s.heap a (ExH a (.ref D) none) from ok a _ h)
  obtain ⟨oc, od, oda, osl⟩ := oe
  dsimp only at z1 z2 e2
  subst z1 z2 e2
  exact ⟨_, e1, rfl, rfl, trivial⟩
/-- isinstance(e, c), e tracked -/
def rIsX (K : PySem.W.Frag) : List V → Hp → VK → Prop := fun xs H Q => ∃ (a D : Addr) (c : V) (cv : Value) (b : Bool), xs = [.ref a, c] ∧ H a = some (ExH a (.ref D) none) ∧ ExcC K D ∧ ClsV c cv ∧ PySem.W.kitOne K (.ref D) cv = some b ∧ Q (.bl b) H
theorem call_isX : CallR X (.builtin "isinstance") (rIsX X.K) := by
  intro pins s σ H xs us Q I r ⟨a, D, c, cv, b, exs, ha, F, hc, e, q⟩
  subst exs
  cases r with
  | cons rx rr =>
    cases rr with
    | cons rt rr =>
      cases rr
      cases rx
      have := hc.eq rt
      subst this
      obtain ⟨oe, J⟩ := inst_x (K := X.K) I.hok ha
      exact PySem.W.kia_one (PySem.W.handS_kitx_exc F.hg F.hk F.hs F.hd F.ha F.hn F.ht F.hm) I.kIn J e (fun z => nomatch z) fun tk => ⟨.bl b, H, I.tok tk, rfl, q⟩
def rIsXT (K : PySem.W.Frag) : List V → Hp → VK → Prop := fun xs H Q => ∃ (a D tp : Addr) (cs : List V) (us : List Value) (b : Bool), xs = [.ref a, .ref tp] ∧ H tp = some (.tup cs) ∧ H a = some (ExH a (.ref D) none) ∧ ExcC K D ∧ Paired ClsV cs us ∧ PySem.W.kitAny K (.ref D) us = some b ∧ Q (.bl b) H
theorem call_isXT : CallR X (.builtin "isinstance") (rIsXT X.K) := by
  intro pins s σ H xs us Q I r ⟨a, D, tp, cs, ws, b, exs, hT, ha, F, hc, e, q⟩
  subst exs
  cases r with
  | cons rx rr =>
    cases rr with
    | cons rt rr =>
      cases rr
      cases rx
      cases rt
      obtain ⟨oe, J⟩ := inst_x (K := X.K) I.hok ha
      obtain ⟨_, its, rv, o, h1, h2, m, h3⟩ := (show ObjOk X.prog X.w H s.heap tp (.tup cs) from I.hok tp _ hT)
      have e3 := ClsV.all hc rv
      subst e3
      obtain ⟨oc, od, dt, sl⟩ := o
      dsimp only at h2 h3
      subst h2 h3
      exact PySem.W.kia_tup (PySem.W.handS_kitx_exc F.hg F.hk F.hs F.hd F.ha F.hn F.ht F.hm) I.kIn J h1 e (fun z => nomatch z) fun tk => ⟨.bl b, H, I.tok tk, rfl, q⟩
def mIsE (T : List (String × Bool)) (m : ME Val) : ME Val := fun σ h => (m σ h).bind fun v h1 => match v with
  | .exc c none => match T.lookup c with
    | some b => .ok (.bl b) h1
    | none => .bad
  | _ => .bad
theorem e_isE {T : List (String × Bool)} {c : V} {cv : Value} {ce : Expr} {m : ME Val} (ha : EM X cn W e m) (hcl : PA X [ce] (tCl [c])) (hcv : ClsV c cv) (F : ∀ d b, (d, b) ∈ T → ExcC X.K (cn d) ∧ PySem.W.kitOne X.K (.ref (cn d)) cv = some b) (hi : X.mg "isinstance" = none) (hg : Gl X "isinstance" := by rfl)
    (hs : starEach [e, ce] X.env = (false, eval e X.env) :: starEach [ce] X.env := by rfl) (hpl : (backTo pos (starEach [ce] X.env)).any (·.1) = false := by rfl) :
    EM X cn W (.Call (.Name "isinstance" p0) [e, ce] [] pos) (mIsE T m) :=
  PE.wk (pe_callB call_isX hg hi bo_isinstance (pa_cons ha hcl hs) (by decide) (by decide) hs hpl) fun σ H Q ⟨E, p, σm, mh, e1, R, k⟩ => ⟨E, p, σm, mh, e1, R, k.bind fun v mh1 q x R1 x1 rv k1 => by
    cases v with
    | exc d f =>
      cases f with
      | none =>
        simp only at k1
        cases hl : T.lookup d with
        | none => rw [hl] at k1; exact k1.elim
        | some b =>
          rw [hl] at k1
          have rv' : RV ⟨X.K, cn⟩ q (.exc d none) x := rv
          unfold RV at rv'
          obtain ⟨a, rfl, nf, hH⟩ := rv'
          obtain ⟨F1, F2⟩ := F d b (lookup_mem hl)
          exact ⟨a, cn d, c, cv, b, rfl, hH, F1, hcv, F2, post_fin k1 R1 (by unfold RV; rfl)⟩
      | some _ => exact k1.elim
    | _ => exact k1.elim⟩
theorem e_isET {T : List (String × Bool)} {cs : List V} {us : List Value} {es : List Expr} {kt : Nat} {m : ME Val} (ha : EM X cn W e m) (hcl : PA X es (tCl cs)) (hcv : Paired ClsV cs us) (F : ∀ d b, (d, b) ∈ T → ExcC X.K (cn d) ∧ PySem.W.kitAny X.K (.ref (cn d)) us = some b) (hi : X.mg "isinstance" = none) (hlen : cs.length ≤ sizeLine) (hg : Gl X "isinstance" := by rfl)
    (hs : starEach [e, .Tuple es kt p2] X.env = (false, eval e X.env) :: starEach [.Tuple es kt p2] X.env := by rfl) (hpl : (backTo pos (starEach [.Tuple es kt p2] X.env)).any (·.1) = false := by rfl) (hs2 : starEach [.Tuple es kt p2] X.env = (false, eval (.Tuple es kt p2) X.env) :: starEach [] X.env := by rfl) :
    EM X cn W (.Call (.Name "isinstance" p0) [e, .Tuple es kt p2] [] pos) (mIsE T m) :=
  PE.wk (pe_callB call_isXT hg hi bo_isinstance (pa_cons ha (pa_cons (pe_tup hcl) pa_nil hs2) hs) (by decide) (by decide) hs hpl) fun σ H Q ⟨E, p, σm, mh, e1, R, k⟩ => ⟨E, p, σm, mh, e1, R, k.bind fun v mh1 q x R1 x1 rv k1 => by
    cases v with
    | exc d f =>
      cases f with
      | none =>
        simp only at k1
        cases hl : T.lookup d with
        | none => rw [hl] at k1; exact k1.elim
        | some b =>
          rw [hl] at k1
          have rv' : RV ⟨X.K, cn⟩ q (.exc d none) x := rv
          unfold RV at rv'
          obtain ⟨a, rfl, nf, hH⟩ := rv'
          obtain ⟨F1, F2⟩ := F d b (lookup_mem hl)
          refine ⟨hlen, fun tp htp => ?_⟩
          exact ⟨a, cn d, tp, cs, us, b, rfl, upd_same, by rw [upd_ne (ne_of_none hH htp)]; exact hH, F1, hcv, F2, k1 (q.up tp (.tup cs)) _ (R1.up htp) (ext_up htp) (show RV _ _ _ _ by unfold RV; rfl)⟩
      | some _ => exact k1.elim
    | _ => exact k1.elim⟩
theorem kitAny_of {K : PySem.W.Frag} {t : Value} : ∀ {us : List Value} {bs : List Bool}, Paired (fun u b => PySem.W.kitOne K t u = some b) us bs → PySem.W.kitAny K t us = some (bs.any id)
  | _, _, .nil => rfl
  | _, _, .cons (b := b) h r => by
    unfold PySem.W.kitAny
    rw [h]
    cases b with
    | true => rfl
    | false => have := kitAny_of r; simpa using this
end

/-! ### reasoning -/
section
variable {σ : Env} {h : MH} {m : ME Val} {i : Nat} {L : List (String × Bool)} {mb ms : MS}
@[simp ↓] theorem sw_Raise [K : KS] {c : String} : (sRaise c σ h).wp = K.ex c none σ h := nrf rfl
@[simp ↓] theorem sw_TryAs [K : KS] : (sTryAs L i mb ms σ h).wp = @SRes.wp (mb σ h) ⟨K.nx, K.rt, K.bk, K.ct, fun c f σ1 h1 => @Op _ (L.lookup c) ⟨fun b h1 => @Ch (b = true) _ ⟨@Ch (i < σ1.length) _ ⟨@SRes.wp (ms (σ1.set i (.val (.exc c f))) h1) ⟨fun σ2 h2 => @Ch (i < σ2.length) _ ⟨K.nx (σ2.set i .unset) h2, False⟩, K.rt, fun σ2 h2 => @Ch (i < σ2.length) _ ⟨K.bk (σ2.set i .unset) h2, False⟩, fun σ2 h2 => @Ch (i < σ2.length) _ ⟨K.ct (σ2.set i .unset) h2, False⟩, fun _ _ _ _ => False⟩, False⟩, K.ex c f σ1 h1⟩⟩ h1⟩ := by
  unfold sTryAs
  cases mb σ h with
  | exc c f σ1 h1 =>
    simp only [swp_exc, ks_ex]
    cases L.lookup c with
    | none => rfl
    | some b =>
      simp only [op_some, kt_run]
      cases b with
      | false => rw [ch_f (by simp)]; rfl
      | true =>
        rw [ch_t rfl]
        by_cases z : i < σ1.length
        · simp only [z, if_true, ch_t z]
          cases ms (σ1.set i (.val (.exc c f))) h1 with
          | next σ2 h2 => simp only [swp_next, ks_nx]; by_cases q : i < σ2.length <;> simp [q]
          | brk σ2 h2 => simp only [swp_brk, ks_bk]; by_cases q : i < σ2.length <;> simp [q]
          | cont σ2 h2 => simp only [swp_cont, ks_ct]; by_cases q : i < σ2.length <;> simp [q]
          | _ => rfl
        · simp only [z, if_false, ch_f z]; rfl
  | _ => rfl
@[simp ↓] theorem sw_Try [K : KS] : (sTry L mb ms σ h).wp = @SRes.wp (mb σ h) ⟨K.nx, K.rt, K.bk, K.ct, fun c f σ1 h1 => @Op _ (L.lookup c) ⟨fun b h1 => @Ch (b = true) _ ⟨@SRes.wp (ms σ1 h1) ⟨K.nx, K.rt, K.bk, K.ct, fun _ _ _ _ => False⟩, K.ex c f σ1 h1⟩⟩ h1⟩ := by
  unfold sTry
  cases mb σ h with
  | exc c f σ1 h1 =>
    simp only [swp_exc, ks_ex]
    cases L.lookup c with
    | none => rfl
    | some b =>
      simp only [op_some, kt_run]
      cases b with
      | false => rw [ch_f (by simp)]; rfl
      | true =>
        rw [ch_t rfl]
        cases ms σ1 h1 <;> rfl
  | _ => rfl
def exV : Val → Option String
  | .exc c none => some c
  | _ => none
@[simp] theorem exV_e {c : String} : exV (.exc c none) = some c := rfl
@[simp ↓] theorem wp_IsE [QV : Kt Val] [X : Kx] {T : List (String × Bool)} : (mIsE T m σ h).wp = @Res.wp _ (m σ h) ⟨fun v h1 => @Op _ (exV v) ⟨fun c h1 => @Op _ (T.lookup c) ⟨fun b h1 => QV.run (.bl b) h1⟩ h1⟩ h1⟩ X := by
  unfold mIsE; simp only [wp_bind]
  cases m σ h with
  | ok v h1 =>
    cases v with
    | exc c f =>
      cases f with
      | none => simp only [wp_ok, kt_run, exV_e, op_some]; cases T.lookup c <;> rfl
      | some _ => rfl
    | _ => rfl
  | _ => rfl
@[simp] theorem isNon_exc {c : String} {f : Option Val} : isNon (.exc c f) = false := rfl
@[simp] theorem dr_exc {h : MH} {c : String} {f : Option Val} : deref h (.exc c f) = .exc c f := rfl
end
end Mi
/-! Mi20: what the generated proofs name of classes and exceptions. -/
namespace Mi
open PySem L2 PyProof.Rows
section
variable {P : Program} {w : World} {K : PySem.W.Frag} {mg : Str → Option Value} {base : Heap} {cn : String → Addr} {k n : Nat} {c m f : String} {g : MF}
theorem cls1 (cl : Cls K (cn c)) (no : NoAttr K (cn c) (Str.ofString f)) : Clss K cn [(c, [f])] := fun d fs h => by
  simp only [List.mem_singleton, Prod.mk.injEq] at h
  obtain ⟨rfl, rfl⟩ := h
  exact ⟨cl, fun z hz => by rw [List.mem_singleton.mp hz]; exact no⟩
theorem mth1 (D : MthM P w K mg base cn k c m n g) : ∀ d h, (d, h) ∈ [(c, g)] → MthM P w K mg base cn k d m n h := fun d h z => by
  simp only [List.mem_singleton, Prod.mk.injEq] at z
  obtain ⟨rfl, rfl⟩ := z
  exact D
end
@[simp] theorem lk_cons {α : Type} {c d : String} {x : α} {l : List (String × α)} : List.lookup c ((d, x) :: l) = if c = d then some x else List.lookup c l := by
  rw [List.lookup_cons]
  by_cases z : c = d
  · subst z; simp
  · have : (c == d) = false := by simpa using z
    rw [this, if_neg z]
@[simp] theorem lk_nil {α : Type} {c : String} : List.lookup c ([] : List (String × α)) = none := rfl
def cnOf : List (String × Addr) → String → Addr
  | [], _ => 0
  | (d, a) :: r, c => if c = d then a else cnOf r c
theorem tab_nil {p : String → Bool → Prop} : ∀ c b, (c, b) ∈ ([] : List (String × Bool)) → p c b := fun _ _ h => by cases h
theorem tab_cons {p : String → Bool → Prop} {c : String} {b : Bool} {l : List (String × Bool)} (h : p c b) (r : ∀ c b, (c, b) ∈ l → p c b) : ∀ c' b', (c', b') ∈ (c, b) :: l → p c' b' := fun c' b' z => by
  rcases List.mem_cons.mp z with e | e
  · cases e; exact h
  · exact r _ _ e
theorem bo_ValueError : bootBuiltins "ValueError" = some (.type "ValueError") := by first | rfl | kernel_rfl | decide +kernel

/-! ### a, b = x, a new list of b's own -/
def sPar2O (i j : Nat) (m : ME Val) (ml : ME (List Val)) : MS := fun σ h => ofE (m σ h) σ fun v h1 => ofE (ml σ h1) σ fun l h2 => if i < σ.length ∧ j < σ.length then .next ((σ.set i (.val v)).set j (.own l)) h2 else .bad
section
variable {X : Cx} {cn : String → Addr} {W : WX}
theorem s_par2O (i j : Nat) {x y : Str} {a b : Expr} {m : ME Val} {ml : ME (List Val)} {px py pt pos pt2 : Pos} {kt k2} (hc : X.calm = true) (hN : X.N.Nodup) (ha : EM X cn W a m) (hb : EF X cn W b ml) (hi : X.N[i]? = some x := by rfl) (hj : X.N[j]? = some y := by rfl) (hij : i ≠ j := by decide)
    (hx : X.env.scope.names.lookup x = some .local := by rfl) (hy : X.env.scope.names.lookup y = some .local := by rfl)
    (hw : swappedStores [.Tuple [.Name x px, .Name y py] kt pt] (.Tuple [a, b] k2 pt2) X.env = pure (some [x, y]) := by rfl)
    (hs : swapsWithSole [.Tuple [.Name x px, .Name y py] kt pt] (.Tuple [a, b] k2 pt2) pos.line X.env = pure false := by rfl)
    (h1 : starEach [a, b] X.env = (false, eval a X.env) :: starEach [b] X.env := by rfl) (h2 : starEach [b] X.env = (false, eval b X.env) :: starEach [] X.env := by rfl) :
    SM X cn W (.Assign [.Tuple [.Name x px, .Name y py] kt pt] (.Tuple [a, b] k2 pt2) pos) (sPar2O i j m ml) := PS.wk (ps_par hc hN hi hj hij hx hy (pa_cons ha (pa_cons hb pa_nil h2) h1) hw hs) fun D σ H ⟨E, p, σm, mh, e1, R, k⟩ =>
  ⟨E, p, σm, mh, e1, R, postS.of k fun v mh1 q x R1 x1 rv k1 => ⟨E, q, σm, mh1, rfl, R1, by
    cases r : ml σm mh1 with
    | bad => rw [r] at k1; exact k1
    | exc c f h => rw [r] at k1; exact fun q2 cls d R2 x2 rx => k1 q2 σ cls d R2 x2 rx
    | ok l h =>
      rw [r] at k1
      intro q2 b vs R2 x2 hn rl
      refine ⟨x, .ref b, rfl, ?_⟩
      simp only [ofE] at k1
      split at k1
      · rename_i z
        have R3 := R2.setV z.1 (RV.ext x2 rv)
        have R4 := R3.ow (i := j) (a := b) (vs := vs) (l := l) (by rw [List.length_set]; exact z.2) hn (rl.ext ext_un)
        exact k1 ((q2.un i).ow j b vs) _ R4 (x2.trans ((ext_un (i := i)).trans (ext_ow hn)))
      · exact k1.elim⟩⟩
@[simp ↓] theorem sw_Par2O {σ : Env} {h : MH} {i j : Nat} {m : ME Val} {ml : ME (List Val)} [K : KS] : (sPar2O i j m ml σ h).wp = @Res.wp _ (m σ h) ⟨fun v h1 => @Res.wp _ (ml σ h1) ⟨fun l h2 => @Ch (i < σ.length ∧ j < σ.length) _ ⟨K.nx ((σ.set i (.val v)).set j (.own l)) h2, False⟩⟩ (K.x σ)⟩ (K.x σ) := by
  unfold sPar2O; rw [swp_ofE]
  cases m σ h with
  | ok v h1 =>
    simp only [wp_ok, kt_run]
    rw [swp_ofE]
    cases ml σ h1 with
    | ok l h2 => by_cases z : i < σ.length ∧ j < σ.length <;> simp [z]
    | _ => rfl
  | _ => rfl
end
end Mi
/-! Mi21: loops step by step. -/
namespace Mi
open PySem L2 PyProof.Rows
theorem for_nil {g : MG} {b : MS} {σ : Env} {h : MH} {K : KS} (w : K.nx σ h) : @SRes.wp (forL g b [] σ h) K := w
theorem for_cons {g : MG} {b : MS} {v : Val} {l : List Val} {σ : Env} {h : MH} {K : KS}
    (w : @gW g v σ h ⟨fun σ h => @SRes.wp (b σ h) ⟨fun σ h => @SRes.wp (forL g b l σ h) K, K.rt, K.nx, fun σ h => @SRes.wp (forL g b l σ h) K, K.ex⟩, K.rt, K.bk, K.ct, K.ex⟩) : @SRes.wp (forL g b (v :: l) σ h) K := by
  unfold gW at w
  unfold forL
  cases r : plainG (g v σ h) with
  | next σ1 h1 =>
    rw [r] at w
    have w : @SRes.wp (b σ1 h1) ⟨fun σ h => @SRes.wp (forL g b l σ h) K, K.rt, K.nx, fun σ h => @SRes.wp (forL g b l σ h) K, K.ex⟩ := w
    simp only
    cases r2 : b σ1 h1 with
    | next σ2 h2 => rw [r2] at w; exact w
    | cont σ2 h2 => rw [r2] at w; exact w
    | brk σ2 h2 => rw [r2] at w; exact w
    | ret v h2 => rw [r2] at w; exact w
    | exc c f σ2 h2 => rw [r2] at w; exact w
    | bad => rw [r2] at w; exact w
  | ret v h => rw [r] at w; exact w
  | brk σ h => rw [r] at w; exact w
  | cont σ h => rw [r] at w; exact w
  | exc c f σ h => rw [r] at w; exact w
  | bad => rw [r] at w; exact w
end Mi
/-! Mi22: compared with lists by their numbers within; new lists by operators. -/
namespace Mi
open PySem L2 PyProof.Rows

/-! ### deep down -/
/-- a value with all lists by their numbers as their contents, n deep -/
def dd : Nat → MH → Val → Val
  | 0, _, v => v
  | n + 1, h, .ref k => match h[k]? with
    | some (.lst l) => .lst (l.map (dd n h))
    | _ => .ref k
  | n + 1, h, .lst l => .lst (l.map (dd n h))
  | n + 1, h, .tup l => .tup (l.map (dd n h))
  | _ + 1, _, v => v
section
variable {C : Cn} {E p : Pt} {σm : Env} {mh : MH} {σ : L2.St} {v : Val} {x : V}
theorem RVs.dps {K : PySem.W.Frag} {H : Hp} {f : Val → Val} : ∀ {l : List Val} {vs : List V}, (∀ w y, w ∈ l → RV C p w y → Dp K H y (toD (f w))) → RVs C p l vs → DpAll K H vs (toDs (l.map f))
  | [], vs, _, h => by rw [h.nil_inv]; exact .nil
  | w :: l, vs, k, h => by
    obtain ⟨x, r, rfl, h1, h2⟩ := h.cons_inv
    exact .cons (k w x List.mem_cons_self h1) (RVs.dps (fun w' y hw => k w' y (List.mem_cons_of_mem _ hw)) h2)
theorem ref_list {n : Nat} {l : List Val} (R : Rel C E p σm mh σ) (h : RV C p (.ref n) x) (e : mh[n]? = some (.lst l)) : ∃ a vs, x = .ref a ∧ SqL C.K p.H a vs ∧ RVs C p l vs := by
  obtain ⟨a, vs, e1, e2, _, e3⟩ := RVT.list R (RV.t h) (l := l) (by simp [deref, e])
  exact ⟨a, vs, e1, e2, e3⟩
theorem RV.dd {n : Nat} (R : Rel C E p σm mh σ) : ∀ (m : Nat) {v : Val} {x : V}, wfD n (dd m mh v) = true → n ≤ m → RV C p v x → Dp C.K p.H x (toD (dd m mh v)) := by
  induction n with
  | zero =>
    intro m v x w hm h
    cases m with
    | zero => exact RV.dp 0 w h
    | succ m =>
      cases v with
      | ref k =>
        simp only [Mi.dd] at w
        split at w <;> simp [wfD] at w
      | lst l => simp [Mi.dd, wfD] at w
      | tup l => simp [Mi.dd, wfD] at w
      | _ => exact RV.dp 0 w h
  | succ n ih =>
    intro m v x w hm h
    cases m with
    | zero => omega
    | succ m =>
      cases v with
      | ref k =>
        simp only [Mi.dd] at w ⊢
        split at w
        · rename_i l e
          obtain ⟨a, vs, rfl, h1, h2⟩ := ref_list R h e
          refine .lst h1 (RVs.dps (fun y z hy hz => ih m ?_ (by omega) hz) h2)
          simp only [wfD, List.all_map, List.all_eq_true, Function.comp] at w
          exact w y hy
        · simp [wfD] at w
      | lst l =>
        simp only [Mi.dd] at w ⊢
        unfold RV at h
        obtain ⟨a, vs, rfl, t, r⟩ := h
        refine .lst t.sq (RVs.dps (fun y z hy hz => ih m ?_ (by omega) hz) r)
        simp only [wfD, List.all_map, List.all_eq_true, Function.comp] at w
        exact w y hy
      | tup l =>
        simp only [Mi.dd] at w ⊢
        unfold RV at h
        obtain ⟨a, vs, rfl, t, r⟩ := h
        refine .tup t.sq (RVs.dps (fun y z hy hz => ih m ?_ (by omega) hz) r)
        simp only [wfD, List.all_map, List.all_eq_true, Function.comp] at w
        exact w y hy
      | non => exact RV.dp (n + 1) w h
      | bl b => exact RV.dp (n + 1) w h
      | int i => exact RV.dp (n + 1) w h
      | str s => exact RV.dp (n + 1) w h
      | exc c f => simp [Mi.dd, wfD] at w
      | ktp l => simp [Mi.dd, wfD] at w
theorem RVT.dd {n m : Nat} (R : Rel C E p σm mh σ) (hm : n ≤ m) (w : wfD n (Mi.dd m mh v) = true) (h : RVT C p σm σ v x) : Dp C.K p.H x (toD (Mi.dd m mh v)) := by
  rcases h.here R with h1 | ⟨l, a, vs, e1, e2, e3, e4⟩
  · exact RV.dd R m w hm h1
  · subst e1 e2
    cases n with
    | zero =>
      cases m <;> simp [Mi.dd, wfD] at w
    | succ n =>
      cases m with
      | zero => omega
      | succ m =>
        simp only [Mi.dd] at w ⊢
        refine .lst (.inl (.inl e3)) (RVs.dps (fun y z hy hz => RV.dd (n := n) R m ?_ (by omega) hz) e4)
        simp only [wfD, List.all_map, List.all_eq_true, Function.comp] at w
        exact w y hy
end
@[simp] def opEqD (x y : Val) (h : MH) : Res Val := if wfD 64 (dd 64 h x) && wfD 64 (dd 64 h y) then .ok (.bl (veq (dd 64 h x) (dd 64 h y))) h else .bad
@[simp] def opNeD (x y : Val) (h : MH) : Res Val := if wfD 64 (dd 64 h x) && wfD 64 (dd 64 h y) then .ok (.bl (!veq (dd 64 h x) (dd 64 h y))) h else .bad
section
variable {X : Cx} {cn : String → Addr} {W : WX} {e a b c : Expr} {pos : Pos} {K : PySem.W.Frag}
theorem ent_eqD : Ent2 K cn W (rEqD K) opEqD := by
  intro E q σm mh σ vx vy x y Q R hx hy k
  unfold opEqD at k
  by_cases z : (wfD 64 (dd 64 mh vx) && wfD 64 (dd 64 mh vy)) = true
  · rw [if_pos z] at k
    have z' := Bool.and_eq_true_iff.mp z
    refine ⟨_, _, hx.dd R (Nat.le_refl _) z'.1, hy.dd R (Nat.le_refl _) z'.2, wfD_shaped z'.1, wfD_shaped z'.2, ?_⟩
    rw [eqv_veq 64 _ _ z'.1 z'.2]
    exact post_fin k R (by unfold RV; rfl)
  · rw [if_neg z] at k; exact k.elim
theorem ent_neD : Ent2 K cn W (rNeD K) opNeD := by
  intro E q σm mh σ vx vy x y Q R hx hy k
  unfold opNeD at k
  by_cases z : (wfD 64 (dd 64 mh vx) && wfD 64 (dd 64 mh vy)) = true
  · rw [if_pos z] at k
    have z' := Bool.and_eq_true_iff.mp z
    refine ⟨_, _, hx.dd R (Nat.le_refl _) z'.1, hy.dd R (Nat.le_refl _) z'.2, wfD_shaped z'.1, wfD_shaped z'.2, ?_⟩
    rw [eqv_veq 64 _ _ z'.1 z'.2]
    exact post_fin k R (by unfold RV; rfl)
  · rw [if_neg z] at k; exact k.elim
def c_eqD (hu : X.A.units + 64 < cLine) : CmpM X cn W .Eq opEqD := ⟨_, op_eqD hu, ent_eqD⟩
def c_neD (hu : X.A.units + 64 < cLine) : CmpM X cn W .NotEq opNeD := ⟨_, op_neD hu, ent_neD⟩

/-! ### a new list by an operator -/
def mBinL (mo : Val → Val → MH → Res (List Val)) (a b : ME Val) : ME (List Val) := fun σ h => (a σ h).bind fun x h1 => (b σ h1).bind fun y h2 => mo x y h2
def postF (C : Cn) (W : WX) (E p : Pt) (σm : Env) (σ : L2.St) (Q : VK) : Res (List Val) → Prop
  | .ok l h => ∀ q a vs, Rel C E q σm h σ → Ext p q → q.H a = none → RVs C q l vs → Q (.ref a) (upd q.H a (.lst vs))
  | .exc c f h => ∀ q cls d, Rel C E q σm h σ → Ext p q → RX C q c f cls d → W cls d σ q.H
  | .bad => False
theorem postF.ext {C : Cn} {W : WX} {E p q : Pt} {σm : Env} {σ : L2.St} {Q : VK} {r : Res (List Val)} (x : Ext p q) (h : postF C W E p σm σ Q r) : postF C W E q σm σ Q r := by
  cases r with
  | ok v m => exact fun q' a vs r e hn rv => h q' a vs r (x.trans e) hn rv
  | exc c f m => exact fun q' cls d r e => h q' cls d r (x.trans e)
  | bad => exact h
theorem postF.bind {α β : Type} {R : RR α β} {C : Cn} {W : WX} {E p : Pt} {σm : Env} {σ : L2.St} {Q : β → Hp → Prop} {Q' : VK} {r : Res α} {k : α → MH → Res (List Val)}
    (h : postF C W E p σm σ Q' (r.bind k)) (f : ∀ v mh q x, Rel C E q σm mh σ → Ext p q → R C q σm σ v x → postF C W E q σm σ Q' (k v mh) → Q x q.H) : post R C W E p σm σ Q r := by
  cases r with
  | ok v m => exact fun q x r e rv => f v m q x r e rv (postF.ext e h)
  | exc c g m => exact h
  | bad => exact h
theorem tFr_mk {C : Cn} {W : WX} {m : ME (List Val)} {σ : L2.St} {H : Hp} {Q : VK} (h : tFr C W m σ H Q) : ∃ E p σm mh, p.H = H ∧ Rel C E p σm mh σ ∧ postF C W E p σm σ Q (m σm mh) := by
  obtain ⟨E, p, σm, mh, e1, R, k⟩ := h
  refine ⟨E, p, σm, mh, e1, R, ?_⟩
  cases r : m σm mh with
  | ok l h => rw [r] at k; exact k
  | exc c f h => rw [r] at k; exact k
  | bad => rw [r] at k; exact k
def Ent2F (K : PySem.W.Frag) (cn : String → Addr) (W : WX) (r : R2) (mo : Val → Val → MH → Res (List Val)) : Prop :=
  ∀ (E q : Pt) (σm : Env) (mh : MH) (σ : L2.St) (vx vy : Val) (x y : V) (Q : VK), Rel ⟨K, cn⟩ E q σm mh σ → RVT ⟨K, cn⟩ q σm σ vx x → RVT ⟨K, cn⟩ q σm σ vy y → postF ⟨K, cn⟩ W E q σm σ Q (mo vx vy mh) → r x y q.H Q
theorem f_bin {op : Operator} {r : R2} {mo : Val → Val → MH → Res (List Val)} {ma mb : ME Val} (ho : OpR X (binaryOp op) r) (he : Ent2F X.K cn W r mo) (ha : ET X cn W a ma) (hb : ET X cn W b mb) : EF X cn W (.BinOp a op b pos) (mBinL mo ma mb) :=
  PE.wk (pe_op ho ha hb) fun σ H Q h => by
    obtain ⟨E, p, σm, mh, e1, R, k⟩ := tFr_mk h
    exact ⟨E, p, σm, mh, e1, R, k.bind fun v mh1 q x R1 x1 rv k1 => ⟨E, q, σm, mh1, rfl, R1, k1.bind fun w mh2 q2 y R2 x2 rw k2 => he E q2 σm mh2 σ v w x y Q R2 (rv.ext x2) rw k2⟩⟩
def repL (x y : Val) : Option (List Val) := match x, y with
  | .lst l, .int j => if -(2 ^ 63) ≤ j ∧ j < 2 ^ 63 ∧ l.length * j.toNat ≤ 16777216 then some (List.replicate j.toNat l).flatten else none
  | _, _ => none
def catL (x y : Val) : Option (List Val) := match x, y with
  | .lst l, .lst m => if l.length + m.length ≤ 16777216 then some (l ++ m) else none
  | _, _ => none
def liftL (o : Option (List Val)) (h : MH) : Res (List Val) := match o with
  | some v => .ok v h
  | none => .bad
def opRepL (x y : Val) (h : MH) : Res (List Val) := liftL (repL (deref h x) (deref h y)) h
def opCatL (x y : Val) (h : MH) : Res (List Val) := liftL (catL (deref h x) (deref h y)) h
theorem ent_repL : Ent2F K cn W (rRepR K) opRepL := by
  intro E q σm mh σ vx vy x y Q R hx hy k
  unfold opRepL repL at k
  cases ex : deref mh vx with
  | lst i =>
    rw [ex] at k
    cases ey : deref mh vy with
    | int j =>
      rw [ey] at k
      have e2 := deref_ne ey (fun _ z => by cases z); subst e2
      by_cases z : -(2 ^ 63) ≤ j ∧ j < 2 ^ 63 ∧ i.length * j.toNat ≤ 16777216
      · simp only [z, and_self, if_true] at k
        obtain ⟨a, vs, rfl, _, t1, r1⟩ := hx.list R ex
        refine ⟨a, j, vs, rfl, hy.int, t1, z.1, z.2.1, by rw [r1.length, sizeLine_eq]; exact z.2.2, fun p hp => ?_⟩
        exact k q p _ R (Ext.refl q) hp (r1.flat _)
      · simp only [z, if_false] at k; exact k.elim
    | _ => rw [ey] at k; exact k.elim
  | _ => rw [ex] at k; exact k.elim
theorem ent_catL : Ent2F K cn W (rCatR K) opCatL := by
  intro E q σm mh σ vx vy x y Q R hx hy k
  unfold opCatL catL at k
  cases ex : deref mh vx with
  | lst i =>
    rw [ex] at k
    cases ey : deref mh vy with
    | lst j =>
      rw [ey] at k
      by_cases z : i.length + j.length ≤ 16777216
      · simp only [z, if_true] at k
        obtain ⟨a, vs, rfl, _, t1, r1⟩ := hx.list R ex
        obtain ⟨b, ws, rfl, _, t2, r2⟩ := hy.list R ey
        refine ⟨a, b, vs, ws, rfl, rfl, t1, t2, by rw [r1.length, r2.length, sizeLine_eq]; exact z, fun p hp => ?_⟩
        exact k q p _ R (Ext.refl q) hp (r1.append r2)
      · simp only [z, if_false] at k; exact k.elim
    | _ => rw [ey] at k; exact k.elim
  | _ => rw [ex] at k; exact k.elim
theorem f_rep {ma mb : ME Val} (ha : ET X cn W a ma) (hb : ET X cn W b mb) : EF X cn W (.BinOp a .Mult b pos) (mBinL opRepL ma mb) := f_bin op_repR ent_repL ha hb
theorem f_cat {ma mb : ME Val} (ha : ET X cn W a ma) (hb : ET X cn W b mb) : EF X cn W (.BinOp a .Add b pos) (mBinL opCatL ma mb) := f_bin op_catR ent_catL ha hb
end
section
variable {σ : Env} {h : MH} {a b : ME Val}
@[simp ↓] theorem wp_BinL {mo : Val → Val → MH → Res (List Val)} [QV : Kt (List Val)] [X : Kx] : (mBinL mo a b σ h).wp = @Res.wp Val (a σ h) ⟨fun x h1 => @Res.wp Val (b σ h1) ⟨fun y h2 => (mo x y h2).wp⟩ X⟩ X := by
  unfold mBinL
  cases a σ h with
  | ok x h1 => simp only [rb_ok, wp_ok, kt_run]; exact wpb _ _ _ _
  | _ => rfl
@[simp ↓] theorem wp_repL {x y : Val} [QV : Kt (List Val)] [X : Kx] : (opRepL x y h).wp = Op (repL (deref h x) (deref h y)) h := by
  unfold opRepL
  cases repL (deref h x) (deref h y) <;> rfl
@[simp ↓] theorem wp_catL {x y : Val} [QV : Kt (List Val)] [X : Kx] : (opCatL x y h).wp = Op (catL (deref h x) (deref h y)) h := by
  unfold opCatL
  cases catL (deref h x) (deref h y) <;> rfl
@[simp] theorem repL_e {l : List Val} {j : Int} : repL (.lst l) (.int j) = if -(2 ^ 63) ≤ j ∧ j < 2 ^ 63 ∧ l.length * j.toNat ≤ 16777216 then some (List.replicate j.toNat l).flatten else none := rfl
@[simp] theorem catL_e {l m : List Val} : catL (.lst l) (.lst m) = if l.length + m.length ≤ 16777216 then some (l ++ m) else none := rfl
end
end Mi
/-! Mi23: min and max of a list of tuples of numbers. -/
namespace Mi
open PySem PySem.Spec L2 PyProof PyProof.Rows

/-- compared wherever the cells stand -/
def CmpK (prog : Program) (w : World) (A : Around) (op : CmpOp) (Kp : Heap → Prop) (P : Nat → Value → Prop) (bt : Nat → Nat → Bool) : Prop :=
  ∀ (i j : Nat) (x y : Value) (z : Shared) (Q : Value → Shared → Prop) (E : Value → Shared → Prop), Kp z.heap → P i x → P j y → Q (.bool (bt i j)) z → wpAny (model prog w) A (richCompare op x y) Q E z
section
variable {prog : Program} {w : World} {A : Around} {R : Result → Shared → Prop} {J : Addr} {fp wr : List Addr} {n : Nat} {P : Nat → Value → Prop} {St : Nat → Heap → Prop} {Kp : Heap → Prop} {bt : Nat → Nat → Bool}
/-- the walked rest, the best one so far at hand -/
theorem minRestK (V : Walks prog w A.in1 J fp wr n P St) (cmp : CmpK prog w A.in1 .Lt Kp P bt) (B : Addr) (nB : B ∉ fp)
    (kp : ∀ h h', Kp h → (∀ b o, b ∉ wr → b ≠ B → h.get? b = some o → h'.get? b = some o) → Kp h') :
    ∀ (r j : Nat) (z : Shared) (best : Value) (c : Nat), n - (j + 1) = r → j + 1 ≤ n → St (j + 1) z.heap → Kp z.heap → P (argBest bt j) best →
    z.heap.get? B = some ⟨.type "list", none, .seq #[best, best] c, #[]⟩ →
    (∀ v h' tk, P (argBest bt (n - 1)) v → (∀ b o, b ∉ wr → b ≠ B → z.heap.get? b = some o → h'.get? b = some o) → R (.ok (.ret v)) { z with heap := h', toks := tk }) →
    codeAny (model prog w) A (.builtin "min.loop" ⟨[.ref J, .none, .ref B], []⟩) R z := by
  have nw : B ∉ wr := fun q => nB (V.sub _ q)
  have nm : (toString "min" ++ toString ".loop" : String) = "min.loop" := by decide
  intro r
  induction r with
  | zero =>
    intro j z best c hr hj hst hK hP hB done
    have at_end : j + 1 = n := by omega
    refine codeAny_builtin F.entry_min_loop ?_
    rw [Around.under_plainId F.plain_min_loop _]
    show wpAny _ A.in1 (seqItems? (.ref B) >>= _) _ _ z
    refine wpAny_bind (wpAny_seqItems hB rfl ?_)
    show wpAny _ A.in1 (tryCatch (pyNext (.ref J)) _ >>= _) _ _ z
    refine wpAny_bind (wpAny_tryCatch (V.done z _ _ (at_end ▸ hst) fun h' tk kept => ?_))
    have hB' := kept B _ nw hB
    show wpAny _ A.in1 (updateSeq B (fun _ => #[]) >>= _) _ _ _
    refine wpAny_bind (wpAny_updateSeq hB' rfl (wpAny_bind (wpAny_letGo (wpAny_pure ?_))))
    exact done best _ tk (by rw [← at_end]; exact hP) fun b o b1 b2 e => (Heap.get?_update_other _ _ (Ne.symm b2)).trans (kept b o b1 e)
  | succ r ih =>
    intro j z best c hr hj hst hK hP hB done
    have more : j + 1 < n := by omega
    refine codeAny_builtin F.entry_min_loop ?_
    rw [Around.under_plainId F.plain_min_loop _]
    show wpAny _ A.in1 (seqItems? (.ref B) >>= _) _ _ z
    refine wpAny_bind (wpAny_seqItems hB rfl ?_)
    show wpAny _ A.in1 (tryCatch (pyNext (.ref J)) _ >>= _) _ _ z
    refine wpAny_bind (wpAny_tryCatch (V.item (j + 1) z _ _ more hst fun x h' tk hx hst' kept => ?_))
    have hB' := kept B _ nw hB
    have hK' : Kp h' := kp _ _ hK fun b o b1 _ e => kept b o b1 e
    show wpAny _ A.in1 (tryCatch (holding [x, x] (richCompare .Lt x best >>= _)) _ >>= _) _ _ _
    refine wpAny_bind (wpAny_tryCatch (wpAny_holding (wpAny_bind (cmp (j + 1) (argBest bt j) x best _ _ _ hK' hx hP ?_))))
    refine wpAny_bind (wpAny_holding (wpAny_truthy_bool ?_))
    refine wpAny_bind (wpAny_letGo (wpAny_pure ?_))
    cases less : bt (j + 1) (argBest bt j) with
    | true =>
      simp only [if_true]
      refine wpAny_bind (wpAny_updateSeq hB' rfl (wpAny_bind (wpAny_letGo ?_)))
      rw [nm]
      refine wpAny_pure ⟨plainId_quiet F.plain_min_loop _, ih (j + 1) _ x _ (by omega) more (V.frame _ _ _ hst' fun b hb o e => ?_) (kp _ _ hK' fun b o b1 b2 e => ?_) (by simp only [argBest, less, if_true]; exact hx) (Heap.get?_update_self _ hB' rfl) fun v h2 tk2 hv kept2 => ?_⟩
      · exact (Heap.get?_update_other _ _ (fun q : B = b => nB (by rw [q]; exact hb))).trans e
      · exact (Heap.get?_update_other _ _ (Ne.symm b2)).trans e
      · exact done v h2 tk2 hv fun b o b1 b2 e => kept2 b o b1 b2 ((Heap.get?_update_other _ _ (Ne.symm b2)).trans (kept b o b1 e))
    | false =>
      simp only [Bool.false_eq_true, if_false]
      refine wpAny_bind (wpAny_letGo ?_)
      rw [nm]
      refine wpAny_pure ⟨plainId_quiet F.plain_min_loop _, ih (j + 1) _ best c (by omega) more hst' hK' (by simp only [argBest, less, Bool.false_eq_true, if_false]; exact hP) hB' fun v h2 tk2 hv kept2 => ?_⟩
      exact done v h2 tk2 hv fun b o b1 b2 e => kept2 b o b1 b2 (kept b o b1 e)
theorem minFirstK (V : Walks prog w A.in1 J fp wr n P St) (cmp : CmpK prog w A.in1 .Lt Kp P bt) (B : Addr) (nB : B ∉ fp)
    (kp : ∀ h h', Kp h → (∀ b o, b ∉ wr → b ≠ B → h.get? b = some o → h'.get? b = some o) → Kp h') (pos : 0 < n) {z : Shared} {c : Nat} (hst : St 0 z.heap) (hK : Kp z.heap)
    (hB : z.heap.get? B = some ⟨.type "list", none, .seq #[] c, #[]⟩)
    (done : ∀ v h' tk, P (argBest bt (n - 1)) v → (∀ b o, b ∉ wr → b ≠ B → z.heap.get? b = some o → h'.get? b = some o) → R (.ok (.ret v)) { z with heap := h', toks := tk }) :
    codeAny (model prog w) A (.builtin "min.loop" ⟨[.ref J, .none, .ref B], []⟩) R z := by
  have nw : B ∉ wr := fun q => nB (V.sub _ q)
  have nm : (toString "min" ++ toString ".loop" : String) = "min.loop" := by decide
  refine codeAny_builtin F.entry_min_loop ?_
  rw [Around.under_plainId F.plain_min_loop _]
  show wpAny _ A.in1 (seqItems? (.ref B) >>= _) _ _ z
  refine wpAny_bind (wpAny_seqItems hB rfl ?_)
  show wpAny _ A.in1 (tryCatch (pyNext (.ref J)) _ >>= _) _ _ z
  refine wpAny_bind (wpAny_tryCatch (V.item 0 z _ _ pos hst fun x h' tk hx hst' kept => ?_))
  have hB' := kept B _ nw hB
  have hK' : Kp h' := kp _ _ hK fun b o b1 _ e => kept b o b1 e
  show wpAny _ A.in1 (updateSeq B (fun _ => #[x, x]) >>= _) _ _ _
  refine wpAny_bind (wpAny_updateSeq hB' rfl ?_)
  rw [nm]
  refine wpAny_pure ⟨plainId_quiet F.plain_min_loop _, minRestK V cmp B nB kp _ 0 _ x _ rfl pos (V.frame _ _ _ hst' fun b hb o e => ?_) (kp _ _ hK' fun b o b1 b2 e => ?_) hx (Heap.get?_update_self _ hB' rfl) fun v h2 tk2 hv kept2 => ?_⟩
  · exact (Heap.get?_update_other _ _ (fun q : B = b => nB (by rw [q]; exact hb))).trans e
  · exact (Heap.get?_update_other _ _ (Ne.symm b2)).trans e
  · exact done v h2 tk2 hv fun b o b1 b2 e => kept2 b o b1 b2 ((Heap.get?_update_other _ _ (Ne.symm b2)).trans (kept b o b1 e))
theorem callMinK {E : Value → Shared → Prop} {s : Shared} {x : Value} {Q : Value → Shared → Prop}
    (h : wpAny (model prog w) A.in1 (pyIter x) (fun it z => ∃ J fp wr n P St bt Kp, it = .ref J ∧ Walks prog w A.in1 J fp wr n P St ∧ St 0 z.heap ∧ Kp z.heap ∧ (∀ b ∈ fp, b < z.heap.objs.size) ∧ 0 < n ∧ CmpK prog w A.in1 .Lt Kp P bt ∧
      (∀ h h', Kp h → (∀ b o, b ∉ wr → b ≠ z.heap.objs.size → h.get? b = some o → h'.get? b = some o) → Kp h') ∧
      ∀ v h' tk, P (argBest bt (n - 1)) v → (∀ b o, b ∉ wr → z.heap.get? b = some o → h'.get? b = some o) → Q v { z with heap := h', toks := tk }) E s) :
    wpAny (model prog w) A (call (.builtin "min") [x]) Q E s := by
  have nm : (toString "min" ++ toString ".loop" : String) = "min.loop" := by decide
  refine call_function_tree F.kind_min F.plain_min F.entry_min (F.args_min1 _) ?_
  show wpAny _ A.in1 (Builtin.Builtins.bindParams "min" ["key", "default"] 0 ⟨[], []⟩ >>= _) _ _ s
  refine wpAny_bind (wpAny_of_eq (show Builtin.Builtins.bindParams "min" ["key", "default"] 0 ⟨[], []⟩ = pure [none, none] from rfl) (wpAny_bind (wpAny_pure ?_)))
  refine wpAny_bind (wpAny_mono h (fun it z hz => ?_) fun _ _ e => e)
  obtain ⟨J, fp, wr, n, P, St, bt, Kp, rfl, V, hst, hK, low, pos, cmp, kp, done⟩ := hz
  refine wpAny_bind (wpAny_newObj_type ?_)
  have nB : z.heap.objs.size ∉ fp := fun q => Nat.lt_irrefl _ (low _ q)
  rw [nm]
  refine wpAny_pure ⟨plainId_quiet F.plain_min_loop _, minFirstK V cmp z.heap.objs.size nB kp pos (V.frame _ _ _ hst fun b _ o e => Heap.get?_push_of_some _ e) (kp _ _ hK fun b o _ _ e => Heap.get?_push_of_some _ e) (Heap.get?_push_size _ rfl) fun v h' tk hv kept => ?_⟩
  exact done v h' tk hv fun b o b1 e => kept b o b1 (Nat.ne_of_lt (Heap.lt_size e)) (Heap.get?_push_of_some _ e)
/-- the greatest -/
theorem maxRestK (V : Walks prog w A.in1 J fp wr n P St) (cmp : CmpK prog w A.in1 .Gt Kp P bt) (B : Addr) (nB : B ∉ fp)
    (kp : ∀ h h', Kp h → (∀ b o, b ∉ wr → b ≠ B → h.get? b = some o → h'.get? b = some o) → Kp h') :
    ∀ (r j : Nat) (z : Shared) (best : Value) (c : Nat), n - (j + 1) = r → j + 1 ≤ n → St (j + 1) z.heap → Kp z.heap → P (argBest bt j) best →
    z.heap.get? B = some ⟨.type "list", none, .seq #[best, best] c, #[]⟩ →
    (∀ v h' tk, P (argBest bt (n - 1)) v → (∀ b o, b ∉ wr → b ≠ B → z.heap.get? b = some o → h'.get? b = some o) → R (.ok (.ret v)) { z with heap := h', toks := tk }) →
    codeAny (model prog w) A (.builtin "max.loop" ⟨[.ref J, .none, .ref B], []⟩) R z := by
  have nw : B ∉ wr := fun q => nB (V.sub _ q)
  have nm : (toString "max" ++ toString ".loop" : String) = "max.loop" := by decide
  intro r
  induction r with
  | zero =>
    intro j z best c hr hj hst hK hP hB done
    have at_end : j + 1 = n := by omega
    refine codeAny_builtin F.entry_max_loop ?_
    rw [Around.under_plainId F.plain_max_loop _]
    show wpAny _ A.in1 (seqItems? (.ref B) >>= _) _ _ z
    refine wpAny_bind (wpAny_seqItems hB rfl ?_)
    show wpAny _ A.in1 (tryCatch (pyNext (.ref J)) _ >>= _) _ _ z
    refine wpAny_bind (wpAny_tryCatch (V.done z _ _ (at_end ▸ hst) fun h' tk kept => ?_))
    have hB' := kept B _ nw hB
    show wpAny _ A.in1 (updateSeq B (fun _ => #[]) >>= _) _ _ _
    refine wpAny_bind (wpAny_updateSeq hB' rfl (wpAny_bind (wpAny_letGo (wpAny_pure ?_))))
    exact done best _ tk (by rw [← at_end]; exact hP) fun b o b1 b2 e => (Heap.get?_update_other _ _ (Ne.symm b2)).trans (kept b o b1 e)
  | succ r ih =>
    intro j z best c hr hj hst hK hP hB done
    have more : j + 1 < n := by omega
    refine codeAny_builtin F.entry_max_loop ?_
    rw [Around.under_plainId F.plain_max_loop _]
    show wpAny _ A.in1 (seqItems? (.ref B) >>= _) _ _ z
    refine wpAny_bind (wpAny_seqItems hB rfl ?_)
    show wpAny _ A.in1 (tryCatch (pyNext (.ref J)) _ >>= _) _ _ z
    refine wpAny_bind (wpAny_tryCatch (V.item (j + 1) z _ _ more hst fun x h' tk hx hst' kept => ?_))
    have hB' := kept B _ nw hB
    have hK' : Kp h' := kp _ _ hK fun b o b1 _ e => kept b o b1 e
    show wpAny _ A.in1 (tryCatch (holding [x, x] (richCompare .Gt x best >>= _)) _ >>= _) _ _ _
    refine wpAny_bind (wpAny_tryCatch (wpAny_holding (wpAny_bind (cmp (j + 1) (argBest bt j) x best _ _ _ hK' hx hP ?_))))
    refine wpAny_bind (wpAny_holding (wpAny_truthy_bool ?_))
    refine wpAny_bind (wpAny_letGo (wpAny_pure ?_))
    cases less : bt (j + 1) (argBest bt j) with
    | true =>
      simp only [if_true]
      refine wpAny_bind (wpAny_updateSeq hB' rfl (wpAny_bind (wpAny_letGo ?_)))
      rw [nm]
      refine wpAny_pure ⟨plainId_quiet F.plain_max_loop _, ih (j + 1) _ x _ (by omega) more (V.frame _ _ _ hst' fun b hb o e => ?_) (kp _ _ hK' fun b o b1 b2 e => ?_) (by simp only [argBest, less, if_true]; exact hx) (Heap.get?_update_self _ hB' rfl) fun v h2 tk2 hv kept2 => ?_⟩
      · exact (Heap.get?_update_other _ _ (fun q : B = b => nB (by rw [q]; exact hb))).trans e
      · exact (Heap.get?_update_other _ _ (Ne.symm b2)).trans e
      · exact done v h2 tk2 hv fun b o b1 b2 e => kept2 b o b1 b2 ((Heap.get?_update_other _ _ (Ne.symm b2)).trans (kept b o b1 e))
    | false =>
      simp only [Bool.false_eq_true, if_false]
      refine wpAny_bind (wpAny_letGo ?_)
      rw [nm]
      refine wpAny_pure ⟨plainId_quiet F.plain_max_loop _, ih (j + 1) _ best c (by omega) more hst' hK' (by simp only [argBest, less, Bool.false_eq_true, if_false]; exact hP) hB' fun v h2 tk2 hv kept2 => ?_⟩
      exact done v h2 tk2 hv fun b o b1 b2 e => kept2 b o b1 b2 (kept b o b1 e)
theorem maxFirstK (V : Walks prog w A.in1 J fp wr n P St) (cmp : CmpK prog w A.in1 .Gt Kp P bt) (B : Addr) (nB : B ∉ fp)
    (kp : ∀ h h', Kp h → (∀ b o, b ∉ wr → b ≠ B → h.get? b = some o → h'.get? b = some o) → Kp h') (pos : 0 < n) {z : Shared} {c : Nat} (hst : St 0 z.heap) (hK : Kp z.heap)
    (hB : z.heap.get? B = some ⟨.type "list", none, .seq #[] c, #[]⟩)
    (done : ∀ v h' tk, P (argBest bt (n - 1)) v → (∀ b o, b ∉ wr → b ≠ B → z.heap.get? b = some o → h'.get? b = some o) → R (.ok (.ret v)) { z with heap := h', toks := tk }) :
    codeAny (model prog w) A (.builtin "max.loop" ⟨[.ref J, .none, .ref B], []⟩) R z := by
  have nw : B ∉ wr := fun q => nB (V.sub _ q)
  have nm : (toString "max" ++ toString ".loop" : String) = "max.loop" := by decide
  refine codeAny_builtin F.entry_max_loop ?_
  rw [Around.under_plainId F.plain_max_loop _]
  show wpAny _ A.in1 (seqItems? (.ref B) >>= _) _ _ z
  refine wpAny_bind (wpAny_seqItems hB rfl ?_)
  show wpAny _ A.in1 (tryCatch (pyNext (.ref J)) _ >>= _) _ _ z
  refine wpAny_bind (wpAny_tryCatch (V.item 0 z _ _ pos hst fun x h' tk hx hst' kept => ?_))
  have hB' := kept B _ nw hB
  have hK' : Kp h' := kp _ _ hK fun b o b1 _ e => kept b o b1 e
  show wpAny _ A.in1 (updateSeq B (fun _ => #[x, x]) >>= _) _ _ _
  refine wpAny_bind (wpAny_updateSeq hB' rfl ?_)
  rw [nm]
  refine wpAny_pure ⟨plainId_quiet F.plain_max_loop _, maxRestK V cmp B nB kp _ 0 _ x _ rfl pos (V.frame _ _ _ hst' fun b hb o e => ?_) (kp _ _ hK' fun b o b1 b2 e => ?_) hx (Heap.get?_update_self _ hB' rfl) fun v h2 tk2 hv kept2 => ?_⟩
  · exact (Heap.get?_update_other _ _ (fun q : B = b => nB (by rw [q]; exact hb))).trans e
  · exact (Heap.get?_update_other _ _ (Ne.symm b2)).trans e
  · exact done v h2 tk2 hv fun b o b1 b2 e => kept2 b o b1 b2 ((Heap.get?_update_other _ _ (Ne.symm b2)).trans (kept b o b1 e))
theorem callMaxK {E : Value → Shared → Prop} {s : Shared} {x : Value} {Q : Value → Shared → Prop}
    (h : wpAny (model prog w) A.in1 (pyIter x) (fun it z => ∃ J fp wr n P St bt Kp, it = .ref J ∧ Walks prog w A.in1 J fp wr n P St ∧ St 0 z.heap ∧ Kp z.heap ∧ (∀ b ∈ fp, b < z.heap.objs.size) ∧ 0 < n ∧ CmpK prog w A.in1 .Gt Kp P bt ∧
      (∀ h h', Kp h → (∀ b o, b ∉ wr → b ≠ z.heap.objs.size → h.get? b = some o → h'.get? b = some o) → Kp h') ∧
      ∀ v h' tk, P (argBest bt (n - 1)) v → (∀ b o, b ∉ wr → z.heap.get? b = some o → h'.get? b = some o) → Q v { z with heap := h', toks := tk }) E s) :
    wpAny (model prog w) A (call (.builtin "max") [x]) Q E s := by
  have nm : (toString "max" ++ toString ".loop" : String) = "max.loop" := by decide
  refine call_function_tree F.kind_max F.plain_max F.entry_max (F.args_max1 _) ?_
  show wpAny _ A.in1 (Builtin.Builtins.bindParams "max" ["key", "default"] 0 ⟨[], []⟩ >>= _) _ _ s
  refine wpAny_bind (wpAny_of_eq (show Builtin.Builtins.bindParams "max" ["key", "default"] 0 ⟨[], []⟩ = pure [none, none] from rfl) (wpAny_bind (wpAny_pure ?_)))
  refine wpAny_bind (wpAny_mono h (fun it z hz => ?_) fun _ _ e => e)
  obtain ⟨J, fp, wr, n, P, St, bt, Kp, rfl, V, hst, hK, low, pos, cmp, kp, done⟩ := hz
  refine wpAny_bind (wpAny_newObj_type ?_)
  have nB : z.heap.objs.size ∉ fp := fun q => Nat.lt_irrefl _ (low _ q)
  rw [nm]
  refine wpAny_pure ⟨plainId_quiet F.plain_max_loop _, maxFirstK V cmp z.heap.objs.size nB kp pos (V.frame _ _ _ hst fun b _ o e => Heap.get?_push_of_some _ e) (kp _ _ hK fun b o _ _ e => Heap.get?_push_of_some _ e) (Heap.get?_push_size _ rfl) fun v h' tk hv kept => ?_⟩
  exact done v h' tk hv fun b o b1 e => kept b o b1 (Nat.ne_of_lt (Heap.lt_size e)) (Heap.get?_push_of_some _ e)
end

def lexLtI : List Int → List Int → Bool
  | _, [] => false
  | [], _ :: _ => true
  | x :: xs, y :: ys => if x = y then lexLtI xs ys else decide (x < y)
theorem lexAt_sh {e r e' r' : Nat → Bool} {z : Bool} (he : ∀ i, e' i = e (i + 1)) (hr : ∀ i, r' i = r (i + 1)) : ∀ (k i : Nat), Ob.lexAt e r z (i + 1) k = Ob.lexAt e' r' z i k
  | 0, i => rfl
  | k + 1, i => by rw [Ob.lexAt_succ, Ob.lexAt_succ, ← he, ← hr, lexAt_sh he hr k (i + 1)]
theorem lexAt_lt : ∀ (ns ms : List Int), Ob.lexAt (fun j => decide (ns.getD j 0 = ms.getD j 0)) (fun j => decide (ns.getD j 0 < ms.getD j 0)) (decide (ns.length < ms.length)) 0 (min ns.length ms.length) = lexLtI ns ms
  | [], [] => rfl
  | [], y :: ms => by simp [lexLtI, Ob.lexAt]
  | x :: ns, [] => by simp [lexLtI, Ob.lexAt]
  | x :: ns, y :: ms => by
    have h := lexAt_lt ns ms
    have e : min (x :: ns).length (y :: ms).length = min ns.length ms.length + 1 := by simp
    rw [e, Ob.lexAt_succ, lexAt_sh (e' := fun j => decide (ns.getD j 0 = ms.getD j 0)) (r' := fun j => decide (ns.getD j 0 < ms.getD j 0)) (fun _ => by simp) (fun _ => by simp)]
    have e2 : decide ((x :: ns).length < (y :: ms).length) = decide (ns.length < ms.length) := by simp
    rw [e2, h]
    simp [lexLtI]
section
variable {prog : Program} {w : World} {A : Around} {E : Value → Shared → Prop} {s : Shared}
theorem tupLt {z : Shared} {a b : Addr} {is js : List Value} {ns ms : List Int} (h1 : z.heap.IsTuple a is.toArray) (h2 : z.heap.IsTuple b js.toArray) (i1 : IntsAre is ns) (i2 : IntsAre js ms) (hu : A.units < cLine) : Ob.RcOp .Lt A z (.ref a) (.ref b) (lexLtI ns ms) := by
  have e1 : is.toArray.size = ns.length := by rw [List.size_toArray]; exact i1.length
  have e2 : js.toArray.size = ms.length := by rw [List.size_toArray]; exact i2.length
  have g1 : ∀ j (q : j < is.toArray.size), ∃ t, is.toArray[j] = .int (ns.getD j 0) t := fun j q => PyProof.Rows.IntsAre.int_at i1 _ _ (by simp at q; simp [q])
  have g2 : ∀ j (q : j < js.toArray.size), ∃ t, js.toArray[j] = .int (ms.getD j 0) t := fun j q => PyProof.Rows.IntsAre.int_at i2 _ _ (by simp at q; simp [q])
  have r := Ob.RcOp.tuples_lt (A := A) (s := z) (e := fun j => decide (ns.getD j 0 = ms.getD j 0)) (r := fun j => decide (ns.getD j 0 < ms.getD j 0)) h1 h2 hu
    (fun j q1 q2 => by
      obtain ⟨t, et⟩ := g1 j q1; obtain ⟨t', et'⟩ := g2 j q2
      rw [et, et', show decide (ns.getD j 0 = ms.getD j 0) = (ns.getD j 0 == ms.getD j 0) from (by
        by_cases q : ns.getD j 0 = ms.getD j 0
        · rw [decide_eq_true q]; exact (beq_iff_eq.mpr q).symm
        · rw [decide_eq_false q]; exact (beq_eq_false_iff_ne.mpr q).symm)]
      exact SeqAt.EqAt.int_int _ _ _ _)
    (fun j q1 q2 _ => by
      obtain ⟨t, et⟩ := g1 j q1; obtain ⟨t', et'⟩ := g2 j q2
      rw [et, et']
      exact Ob.RcOp.lt_int _ _ _ _)
  rw [e1, e2, lexAt_lt] at r
  exact r
theorem lexAt_gt (ns ms : List Int) : Ob.lexAt (fun j => decide (ns.getD j 0 = ms.getD j 0)) (fun j => decide (ms.getD j 0 < ns.getD j 0)) (decide (ms.length < ns.length)) 0 (min ns.length ms.length) = lexLtI ms ns := by
  rw [← lexAt_lt ms ns, Nat.min_comm]
  have : (fun j => decide (ns.getD j 0 = ms.getD j 0)) = fun j => decide (ms.getD j 0 = ns.getD j 0) := by
    funext j
    by_cases q : ns.getD j 0 = ms.getD j 0
    · rw [decide_eq_true q, decide_eq_true q.symm]
    · rw [decide_eq_false q, decide_eq_false (fun z => q z.symm)]
  rw [this]
theorem tupGt {z : Shared} {a b : Addr} {is js : List Value} {ns ms : List Int} (h1 : z.heap.IsTuple a is.toArray) (h2 : z.heap.IsTuple b js.toArray) (i1 : IntsAre is ns) (i2 : IntsAre js ms) (hu : A.units < cLine) : Ob.RcOp .Gt A z (.ref a) (.ref b) (lexLtI ms ns) := by
  have e1 : is.toArray.size = ns.length := by rw [List.size_toArray]; exact i1.length
  have e2 : js.toArray.size = ms.length := by rw [List.size_toArray]; exact i2.length
  have g1 : ∀ j (q : j < is.toArray.size), ∃ t, is.toArray[j] = .int (ns.getD j 0) t := fun j q => PyProof.Rows.IntsAre.int_at i1 _ _ (by simp at q; simp [q])
  have g2 : ∀ j (q : j < js.toArray.size), ∃ t, js.toArray[j] = .int (ms.getD j 0) t := fun j q => PyProof.Rows.IntsAre.int_at i2 _ _ (by simp at q; simp [q])
  have r := Ob.RcOp.tuples_gt (A := A) (s := z) (e := fun j => decide (ns.getD j 0 = ms.getD j 0)) (r := fun j => decide (ms.getD j 0 < ns.getD j 0)) h1 h2 hu
    (fun j q1 q2 => by
      obtain ⟨t, et⟩ := g1 j q1; obtain ⟨t', et'⟩ := g2 j q2
      rw [et, et', show decide (ns.getD j 0 = ms.getD j 0) = (ns.getD j 0 == ms.getD j 0) from (by
        by_cases q : ns.getD j 0 = ms.getD j 0
        · rw [decide_eq_true q]; exact (beq_iff_eq.mpr q).symm
        · rw [decide_eq_false q]; exact (beq_eq_false_iff_ne.mpr q).symm)]
      exact SeqAt.EqAt.int_int _ _ _ _)
    (fun j q1 q2 _ => by
      obtain ⟨t, et⟩ := g1 j q1; obtain ⟨t', et'⟩ := g2 j q2
      rw [et, et']
      exact Ob.RcOp.gt_int _ _ _ _)
  rw [e1, e2, lexAt_gt] at r
  exact r
/-- a list's items are tuples of numbers -/
def TupsAre (h : Heap) (vs : List Value) (nss : List (List Int)) : Prop := vs.length = nss.length ∧ ∀ (i : Nat) (v : Value), vs[i]? = some v → ∃ t is, v = .ref t ∧ h.IsTuple t is.toArray ∧ IntsAre is (nss.getD i [])
theorem min_rawT {l : Addr} {vs : List Value} {nss : List (List Int)} {Q : Value → Shared → Prop} (hh : A.handled = none) (hu : A.in1.units < cLine) (hl : s.heap.IsList l vs.toArray) (ht : TupsAre s.heap vs nss) (ne : 0 < vs.length)
    (h : ∀ v h' tk, vs[argBest (fun i j => lexLtI (nss.getD i []) (nss.getD j [])) (vs.length - 1)]? = some v → (∀ b o, s.heap.get? b = some o → h'.get? b = some o) → Q v { s with heap := h', toks := tk }) :
    wpAny (model prog w) A (call (.builtin "min") [.ref l]) Q E s := by
  have hlt : l < s.heap.objs.size := by obtain ⟨_, e, _⟩ := hl; exact Heap.lt_size e
  refine callMinK (wpAny_pyIter_list hl ?_)
  have nI : l ≠ s.heap.objs.size := Nat.ne_of_lt hlt
  refine ⟨s.heap.objs.size, _, _, _, _, _, fun i j => lexLtI (nss.getD i []) (nss.getD j []), fun h => ∀ b o, s.heap.get? b = some o → h.get? b = some o, rfl, Walks.list (A := A.in1) hh _ l nI vs.toArray, ⟨⟨_, Heap.get?_push_size _ rfl, rfl, rfl⟩, hl.push _⟩, fun b o e => Heap.get?_push_of_some _ e, fun b hb => ?_, by simpa using ne, ?_, ?_, ?_⟩
  · show b < (s.heap.push _).objs.size
    rw [Heap.size_push]
    simp at hb
    rcases hb with rfl | rfl
    · exact Nat.lt_succ_self _
    · exact Nat.lt_succ_of_lt hlt
  · intro i j x y z Q E hK hx hy q
    obtain ⟨t1, is1, rfl, p1, i1⟩ := ht.2 i x (by simpa using hx)
    obtain ⟨t2, is2, rfl, p2, i2⟩ := ht.2 j y (by simpa using hy)
    obtain ⟨o1, e1, r1⟩ := p1
    obtain ⟨o2, e2, r2⟩ := p2
    exact tupLt ⟨o1, hK _ _ e1, r1⟩ ⟨o2, hK _ _ e2, r2⟩ i1 i2 hu prog w E Q q
  · intro h h' k1 k2 b o e
    have e0 := Heap.lt_size e
    refine k2 b o (fun q => ?_) ?_ (k1 b o e)
    · have q : b = s.heap.objs.size := by simpa using q
      exact absurd (q ▸ e0) (Nat.lt_irrefl _)
    · show b ≠ (s.heap.push _).objs.size
      rw [Heap.size_push]; exact Nat.ne_of_lt (Nat.lt_succ_of_lt e0)
  · intro v h' tk hv kept
    refine h v h' tk (by simpa using hv) fun b o e => kept b o (fun q => ?_) (Heap.get?_push_of_some _ e)
    have q : b = s.heap.objs.size := by simpa using q
    exact absurd (q ▸ Heap.lt_size e) (Nat.lt_irrefl _)
theorem max_rawT {l : Addr} {vs : List Value} {nss : List (List Int)} {Q : Value → Shared → Prop} (hh : A.handled = none) (hu : A.in1.units < cLine) (hl : s.heap.IsList l vs.toArray) (ht : TupsAre s.heap vs nss) (ne : 0 < vs.length)
    (h : ∀ v h' tk, vs[argBest (fun i j => lexLtI (nss.getD j []) (nss.getD i [])) (vs.length - 1)]? = some v → (∀ b o, s.heap.get? b = some o → h'.get? b = some o) → Q v { s with heap := h', toks := tk }) :
    wpAny (model prog w) A (call (.builtin "max") [.ref l]) Q E s := by
  have hlt : l < s.heap.objs.size := by obtain ⟨_, e, _⟩ := hl; exact Heap.lt_size e
  refine callMaxK (wpAny_pyIter_list hl ?_)
  have nI : l ≠ s.heap.objs.size := Nat.ne_of_lt hlt
  refine ⟨s.heap.objs.size, _, _, _, _, _, fun i j => lexLtI (nss.getD j []) (nss.getD i []), fun h => ∀ b o, s.heap.get? b = some o → h.get? b = some o, rfl, Walks.list (A := A.in1) hh _ l nI vs.toArray, ⟨⟨_, Heap.get?_push_size _ rfl, rfl, rfl⟩, hl.push _⟩, fun b o e => Heap.get?_push_of_some _ e, fun b hb => ?_, by simpa using ne, ?_, ?_, ?_⟩
  · show b < (s.heap.push _).objs.size
    rw [Heap.size_push]
    simp at hb
    rcases hb with rfl | rfl
    · exact Nat.lt_succ_self _
    · exact Nat.lt_succ_of_lt hlt
  · intro i j x y z Q E hK hx hy q
    obtain ⟨t1, is1, rfl, p1, i1⟩ := ht.2 i x (by simpa using hx)
    obtain ⟨t2, is2, rfl, p2, i2⟩ := ht.2 j y (by simpa using hy)
    obtain ⟨o1, e1, r1⟩ := p1
    obtain ⟨o2, e2, r2⟩ := p2
    exact tupGt ⟨o1, hK _ _ e1, r1⟩ ⟨o2, hK _ _ e2, r2⟩ i1 i2 hu prog w E Q q
  · intro h h' k1 k2 b o e
    have e0 := Heap.lt_size e
    refine k2 b o (fun q => ?_) ?_ (k1 b o e)
    · have q : b = s.heap.objs.size := by simpa using q
      exact absurd (q ▸ e0) (Nat.lt_irrefl _)
    · show b ≠ (s.heap.push _).objs.size
      rw [Heap.size_push]; exact Nat.ne_of_lt (Nat.lt_succ_of_lt e0)
  · intro v h' tk hv kept
    refine h v h' tk (by simpa using hv) fun b o e => kept b o (fun q => ?_) (Heap.get?_push_of_some _ e)
    have q : b = s.heap.objs.size := by simpa using q
    exact absurd (q ▸ Heap.lt_size e) (Nat.lt_irrefl _)
end

/-! ### by values -/
theorem Vals.get2 : ∀ {xs : List V} {us : List Value} {i : Nat} {u : Value}, Vals xs us → us[i]? = some u → ∃ x, xs[i]? = some x ∧ RelV x u := fun {xs us i u} r e => by
  have hl := r.length
  have hi : i < xs.length := by rw [hl]; exact (List.getElem?_eq_some_iff.mp e).1
  obtain ⟨v, e2, rv⟩ := r.get (List.getElem?_eq_getElem hi)
  rw [e] at e2; cases e2
  exact ⟨_, List.getElem?_eq_getElem hi, rv⟩
def TupsV (K : PySem.W.Frag) (H : Hp) (xs : List V) (nss : List (List Int)) : Prop := xs.length = nss.length ∧ ∀ (i : Nat) (x : V), xs[i]? = some x → ∃ t, x = .ref t ∧ SqT K H t ((nss.getD i []).map V.int)
def rMinT (K : PySem.W.Frag) : List V → Hp → VK → Prop := fun vs H Q => ∃ (a : Addr) (xs : List V) (nss : List (List Int)), vs = [V.ref a] ∧ SqL K H a xs ∧ 0 < xs.length ∧ TupsV K H xs nss ∧ ∀ x, xs[argBest (fun i j => lexLtI (nss.getD i []) (nss.getD j [])) (xs.length - 1)]? = some x → Q x H
def rMaxT (K : PySem.W.Frag) : List V → Hp → VK → Prop := fun vs H Q => ∃ (a : Addr) (xs : List V) (nss : List (List Int)), vs = [V.ref a] ∧ SqL K H a xs ∧ 0 < xs.length ∧ TupsV K H xs nss ∧ ∀ x, xs[argBest (fun i j => lexLtI (nss.getD j []) (nss.getD i [])) (xs.length - 1)]? = some x → Q x H
section
variable {X : Cx} {cn : String → Addr} {W : WX}
theorem tupsAre_of {pins : List (Addr × Obj)} {σ : L2.St} {H : Hp} {s : Shared} {xs : List V} {us : List Value} {nss : List (List Int)} (I : Inv X pins σ H s) (r : Vals xs us) (t : TupsV X.K H xs nss) : TupsAre s.heap us nss := by
  refine ⟨by rw [← r.length]; exact t.1, fun i v e => ?_⟩
  obtain ⟨x, ex, rx⟩ := Vals.get2 r e
  obtain ⟨a, rfl, ha⟩ := t.2 i x ex
  cases rx
  obtain ⟨is, r1, p1, _⟩ := I.tuple ha
  exact ⟨a, is, rfl, p1, Vals.ints r1⟩
theorem cr_minT (hc : X.calm = true) (hu : X.A.units + 64 < cLine) : CallR X (.builtin "min") (rMinT X.K) := by
  intro pins s σ H vs us Q I r h
  obtain ⟨a, xs, nss, rfl, hs, hne, ht, q⟩ := h
  obtain ⟨its, rv, hl, _⟩ := I.list hs
  rw [Vals.ref1 r]
  refine min_rawT (I.ok.hd hc) (by show X.A.units + 1 < cLine; omega) hl.isList (tupsAre_of I rv ht) (by rw [← rv.length]; exact hne) fun v h' tk hv hk => ?_
  rw [← rv.length] at hv
  obtain ⟨x, ex, rx⟩ := Vals.get2 rv hv
  exact ⟨x, H, I.kept hk, rx, q x ex⟩
theorem cr_maxT (hc : X.calm = true) (hu : X.A.units + 64 < cLine) : CallR X (.builtin "max") (rMaxT X.K) := by
  intro pins s σ H vs us Q I r h
  obtain ⟨a, xs, nss, rfl, hs, hne, ht, q⟩ := h
  obtain ⟨its, rv, hl, _⟩ := I.list hs
  rw [Vals.ref1 r]
  refine max_rawT (I.ok.hd hc) (by show X.A.units + 1 < cLine; omega) hl.isList (tupsAre_of I rv ht) (by rw [← rv.length]; exact hne) fun v h' tk hv hk => ?_
  rw [← rv.length] at hv
  obtain ⟨x, ex, rx⟩ := Vals.get2 rv hv
  exact ⟨x, H, I.kept hk, rx, q x ex⟩
def tupI : Val → Option (List Int)
  | .tup l => intsOf l
  | _ => none
def tupsOf : List Val → Option (List (List Int))
  | [] => some []
  | v :: l => (tupI v).bind fun a => (tupsOf l).map (a :: ·)
theorem tupsOf_rv {C : Cn} {p : Pt} : ∀ {l : List Val} {nss : List (List Int)} {vs : List V}, tupsOf l = some nss → RVs C p l vs → TupsV C.K p.H vs nss
  | [], nss, vs, e, r => by cases e; rw [r.nil_inv]; exact ⟨rfl, fun i x z => by simp at z⟩
  | v :: l, nss, vs, e, r => by
    simp only [tupsOf, Option.bind_eq_some_iff, Option.map_eq_some_iff] at e
    obtain ⟨a, e1, ms, e2, rfl⟩ := e
    obtain ⟨x, t, rfl, h1, h2⟩ := r.cons_inv
    obtain ⟨k1, k2⟩ := tupsOf_rv e2 h2
    refine ⟨by simp [k1], fun i y hy => ?_⟩
    cases i with
    | zero =>
      simp at hy
      subst hy
      cases v with
      | tup m =>
        unfold RV at h1
        obtain ⟨b, ws, rfl, q1, q2⟩ := h1
        rw [intsOf_rv e1 q2] at q1
        exact ⟨b, rfl, by simpa using q1.sq⟩
      | _ => cases e1
    | succ i => simpa using k2 i y (by simpa using hy)
theorem tupsOf_len : ∀ {l : List Val} {nss : List (List Int)}, tupsOf l = some nss → nss.length = l.length
  | [], nss, e => by cases e; rfl
  | v :: l, nss, e => by
    simp only [tupsOf, Option.bind_eq_some_iff, Option.map_eq_some_iff] at e
    obtain ⟨a, e1, ms, e2, rfl⟩ := e
    simp [tupsOf_len e2]
def minT (nss : List (List Int)) (l : List Val) : Option Val := if l = [] then none else l[argBest (fun i j => lexLtI (nss.getD i []) (nss.getD j [])) (l.length - 1)]?
def maxT (nss : List (List Int)) (l : List Val) : Option Val := if l = [] then none else l[argBest (fun i j => lexLtI (nss.getD j []) (nss.getD i [])) (l.length - 1)]?
def lstOf (h : MH) (v : Val) : Option (List Val) := match deref h v with
  | .lst l => some l
  | _ => none
def min1T (h : MH) (v : Val) : Option Val := (lstOf h v).bind fun l => (tupsOf l).bind fun nss => minT nss l
def max1T (h : MH) (v : Val) : Option Val := (lstOf h v).bind fun l => (tupsOf l).bind fun nss => maxT nss l
def b_min1T (hc : X.calm = true) (hu : X.A.units + 64 < cLine) : CallB X cn W (.builtin "min") (fn1 min1T) := ⟨_, cr_minT hc hu, entC_1 fun E q σm mh σ v w x Q R rv e k => by
  unfold min1T lstOf at e
  cases d : deref mh v with
  | lst l =>
    rw [d] at e
    simp only [Option.bind_eq_some_iff, Option.bind_some] at e
    obtain ⟨nss, e1, e2⟩ := e
    obtain ⟨a, vs, rfl, h1, _, h2⟩ := rv.list R d
    have hl := h2.length
    unfold minT at e2
    by_cases z : l = []
    · rw [if_pos z] at e2; cases e2
    · rw [if_neg z] at e2
      refine ⟨a, vs, nss, rfl, h1, by rw [hl]; exact List.length_pos_iff.mpr z, tupsOf_rv e1 h2, fun y hy => ?_⟩
      rw [hl] at hy
      obtain ⟨y', g1, g2⟩ := h2.get e2
      rw [hy] at g1; cases g1
      exact post_fin k R g2
  | _ => rw [d] at e; cases e⟩
def b_max1T (hc : X.calm = true) (hu : X.A.units + 64 < cLine) : CallB X cn W (.builtin "max") (fn1 max1T) := ⟨_, cr_maxT hc hu, entC_1 fun E q σm mh σ v w x Q R rv e k => by
  unfold max1T lstOf at e
  cases d : deref mh v with
  | lst l =>
    rw [d] at e
    simp only [Option.bind_eq_some_iff, Option.bind_some] at e
    obtain ⟨nss, e1, e2⟩ := e
    obtain ⟨a, vs, rfl, h1, _, h2⟩ := rv.list R d
    have hl := h2.length
    unfold maxT at e2
    by_cases z : l = []
    · rw [if_pos z] at e2; cases e2
    · rw [if_neg z] at e2
      refine ⟨a, vs, nss, rfl, h1, by rw [hl]; exact List.length_pos_iff.mpr z, tupsOf_rv e1 h2, fun y hy => ?_⟩
      rw [hl] at hy
      obtain ⟨y', g1, g2⟩ := h2.get e2
      rw [hy] at g1; cases g1
      exact post_fin k R g2
  | _ => rw [d] at e; cases e⟩
end

/-! ### the least, the greatest -/
theorem lexLtI_irrefl : ∀ l : List Int, lexLtI l l = false
  | [] => rfl
  | x :: l => by simp [lexLtI, lexLtI_irrefl l]
theorem lexLtI_trans : ∀ {a b c : List Int}, lexLtI a b = true → lexLtI b c = true → lexLtI a c = true
  | a, [], c, h1, h2 => by cases a <;> cases h1
  | a, y :: b, [], h1, h2 => by cases h2
  | [], y :: b, z :: c, h1, h2 => rfl
  | x :: a, y :: b, z :: c, h1, h2 => by
    unfold lexLtI at h1 h2 ⊢
    by_cases e1 : x = y
    · rw [if_pos e1] at h1
      by_cases e2 : y = z
      · rw [if_pos e2] at h2
        rw [if_pos (e1.trans e2)]
        exact lexLtI_trans h1 h2
      · rw [if_neg e2] at h2
        rw [if_neg (by omega)]
        have := of_decide_eq_true h2
        exact decide_eq_true (by omega)
    · rw [if_neg e1] at h1
      have g1 := of_decide_eq_true h1
      by_cases e2 : y = z
      · rw [if_pos e2] at h2
        rw [if_neg (by omega)]
        exact decide_eq_true (by omega)
      · rw [if_neg e2] at h2
        have g2 := of_decide_eq_true h2
        rw [if_neg (by omega)]
        exact decide_eq_true (by omega)
theorem argBest_ok {bt : Nat → Nat → Bool} (ir : ∀ i, bt i i = false) (tr : ∀ i j k, bt i j = true → bt j k = true → bt i k = true) : ∀ n, argBest bt n ≤ n ∧ ∀ j, j ≤ n → bt j (argBest bt n) = false
  | 0 => ⟨Nat.le_refl _, fun j hj => by
    have : j = 0 := by omega
    subst this; exact ir _⟩
  | n + 1 => by
    obtain ⟨h1, h2⟩ := argBest_ok ir tr n
    unfold argBest
    cases z : bt (n + 1) (argBest bt n) with
    | true =>
      simp only [if_true]
      refine ⟨Nat.le_refl _, fun j hj => ?_⟩
      by_cases e : j = n + 1
      · rw [e]; exact ir _
      · cases y : bt j (n + 1) with
        | false => rfl
        | true => have := tr _ _ _ y z; rw [h2 j (by omega)] at this; cases this
    | false =>
      simp only [Bool.false_eq_true, if_false]
      refine ⟨by omega, fun j hj => ?_⟩
      by_cases e : j = n + 1
      · rw [e]; exact z
      · exact h2 j (by omega)
/-- the least of some tuples is one of them, and none is less -/
theorem minT_ok {nss : List (List Int)} {l : List Val} (hl : nss.length = l.length) (ne : l ≠ []) : ∃ k, k < l.length ∧ minT nss l = l[k]? ∧ ∀ j, j < l.length → lexLtI (nss.getD j []) (nss.getD k []) = false := by
  have h := argBest_ok (bt := fun i j => lexLtI (nss.getD i []) (nss.getD j [])) (fun i => lexLtI_irrefl _) (fun i j k => lexLtI_trans) (l.length - 1)
  have pos := List.length_pos_iff.mpr ne
  refine ⟨argBest (fun i j => lexLtI (nss.getD i []) (nss.getD j [])) (l.length - 1), by have := h.1; omega, by unfold minT; rw [if_neg ne], fun j hj => h.2 j (by omega)⟩
theorem maxT_ok {nss : List (List Int)} {l : List Val} (hl : nss.length = l.length) (ne : l ≠ []) : ∃ k, k < l.length ∧ maxT nss l = l[k]? ∧ ∀ j, j < l.length → lexLtI (nss.getD k []) (nss.getD j []) = false := by
  have h := argBest_ok (bt := fun i j => lexLtI (nss.getD j []) (nss.getD i [])) (fun i => lexLtI_irrefl _) (fun i j k a b => lexLtI_trans b a) (l.length - 1)
  have pos := List.length_pos_iff.mpr ne
  refine ⟨argBest (fun i j => lexLtI (nss.getD j []) (nss.getD i [])) (l.length - 1), by have := h.1; omega, by unfold maxT; rw [if_neg ne], fun j hj => h.2 j (by omega)⟩
@[simp] theorem lstOf_lst {h : MH} {l : List Val} : lstOf h (.lst l) = some l := rfl
theorem tupsOf_map {α : Type} (f : α → List Int) : ∀ l : List α, tupsOf (l.map fun x => .tup ((f x).map .int)) = some (l.map f)
  | [] => rfl
  | x :: l => by simp [tupsOf, tupI, intsOf_map, tupsOf_map f l]
end Mi
/-! Mi24: for over a list by its number, as it stands at each turn. -/
namespace Mi
open PySem L2 PyProof.Rows
def forR (g : MG) (b : MS) (n : Nat) : Nat → Nat → MS
  | 0, _ => fun _ _ => .bad
  | F + 1, i => fun σ h => match h[n]? with
    | some (.lst l) => (match l[i]? with
      | none => .next σ h
      | some v => match plainG (g v σ h) with
        | .next σ1 h1 => (match b σ1 h1 with
          | .next σ2 h2 => forR g b n F (i + 1) σ2 h2
          | .cont σ2 h2 => forR g b n F (i + 1) σ2 h2
          | .brk σ2 h2 => .next σ2 h2
          | r => r)
        | r => r)
    | _ => .bad
def sForR (mi : ME Val) (g : MG) (b : MS) : MS := fun σ h => ofE (mi σ h) σ fun v h1 => match v with
  | .ref n => forR g b n FUEL 0 σ h1
  | _ => .bad
section
variable {X : Cx} {cn : String → Addr} {W : WX} {tg iter : Expr} {body : List Stmt} {pos : Pos}
theorem s_forR {mi : ME Val} {g : MG} {mb : MS} (hp : PassesOwn (model X.prog X.w) X.A X.env X.xe) (hc : X.calm = true) (hi : EM X cn W iter mi) (hg : GM X cn W tg g) (hb : BM X cn W body mb) (hs : ∀ x, foldedSetIterable iter X.env x = pure x := by intro _; rfl) :
    SM X cn W (.For tg iter body [] pos) (sForR mi g mb) := PS.wk (ps_for hp hc (pi_list hi) hg hb hs) fun D σ H ⟨E, p, σm, mh, e1, R, k⟩ => by
  refine ⟨E, p, σm, mh, e1, R, ?_⟩
  unfold sForR at k
  cases r : mi σm mh with
  | exc c f h => rw [r] at k; exact fun q cls d R1 x1 rx => k q σ cls d R1 x1 rx
  | bad => rw [r] at k; exact k
  | ok v h =>
    rw [r] at k
    cases v with
    | ref n =>
      simp only [ofE] at k
      intro q x R1 x1 rv
      have rv' : RV ⟨X.K, cn⟩ q (.ref n) x := rv
      have first : ∃ l, h[n]? = some (.lst l) := by
        unfold FUEL at k
        unfold forR at k
        cases z : h[n]? with
        | none => rw [z] at k; exact k.elim
        | some o => cases o with
          | lst l => exact ⟨l, rfl⟩
          | _ => rw [z] at k; exact k.elim
      obtain ⟨l, hl⟩ := first
      obtain ⟨a, vs, rfl, h1, h2⟩ := ref_list R1 rv' hl
      refine ⟨a, rfl, ⟨vs, h1⟩, ?_⟩
      refine ⟨fun i m σ H => ∃ q' σm mh, q'.H = H ∧ Rel ⟨X.K, cn⟩ E q' σm mh σ ∧ Ext q q' ∧ postS ⟨X.K, cn⟩ W E q' D (forR g mb n m i σm mh), ⟨FUEL, q, σm, h, rfl, R1, Ext.refl q, postS.ext x1 k⟩, ?_⟩
      rintro i m σ H ⟨q', σm, mh, rfl, R', x', k'⟩
      cases m with
      | zero => exact k'.elim
      | succ F =>
        unfold forR at k'
        cases z : mh[n]? with
        | none => rw [z] at k'; exact k'.elim
        | some o =>
          cases o with
          | lst l' =>
            rw [z] at k'
            obtain ⟨a', ws, e3, g1, g2⟩ := ref_list R' (RV.ext x' rv') z
            cases e3
            simp only at k'
            cases y : l'[i]? with
            | none =>
              rw [y] at k'
              refine .inl ⟨⟨ws, g1, by rw [g2.length]; exact List.getElem?_eq_none_iff.mp y⟩, ?_⟩
              exact k' q' σ R' (Ext.refl q')
            | some v =>
              rw [y] at k'
              simp only at k'
              obtain ⟨u, hu, ru⟩ := g2.get y
              refine .inr ⟨⟨ws, u, g1, hu⟩, fun σ' H' => ∃ q' σm mh, q'.H = H' ∧ Rel ⟨X.K, cn⟩ E q' σm mh σ' ∧ Ext q q' ∧ postS ⟨X.K, cn⟩ W E q' D (forR g mb n F (i + 1) σm mh), fun σ' H' ⟨q2, σm2, mh2, a1, a2, a3, a5⟩ => ⟨F, Nat.lt_succ_self _, q2, σm2, mh2, a1, a2, a3, a5⟩, fun x H' yl => ?_⟩
              obtain ⟨rfl, yl⟩ := yl
              have hx := yl ws g1
              rw [hu] at hx; cases hx
              refine ⟨E, q', σm, mh, v, rfl, R', ru, ?_⟩
              cases r1 : g v σm mh with
              | next σ1 h1 =>
                rw [r1] at k'
                simp only [plainG] at k'
                refine fun q3 σ3 R3 x3 => ⟨E, q3, σ1, h1, rfl, R3, ?_⟩
                have k3 := postS.ext x3 k'
                cases r2 : mb σ1 h1 with
                | next σ2 h2 => rw [r2] at k3; exact fun q4 σ4 R4 x4 => ⟨q4, σ2, h2, rfl, R4, x'.trans (x3.trans x4), postS.ext x4 k3⟩
                | cont σ2 h2 => rw [r2] at k3; exact fun q4 σ4 R4 x4 => ⟨q4, σ2, h2, rfl, R4, x'.trans (x3.trans x4), postS.ext x4 k3⟩
                | brk σ2 h2 => rw [r2] at k3; exact k3
                | ret v h2 => rw [r2] at k3; exact k3
                | exc c f σ2 h2 => rw [r2] at k3; exact k3
                | bad => rw [r2] at k3; exact k3
              | exc c f σ1 h1 => rw [r1] at k'; exact k'
              | ret v h => rw [r1] at k'; exact k'.elim
              | brk σ h => rw [r1] at k'; exact k'.elim
              | cont σ h => rw [r1] at k'; exact k'.elim
              | bad => rw [r1] at k'; exact k'.elim
          | _ => rw [z] at k'; exact k'.elim
    | _ => exact k.elim
end
/-- a loop that leaves the list as it is -/
theorem forR_wp {g : MG} {b : MS} {n : Nat} (K : KS) (l : List Val) (I : Nat → Env → MH → Prop) (stay : ∀ i σ h, I i σ h → h[n]? = some (.lst l))
    (st : ∀ i v σ h, l[i]? = some v → I i σ h → @gW g v σ h ⟨fun σ h => @SRes.wp (b σ h) ⟨I (i + 1), K.rt, K.nx, I (i + 1), K.ex⟩, K.rt, K.bk, K.ct, K.ex⟩)
    (en : ∀ σ h, I l.length σ h → K.nx σ h) : ∀ (F i : Nat) (σ : Env) (h : MH), l.length < F + i → i ≤ l.length → I i σ h → (forR g b n F i σ h).wp
  | 0, i, σ, h, hF, hi, x => by omega
  | F + 1, i, σ, h, hF, hi, x => by
    unfold forR
    rw [stay i σ h x]
    simp only
    cases y : l[i]? with
    | none =>
      have : i = l.length := by have := List.getElem?_eq_none_iff.mp y; omega
      subst this
      exact en σ h x
    | some v =>
      have hi2 : i < l.length := (List.getElem?_eq_some_iff.mp y).1
      have w := st i v σ h y x
      unfold gW at w
      simp only
      cases r : plainG (g v σ h) with
      | next σ1 h1 =>
        rw [r] at w
        have w : @SRes.wp (b σ1 h1) ⟨I (i + 1), K.rt, K.nx, I (i + 1), K.ex⟩ := w
        simp only
        cases r2 : b σ1 h1 with
        | next σ2 h2 => rw [r2] at w; exact forR_wp K l I stay st en F (i + 1) σ2 h2 (by omega) (by omega) w
        | cont σ2 h2 => rw [r2] at w; exact forR_wp K l I stay st en F (i + 1) σ2 h2 (by omega) (by omega) w
        | brk σ2 h2 => rw [r2] at w; exact w
        | ret v h2 => rw [r2] at w; exact w
        | exc c f σ2 h2 => rw [r2] at w; exact w
        | bad => rw [r2] at w; exact w
      | ret v h => rw [r] at w; exact w
      | brk σ h => rw [r] at w; exact w
      | cont σ h => rw [r] at w; exact w
      | exc c f σ h => rw [r] at w; exact w
      | bad => rw [r] at w; exact w
@[simp ↓] theorem sw_ForR {σ : Env} {h : MH} [K : KS] {mi : ME Val} {g : MG} {b : MS} : (sForR mi g b σ h).wp = @Res.wp _ (mi σ h) ⟨fun v h1 => @Op _ (rfV v) ⟨fun n h1 => (forR g b n FUEL 0 σ h1).wp⟩ h1⟩ (K.x σ) := by
  unfold sForR; rw [swp_ofE]
  cases mi σ h with
  | ok v h1 => cases v <;> rfl
  | _ => rfl
/-- one step of a comprehension -/
theorem lc_step {t : Tg} {m : ME Val} {v y : Val} {l acc : List Val} {σ σ1 : Env} {h h1 h2 : MH} (e0 : tgM t v σ h = .next σ1 h1) (e1 : m σ1 h1 = .ok y h2) (ha : acc.length < 16777216) : lcL t mYes m (v :: l) acc σ h = lcL t mYes m l (acc ++ [y]) σ h2 := by
  have ys : ∀ (σ : Env) (h : MH), mYes σ h = .ok true h := fun _ _ => rfl
  conv => lhs; unfold lcL
  simp [e0, ys, e1, ha]
theorem dd_wf {h : MH} : ∀ (m : Nat) {n : Nat} {v : Val}, wfD n v = true → dd m h v = v
  | 0, n, v, _ => rfl
  | m + 1, n, v, w => by
    cases v with
    | lst l =>
      cases n with
      | zero => simp [wfD] at w
      | succ n =>
        simp only [wfD, List.all_eq_true] at w
        simp only [dd]
        congr 1
        exact (List.map_congr_left (fun x hx => dd_wf m (w x hx))).trans (List.map_id l)
    | tup l =>
      cases n with
      | zero => simp [wfD] at w
      | succ n =>
        simp only [wfD, List.all_eq_true] at w
        simp only [dd]
        congr 1
        exact (List.map_congr_left (fun x hx => dd_wf m (w x hx))).trans (List.map_id l)
    | ref k => cases n <;> simp [wfD] at w
    | exc c f => cases n <;> simp [wfD] at w
    | ktp l => cases n <;> simp [wfD] at w
    | _ => rfl
end Mi
/-! Mi25: sorted, of numbers, of pairs of numbers. -/
namespace Mi
open PySem PySem.Spec L2 PyProof PyProof.Rows
theorem f_callB {X : Cx} {cn : String → Addr} {W : WX} {e : Expr} {es : List Expr} {x : Str} {id : String} {p0 pos : Pos} {r : List V → Hp → VK → Prop} {mo : List Val → MH → Res (List Val)} {m : ME (List Val)} (hc : CallR X (.builtin id) r) (he : EntF X.K cn r mo) (ho : ∀ l h, match mo l h with | .ok _ h' => h' = h | .exc _ _ _ => False | .bad => True) (hm : X.mg x = none) (hv : bootBuiltins x = some (.builtin id)) (ha : AT X cn W (e :: es) m)
    (hg : Gl X x := by rfl) (hn : x ≠ "__name__" := by decide) (hdb : (x == ("__debug__" : Str)) = false := by decide)
    (hs : starEach (e :: es) X.env = (false, eval e X.env) :: starEach es X.env := by rfl) (hpl : (backTo pos (starEach es X.env)).any (·.1) = false := by rfl) : EF X cn W (.Call (.Name x p0) (e :: es) [] pos) (mCall mo m) :=
  PE.wk (pe_callB hc hg hm hv ha hn hdb hs hpl) fun σ H Q h => tCB_ofF he ho h

def sortI (ns : List Int) : List Int := ns.mergeSort fun a b => decide (a ≤ b)
theorem sortI_perm (ns : List Int) : (sortI ns).Perm ns := List.mergeSort_perm _ _
theorem sortI_le (ns : List Int) : (sortI ns).Pairwise (· ≤ ·) := by
  have := List.pairwise_mergeSort (le := fun a b : Int => decide (a ≤ b)) (fun a b c h1 h2 => by simp at *; omega) (fun a b => by simp; omega) ns
  exact this.imp fun h => by simpa using h
theorem sortI_uniq {ns ms : List Int} (p : ms.Perm ns) (o : ms.Pairwise (· ≤ ·)) : ms = sortI ns :=
  List.Perm.eq_of_pairwise (le := (· ≤ ·)) (fun a b _ _ h1 h2 => Int.le_antisymm h1 h2) o (sortI_le ns) (p.trans (sortI_perm ns).symm)
def leP (p q : Int × Int) : Bool := !SrtO.lexB q p
theorem leP_iff {p q : Int × Int} : leP p q = true ↔ p.1 < q.1 ∨ (p.1 = q.1 ∧ p.2 ≤ q.2) := by
  unfold leP
  rw [Bool.not_eq_true', SrtO.lexB_no]
  omega
def sortP (ps : List (Int × Int)) : List (Int × Int) := ps.mergeSort leP
theorem sortP_perm (ps : List (Int × Int)) : (sortP ps).Perm ps := List.mergeSort_perm _ _
theorem sortP_le (ps : List (Int × Int)) : (sortP ps).Pairwise (fun a b => leP a b = true) := by
  refine List.pairwise_mergeSort (fun a b c h1 h2 => ?_) (fun a b => ?_) ps
  · rw [leP_iff] at *; omega
  · rw [Bool.or_eq_true, leP_iff, leP_iff]; omega
theorem sortP_uniq {ps qs : List (Int × Int)} (p : qs.Perm ps) (o : qs.Pairwise (fun a b => leP a b = true)) : qs = sortP ps :=
  List.Perm.eq_of_pairwise (le := fun a b => leP a b = true) (fun a b _ _ h1 h2 => by
    rw [leP_iff] at *
    exact Prod.ext (by omega) (by omega)) o (sortP_le ps) (p.trans (sortP_perm ps).symm)
/-- the pair that a value is, in a heap -/
def kH (h : Heap) : Value → Int × Int
  | .ref a => match h.get? a with
    | some o => match o.data with
      | .seq its _ => match its.toList with
        | [.int x _, .int y _] => (x, y)
        | _ => (0, 0)
      | _ => (0, 0)
    | none => (0, 0)
  | _ => (0, 0)
theorem kH_pair {h : Heap} {v : Value} {x y : Int} (p : Srt.IsPair h v x y) : kH h v = (x, y) := by
  obtain ⟨a, o, t, u, n, rfl, e, c, d⟩ := p
  simp [kH, e, d]
def pairV (p : Int × Int) : Val := .tup [.int p.1, .int p.2]
def rSortedPM (K : PySem.W.Frag) : List V → Hp → VK → Prop := fun vs H Q => ∃ (a : Addr) (xs : List V) (ps : List (Int × Int)), vs = [V.ref a] ∧ SqL K H a xs ∧ xs.length = ps.length ∧ (∀ (i : Nat) (x : V), xs[i]? = some x → ∃ t p, ps[i]? = some p ∧ x = V.ref t ∧ SqT K H t [.int p.1, .int p.2]) ∧
  ∀ (zs : List (V × (Int × Int))) (p : Addr), zs.Perm (xs.zip ps) → zs.map (·.2) = sortP ps → H p = none → Q (.ref p) (upd H p (.lst (zs.map (·.1))))
section
variable {X : Cx} {cn : String → Addr} {W : WX}
theorem cr_sortedPM : CallR X (.builtin "sorted") (rSortedPM X.K) := by
  intro pins s σ H vs us Q I r h
  obtain ⟨a, xs, ps, rfl, hs, hlen, hx, q⟩ := h
  obtain ⟨its, rv, hl, hz⟩ := I.list hs
  obtain ⟨u, rfl, ru⟩ := vals1 r
  obtain rfl : u = Value.ref a := ru
  obtain ⟨e1, e2⟩ := refs_back rv fun x m => by
    obtain ⟨i, hi, rfl⟩ := List.getElem_of_mem m
    obtain ⟨t, p, _, e, _⟩ := hx i _ (List.getElem?_eq_getElem hi)
    exact ⟨t, e⟩
  have pair : ∀ (i : Nat) (v : Value), its[i]? = some v → ∃ p, ps[i]? = some p ∧ Srt.IsPair s.heap v p.1 p.2 := fun i v ev => by
    obtain ⟨x, ex, rx⟩ := Vals.get2 rv ev
    obtain ⟨t, p, ep, rfl, ht⟩ := hx i x ex
    cases rx
    obtain ⟨is, r1, p1, _⟩ := I.tuple ht
    obtain ⟨u1, u2, rfl, ri, rj⟩ := vals2 r1
    obtain ⟨t1, rfl⟩ := ri
    obtain ⟨t2, rfl⟩ := rj
    obtain ⟨o, ho, hc, n, hd⟩ := p1
    exact ⟨p, ep, t, o, t1, t2, n, rfl, ho, hc, by simpa using hd⟩
  have keys : its.map (kH s.heap) = ps := by
    refine List.ext_getElem? fun i => ?_
    rw [List.getElem?_map]
    cases ev : its[i]? with
    | none =>
      have h1 := List.getElem?_eq_none_iff.mp ev
      have h2 := rv.length
      rw [List.getElem?_eq_none (by omega)]; rfl
    | some v =>
      obtain ⟨p, ep, hp⟩ := pair i v ev
      rw [ep, Option.map_some, kH_pair hp]
  refine SrtO.sorted_pairsO (k := kH s.heap) hl.isList (by rw [← rv.length]; exact hz) (fun v hv => ?_) fun h' d out h1 h2 kp hd hn => ?_
  · obtain ⟨i, hi, rfl⟩ := List.getElem_of_mem hv
    obtain ⟨p, ep, hp⟩ := pair i _ (List.getElem?_eq_getElem hi)
    rw [kH_pair hp]; exact hp
  · have h3 : ∀ u ∈ out, ∃ a, u = Value.ref a := fun u hu => e2 u (h2.perm.mem_iff.mp hu)
    obtain ⟨n, hn⟩ := hn
    have hzip : xs.zip ps = its.map fun u => (backV u, kH s.heap u) := by
      rw [e1, ← keys, List.zip_map']
    have hp : (out.map fun u => (backV u, kH s.heap u)).Perm (xs.zip ps) := by rw [hzip]; exact h2.perm.map _
    have hl2 : (out.map backV).length ≤ sizeLine := by
      rw [List.length_map, h2.perm.length_eq, ← rv.length]; exact hz
    have hsn : (out.map fun u => (backV u, kH s.heap u)).map (·.2) = sortP ps := by
      rw [List.map_map]
      refine sortP_uniq ?_ ?_
      · rw [← keys]; exact h2.perm.map _
      · rw [List.pairwise_map]
        refine List.Pairwise.imp (fun {x y} hxy => ?_) h1
        show (!SrtO.lexB _ _) = true
        simpa using hxy
    have res := q _ d hp hsn (I.hok.fresh hd)
    have e3 : (out.map fun u => (backV u, kH s.heap u)).map (·.1) = out.map backV := by rw [List.map_map]; rfl
    rw [e3] at res
    exact ⟨.ref d, upd H d (.lst (out.map backV)), I.laid (t' := s.toks) kp hd ⟨hl2, out, n, vals_back h3, hn⟩, rfl, res⟩
def sortedF1 (h : MH) (v : Val) : Option (List Val) := (lstOf h v).bind fun l => (intsOf l).map fun ns => (sortI ns).map .int
def pairOf : Val → Option (Int × Int)
  | .tup [.int i, .int j] => some (i, j)
  | _ => none
def pairsOf : List Val → Option (List (Int × Int))
  | [] => some []
  | v :: l => (pairOf v).bind fun p => (pairsOf l).map (p :: ·)
def sortedF2 (h : MH) (v : Val) : Option (List Val) := (lstOf h v).bind fun l => (pairsOf l).map fun ps => (sortP ps).map pairV
def fnL1 (f : MH → Val → Option (List Val)) : List Val → MH → Res (List Val)
  | [v], h => liftL (f h v) h
  | _, _ => .bad
theorem fnL1_ok (f : MH → Val → Option (List Val)) (l : List Val) (h : MH) : match fnL1 f l h with | .ok _ h' => h' = h | .exc _ _ _ => False | .bad => True := by
  match l with
  | [] => trivial
  | [v] =>
    show match liftL (f h v) h with | .ok _ h' => h' = h | .exc _ _ _ => False | .bad => True
    cases f h v with
    | none => trivial
    | some w => exact rfl
  | _ :: _ :: _ => trivial
theorem entF_1 {K : PySem.W.Frag} {r : List V → Hp → VK → Prop} {f : MH → Val → Option (List Val)}
    (h : ∀ (E q : Pt) (σm : Env) (mh : MH) (σ : L2.St) (v : Val) (l : List Val) (x : V) (Q : VK), Rel ⟨K, cn⟩ E q σm mh σ → RVT ⟨K, cn⟩ q σm σ v x → f mh v = some l → (∀ a ws, q.H a = none → RVs ⟨K, cn⟩ q l ws → Q (.ref a) (upd q.H a (.lst ws))) → r [x] q.H Q) : EntF K cn r (fnL1 f) := by
  intro E q σm mh σ vs xs Q R rv k
  match vs, rv, k with
  | [], rv, k => exact k.elim
  | [v], rv, k =>
    obtain ⟨x, rfl, rx⟩ := RVTs.one rv
    have k : match liftL (f mh v) mh with
      | .ok l h => h = mh ∧ ∀ a ws, q.H a = none → RVs ⟨K, cn⟩ q l ws → Q (.ref a) (upd q.H a (.lst ws))
      | _ => False := k
    cases e : f mh v with
    | none => rw [e] at k; exact k.elim
    | some l => rw [e] at k; exact h E q σm mh σ v l x Q R rx e k.2
  | _ :: _ :: _, rv, k => exact k.elim
theorem lstOf_eq {h : MH} {v : Val} {l : List Val} (e : lstOf h v = some l) : deref h v = .lst l := by
  unfold lstOf at e
  split at e
  · rename_i q; cases e; exact q
  · cases e
theorem entF_sortI {K : PySem.W.Frag} : EntF K cn (rSortedI K) (fnL1 sortedF1) := entF_1 fun E q σm mh σ v l x Q R rv e k => by
  unfold sortedF1 at e
  simp only [Option.bind_eq_some_iff, Option.map_eq_some_iff] at e
  obtain ⟨m, e1, ns, e2, rfl⟩ := e
  obtain ⟨a, vs, rfl, h1, _, h2⟩ := rv.list R (lstOf_eq e1)
  rw [intsOf_rv e2 h2] at h1
  refine ⟨a, ns, rfl, h1, fun ns' p hp ho hn => ?_⟩
  rw [sortI_uniq hp ho]
  refine k p _ hn ?_
  generalize sortI ns = ms
  induction ms with
  | nil => exact .nil
  | cons m ms ih => exact .cons (by unfold RV; rfl) ih
theorem pairsOf_rv {C : Cn} {p : Pt} : ∀ {l : List Val} {ps : List (Int × Int)} {vs : List V}, pairsOf l = some ps → RVs C p l vs → vs.length = ps.length ∧ ∀ (i : Nat) (x : V), vs[i]? = some x → ∃ t q, ps[i]? = some q ∧ x = V.ref t ∧ TupAt C.K p t [.int q.1, .int q.2]
  | [], ps, vs, e, r => by cases e; rw [r.nil_inv]; exact ⟨rfl, fun i x z => by simp at z⟩
  | v :: l, ps, vs, e, r => by
    simp only [pairsOf, Option.bind_eq_some_iff, Option.map_eq_some_iff] at e
    obtain ⟨pr, e1, ms, e2, rfl⟩ := e
    obtain ⟨x, t, rfl, h1, h2⟩ := r.cons_inv
    obtain ⟨k1, k2⟩ := pairsOf_rv e2 h2
    refine ⟨by simp [k1], fun i y hy => ?_⟩
    cases i with
    | zero =>
      simp at hy; subst hy
      unfold pairOf at e1
      split at e1
      · cases e1
        unfold RV at h1
        obtain ⟨a, ws, rfl, q1, q2⟩ := h1
        obtain ⟨x1, r1, rfl, g1, g2⟩ := q2.cons_inv
        obtain ⟨x2, r2, rfl, g3, g4⟩ := g2.cons_inv
        rw [g4.nil_inv] at q1
        unfold RV at g1 g3
        subst g1 g3
        exact ⟨a, _, rfl, rfl, q1⟩
      · cases e1
    | succ i => simpa using k2 i y (by simpa using hy)
theorem entF_sortP {K : PySem.W.Frag} : EntF K cn (rSortedPM K) (fnL1 sortedF2) := entF_1 fun E q σm mh σ v l x Q R rv e k => by
  unfold sortedF2 at e
  simp only [Option.bind_eq_some_iff, Option.map_eq_some_iff] at e
  obtain ⟨m, e1, ps, e2, rfl⟩ := e
  obtain ⟨a, vs, rfl, h1, _, h2⟩ := rv.list R (lstOf_eq e1)
  obtain ⟨k1, k2⟩ := pairsOf_rv e2 h2
  refine ⟨a, vs, ps, rfl, h1, k1, fun i x hx => ?_, fun zs p hp ho hn => ?_⟩
  · obtain ⟨t, pr, g1, g2, g3⟩ := k2 i x hx
    exact ⟨t, pr, g1, g2, g3.sq⟩
  · refine k p _ hn ?_
    rw [← ho]
    have mem : ∀ z ∈ zs, RV ⟨K, cn⟩ q (pairV z.2) z.1 := fun z hz => by
      have hm := hp.mem_iff.mp hz
      obtain ⟨i, hi, e⟩ := List.getElem_of_mem hm
      rw [List.length_zip] at hi
      have h5 : vs[i]? = some z.1 := by
        rw [← e, List.getElem_zip]; exact List.getElem?_eq_getElem (by omega)
      have h6 : ps[i]? = some z.2 := by
        rw [← e, List.getElem_zip]; exact List.getElem?_eq_getElem (by omega)
      obtain ⟨t, pr, g1, g2, g3⟩ := k2 i _ h5
      rw [h6] at g1; cases g1
      unfold pairV RV
      exact ⟨t, _, g2, g3, .cons (by unfold RV; rfl) (.cons (by unfold RV; rfl) .nil)⟩
    clear hp ho k
    induction zs with
    | nil => exact .nil
    | cons z zs ih => exact .cons (mem z List.mem_cons_self) (ih fun w hw => mem w (List.mem_cons_of_mem _ hw))
theorem f_sortI {e : Expr} {p0 pos : Pos} {m : ME (List Val)} (hm : X.mg "sorted" = none) (ha : AT X cn W [e] m)
    (hg : Gl X "sorted" := by rfl) (hs : starEach [e] X.env = (false, eval e X.env) :: starEach [] X.env := by rfl) (hpl : (backTo pos (starEach [] X.env)).any (·.1) = false := by rfl) : EF X cn W (.Call (.Name "sorted" p0) [e] [] pos) (mCall (fnL1 sortedF1) m) :=
  f_callB cr_sortedI entF_sortI (fnL1_ok _) hm bo_sorted ha hg (by decide) (by decide) hs hpl
theorem f_sortP {e : Expr} {p0 pos : Pos} {m : ME (List Val)} (hm : X.mg "sorted" = none) (ha : AT X cn W [e] m)
    (hg : Gl X "sorted" := by rfl) (hs : starEach [e] X.env = (false, eval e X.env) :: starEach [] X.env := by rfl) (hpl : (backTo pos (starEach [] X.env)).any (·.1) = false := by rfl) : EF X cn W (.Call (.Name "sorted" p0) [e] [] pos) (mCall (fnL1 sortedF2) m) :=
  f_callB cr_sortedPM entF_sortP (fnL1_ok _) hm bo_sorted ha hg (by decide) (by decide) hs hpl
end
@[simp ↓] theorem wp_fnL1 {h : MH} {v : Val} {f : MH → Val → Option (List Val)} [QL : Kt (List Val)] [X : Kx] : (fnL1 f [v] h).wp = Op (f h v) h := by
  show (liftL (f h v) h).wp = _
  cases f h v <;> rfl
theorem pairsOf_map : ∀ ps : List (Int × Int), pairsOf (ps.map pairV) = some ps
  | [] => rfl
  | p :: ps => by simp [pairsOf, pairOf, pairV, pairsOf_map ps]
end Mi
/-! Mi26: dicts by their numbers. -/
namespace Mi
open PySem L2 PyProof.Rows

/-! ### rows of keys and values -/
section
variable {κ : Type} [DecidableEq κ]
def vM (kvs : List (κ × Val)) (k : κ) : Option Val := (kvs.find? fun kv => decide (kv.1 = k)).map (·.2)
def pM (kvs : List (κ × Val)) (k : κ) (v : Val) : List (κ × Val) := if (kvs.any fun kv => decide (kv.1 = k)) = true then kvs.map (fun kv => if kv.1 = k then (kv.1, v) else kv) else kvs ++ [(k, v)]
def xM (kvs : List (κ × Val)) (k : κ) : List (κ × Val) := kvs.filter fun kv => decide (kv.1 ≠ k)
@[simp] theorem vM_nil {k : κ} : vM ([] : List (κ × Val)) k = none := rfl
theorem vM_cons {p : κ × Val} {r : List (κ × Val)} {k : κ} : vM (p :: r) k = if p.1 = k then some p.2 else vM r k := by
  unfold vM
  rw [List.find?_cons]
  by_cases e : p.1 = k <;> simp [e]
theorem any_vM (k : κ) : ∀ kvs : List (κ × Val), (kvs.any fun kv => decide (kv.1 = k)) = (vM kvs k).isSome
  | [] => rfl
  | p :: r => by
    rw [List.any_cons, any_vM k r, vM_cons]
    by_cases e : p.1 = k <;> simp [e]
theorem pM_cons {p : κ × Val} {r : List (κ × Val)} {k : κ} {v : Val} : pM (p :: r) k v = if p.1 = k then (p.1, v) :: r.map (fun kv => if kv.1 = k then (kv.1, v) else kv) else p :: pM r k v := by
  unfold pM
  rw [List.any_cons]
  by_cases e : p.1 = k
  · simp [e]
  · rw [if_neg e]
    by_cases y : (r.any fun kv => decide (kv.1 = k)) = true
    · simp [e, y]
    · simp [e, y]
theorem vM_pM (kvs : List (κ × Val)) (k j : κ) (v : Val) : vM (pM kvs k v) j = if j = k then some v else vM kvs j := by
  induction kvs with
  | nil =>
    unfold pM
    simp [vM_cons]
    by_cases e : j = k
    · simp [e]
    · rw [if_neg (fun z => e z.symm), if_neg e]
  | cons p r ih =>
    rw [pM_cons]
    by_cases e : p.1 = k
    · rw [if_pos e, vM_cons]
      simp only
      by_cases e2 : j = k
      · rw [if_pos (e.trans e2.symm), if_pos e2]
      · rw [if_neg (fun z => e2 (z.symm.trans e)), if_neg e2, vM_cons, if_neg (fun z => e2 (z.symm.trans e))]
        clear ih
        induction r with
        | nil => rfl
        | cons q r ih =>
          rw [List.map_cons, vM_cons, vM_cons, ih]
          by_cases e3 : q.1 = k
          · rw [if_pos e3]
            simp only
            rw [if_neg (fun z => e2 (z.symm.trans e3))]
            rw [if_neg (fun z => e2 (z.symm.trans e3))]
          · rw [if_neg e3]
    · rw [if_neg e, vM_cons, ih, vM_cons]
      by_cases e2 : p.1 = j
      · rw [if_pos e2, if_pos e2, if_neg (fun z => e (e2.trans z))]
      · rw [if_neg e2, if_neg e2]
theorem pM_len (kvs : List (κ × Val)) (k : κ) (v : Val) : (pM kvs k v).length ≤ kvs.length + 1 := by
  unfold pM; split <;> simp
end
def keyOf : Val → Option KK
  | .int i => some (.inl i)
  | .str s => some (.inr s)
  | _ => none
def keysOf : List Val → Option (List KK)
  | [] => some []
  | v :: l => (keyOf v).bind fun k => (keysOf l).map (k :: ·)
def tkeyOf : Val → Option (List KK)
  | .tup l => keysOf l
  | _ => none
theorem kS_inj {a b : KK} (h : kS a = kS b) : a = b := by
  cases a <;> cases b <;> simp [kS] at h
  · rw [h]
  · rw [S_inj h]
theorem kSs_inj : ∀ {a b : List KK}, a.map kS = b.map kS → a = b
  | [], [], _ => rfl
  | [], _ :: _, h => by simp at h
  | _ :: _, [], h => by simp at h
  | x :: a, y :: b, h => by
    simp only [List.map_cons, List.cons.injEq] at h
    rw [kS_inj h.1, kSs_inj h.2]
/-- the rows at a place, in a heap -/
def RD {κ : Type} (C : Cn) (p : Pt) {κ' : Type} (f : κ → κ') (kvs : List (κ × Val)) (ws : List (κ' × V)) : Prop := ∃ vs, ws = (kvs.map fun kv => f kv.1).zip vs ∧ RVs C p (kvs.map (·.2)) vs
section
variable {κ κ' : Type} [DecidableEq κ] [DecidableEq κ'] {C : Cn} {p : Pt} {f : κ → κ'}
theorem RD.nil : RD C p f [] [] := ⟨[], rfl, .nil⟩
theorem RD.cons {k : κ} {v : Val} {x : V} {kvs : List (κ × Val)} {ws : List (κ' × V)} (r : RV C p v x) (t : RD C p f kvs ws) : RD C p f ((k, v) :: kvs) ((f k, x) :: ws) := by
  obtain ⟨vs, rfl, h⟩ := t
  exact ⟨x :: vs, rfl, .cons r h⟩
theorem RD.nil_inv {ws : List (κ' × V)} (h : RD C p f ([] : List (κ × Val)) ws) : ws = [] := by
  obtain ⟨vs, rfl, h⟩ := h; rfl
theorem RD.cons_inv {q : κ × Val} {kvs : List (κ × Val)} {ws : List (κ' × V)} (h : RD C p f (q :: kvs) ws) : ∃ x r, ws = (f q.1, x) :: r ∧ RV C p q.2 x ∧ RD C p f kvs r := by
  obtain ⟨vs, rfl, h⟩ := h
  obtain ⟨x, r, rfl, h1, h2⟩ := RVs.cons_inv h
  exact ⟨x, _, rfl, h1, r, rfl, h2⟩
theorem RD.ext {q : Pt} (e : Ext p q) {kvs : List (κ × Val)} {ws : List (κ' × V)} (h : RD C p f kvs ws) : RD C q f kvs ws := by
  obtain ⟨vs, e1, h⟩ := h
  exact ⟨vs, e1, h.ext e⟩
theorem RD.len : ∀ {kvs : List (κ × Val)} {ws : List (κ' × V)}, RD C p f kvs ws → ws.length = kvs.length
  | [], ws, h => by rw [h.nil_inv]; rfl
  | q :: kvs, ws, h => by
    obtain ⟨x, r, rfl, _, h2⟩ := h.cons_inv
    simp [RD.len h2]
theorem RD.val (inj : ∀ a b, f a = f b → a = b) {k : κ} : ∀ {kvs : List (κ × Val)} {ws : List (κ' × V)}, RD C p f kvs ws → (vM kvs k = none → valV ws (f k) = none) ∧ ∀ v, vM kvs k = some v → ∃ x, valV ws (f k) = some x ∧ RV C p v x
  | [], ws, h => by rw [h.nil_inv]; exact ⟨fun _ => rfl, fun v z => by cases z⟩
  | q :: kvs, ws, h => by
    obtain ⟨x, r, rfl, h1, h2⟩ := h.cons_inv
    obtain ⟨i1, i2⟩ := RD.val inj (k := k) h2
    rw [vM_cons]
    by_cases e : q.1 = k
    · rw [if_pos e, valV_pos (by rw [← e])]
      exact ⟨fun z => (by cases z), fun v z => by cases z; exact ⟨x, rfl, h1⟩⟩
    · rw [if_neg e, valV_neg (fun z => e (inj _ _ z))]
      exact ⟨i1, i2⟩
theorem RD.mapP (inj : ∀ a b, f a = f b → a = b) {k : κ} {v : Val} {x : V} (rv : RV C p v x) : ∀ {kvs : List (κ × Val)} {ws : List (κ' × V)}, RD C p f kvs ws → RD C p f (kvs.map fun kv => if kv.1 = k then (kv.1, v) else kv) (ws.map fun kv => if kv.1 = f k then (kv.1, x) else kv)
  | [], ws, h => by rw [h.nil_inv]; exact .nil
  | q :: kvs, ws, h => by
    obtain ⟨y, r, rfl, h1, h2⟩ := h.cons_inv
    simp only [List.map_cons]
    by_cases e : q.1 = k
    · rw [if_pos e, if_pos (by rw [← e])]
      exact .cons rv (RD.mapP inj rv h2)
    · rw [if_neg e, if_neg (fun z => e (inj _ _ z))]
      exact .cons h1 (RD.mapP inj rv h2)
theorem RD.app : ∀ {kvs : List (κ × Val)} {ws : List (κ' × V)} {k : κ} {v : Val} {x : V}, RD C p f kvs ws → RV C p v x → RD C p f (kvs ++ [(k, v)]) (ws ++ [(f k, x)])
  | [], ws, k, v, x, h, r => by rw [h.nil_inv]; exact .cons r .nil
  | q :: kvs, ws, k, v, x, h, r => by
    obtain ⟨y, t, rfl, h1, h2⟩ := h.cons_inv
    exact .cons h1 (RD.app h2 r)
theorem RD.anyP (inj : ∀ a b, f a = f b → a = b) {k : κ} : ∀ {kvs : List (κ × Val)} {ws : List (κ' × V)}, RD C p f kvs ws → (ws.any fun kv => decide (kv.1 = f k)) = kvs.any fun kv => decide (kv.1 = k)
  | [], ws, h => by rw [h.nil_inv]; rfl
  | q :: kvs, ws, h => by
    obtain ⟨y, t, rfl, h1, h2⟩ := h.cons_inv
    rw [List.any_cons, List.any_cons, RD.anyP inj h2]
    congr 1
    by_cases e : q.1 = k
    · simp [e]
    · simp [e]
      exact fun z => e (inj _ _ z)
theorem RD.put (inj : ∀ a b, f a = f b → a = b) {k : κ} {v : Val} {x : V} {kvs : List (κ × Val)} {ws : List (κ' × V)} (h : RD C p f kvs ws) (rv : RV C p v x) : RD C p f (pM kvs k v) (putK ws (f k) x) := by
  unfold pM putK
  rw [h.anyP inj]
  split
  · exact h.mapP inj rv
  · exact h.app rv
theorem RD.drop (inj : ∀ a b, f a = f b → a = b) {k : κ} : ∀ {kvs : List (κ × Val)} {ws : List (κ' × V)}, RD C p f kvs ws → RD C p f (xM kvs k) (dropK ws (f k))
  | [], ws, h => by rw [h.nil_inv]; exact .nil
  | q :: kvs, ws, h => by
    obtain ⟨y, r, rfl, h1, h2⟩ := h.cons_inv
    unfold xM dropK
    by_cases e : q.1 = k
    · rw [List.filter_cons_of_neg (by simp [e]), List.filter_cons_of_neg (by simp [e])]
      exact RD.drop inj h2
    · rw [List.filter_cons_of_pos (by simp [e]), List.filter_cons_of_pos (by simp; exact fun z => e (inj _ _ z))]
      exact .cons h1 (RD.drop inj h2)
end

/-! ### at a place -/
def dGetM (o : MObj) (key : Val) : Option (Option Val) := match o with
  | .dK kvs => (keyOf key).map fun k => vM kvs k
  | .dT kvs => (tkeyOf key).map fun k => vM kvs k
  | _ => none
def dPutM (o : MObj) (key v : Val) : Option MObj := match o with
  | .dK kvs => (keyOf key).bind fun k => if kvs.length < 16777216 then some (.dK (pM kvs k v)) else none
  | .dT kvs => (tkeyOf key).bind fun k => if kvs.length < 16777216 then some (.dT (pM kvs k v)) else none
  | _ => none
theorem key_rv {C : Cn} {p : Pt} {key : Val} {k : KK} {y : V} (e : keyOf key = some k) (r : RV C p key y) : y = kV (kS k) := by
  unfold keyOf at e
  split at e <;> first | (cases e; unfold RV at r; rw [r]; rfl) | cases e
theorem keys_rv {C : Cn} {p : Pt} : ∀ {l : List Val} {ks : List KK} {vs : List V}, keysOf l = some ks → RVs C p l vs → vs = (ks.map kS).map kV
  | [], ks, vs, e, r => by cases e; exact r.nil_inv
  | v :: l, ks, vs, e, r => by
    simp only [keysOf, Option.bind_eq_some_iff, Option.map_eq_some_iff] at e
    obtain ⟨k, e1, ms, e2, rfl⟩ := e
    obtain ⟨x, t, rfl, h1, h2⟩ := r.cons_inv
    rw [key_rv e1 h1, keys_rv e2 h2]; rfl
theorem tkey_rv {C : Cn} {p : Pt} {key : Val} {ks : List KK} {y : V} (e : tkeyOf key = some ks) (r : RV C p key y) : ∃ b, y = .ref b ∧ p.H b = some (.tup ((ks.map kS).map kV)) := by
  unfold tkeyOf at e
  split at e
  · unfold RV at r
    obtain ⟨b, vs, rfl, t, rs⟩ := r
    rw [keys_rv e rs] at t
    exact ⟨b, rfl, t.2⟩
  · cases e
theorem ref_obj {C : Cn} {E p : Pt} {σm : Env} {mh : MH} {σ : L2.St} {n : Nat} {o : MObj} {x : V} (R : Rel C E p σm mh σ) (h : RV C p (.ref n) x) (e : mh[n]? = some o) (ng : o ≠ .gone) : ∃ a, x = .ref a ∧ p.ι[n]? = some (some a) ∧ RO C p o a := by
  unfold RV at h
  obtain ⟨a, rfl, h1⟩ := h
  rcases R.h.obj n o e with ⟨z, _⟩ | ⟨b, hb, ro⟩
  · exact absurd z ng
  · rcases h1 with h1 | h1
    · rw [h1] at hb; cases hb; exact ⟨a, rfl, h1, ro⟩
    · rw [h1] at hb; cases hb
theorem dget_of {C : Cn} {E p : Pt} {σm : Env} {mh : MH} {σ : L2.St} {n : Nat} {o : MObj} {key : Val} {r : Option Val} {x y : V} (R : Rel C E p σm mh σ) (hd : RV C p (.ref n) x) (hk : RV C p key y) (e : mh[n]? = some o) (g : dGetM o key = some r) :
    ∃ a r', x = .ref a ∧ DGet p.H a y r' ∧ (r = none → r' = none) ∧ ∀ v, r = some v → ∃ z, r' = some z ∧ RV C p v z := by
  unfold dGetM at g
  cases o with
  | dK kvs =>
    simp only [Option.map_eq_some_iff] at g
    obtain ⟨k, e1, rfl⟩ := g
    obtain ⟨a, rfl, _, ws, hw, rd⟩ := ref_obj R hd e (fun z => by cases z)
    have rd : RD C p kS kvs ws := rd
    obtain ⟨v1, v2⟩ := rd.val (fun _ _ => kS_inj) (k := k)
    refine ⟨a, valV ws (kS k), rfl, .inl ⟨ws, kS k, .inl hw, key_rv e1 hk, rfl⟩, v1, v2⟩
  | dT kvs =>
    simp only [Option.map_eq_some_iff] at g
    obtain ⟨k, e1, rfl⟩ := g
    obtain ⟨a, rfl, _, ws, hw, rd⟩ := ref_obj R hd e (fun z => by cases z)
    have rd : RD C p (List.map kS) kvs ws := rd
    obtain ⟨v1, v2⟩ := rd.val (fun _ _ => kSs_inj) (k := k)
    obtain ⟨b, rfl, hb⟩ := tkey_rv e1 hk
    exact ⟨a, valV ws (k.map kS), rfl, .inr ⟨ws, k.map kS, b, .inl hw, rfl, hb, rfl⟩, v1, v2⟩
  | _ => cases g
theorem dput_of {C : Cn} {E p : Pt} {σm : Env} {mh : MH} {σ : L2.St} {n : Nat} {o o' : MObj} {key v : Val} {x y z : V} (R : Rel C E p σm mh σ) (hd : RV C p (.ref n) x) (hk : RV C p key y) (hv : RV C p v z) (e : mh[n]? = some o) (g : dPutM o key v = some o') :
    ∃ a u, x = .ref a ∧ DPut p.H a y z (upd p.H a u) ∧ Rel C E (p.up a u) σm (mh.set n o') σ ∧ Ext p (p.up a u) := by
  unfold dPutM at g
  cases o with
  | dK kvs =>
    simp only [Option.bind_eq_some_iff] at g
    obtain ⟨k, e1, g⟩ := g
    by_cases hz : kvs.length < 16777216
    · rw [if_pos hz] at g; cases g
      obtain ⟨a, rfl, hι, ws, hw, rd⟩ := ref_obj R hd e (fun z => by cases z)
      have rd : RD C p kS kvs ws := rd
      have f : p.F a := F_ι hι
      refine ⟨a, .dK (putK ws (kS k) z), rfl, .inl ⟨ws, kS k, hw, key_rv e1 hk, by rw [rd.len, sizeLine_eq]; exact hz, rfl⟩, R.write hι ⟨_, upd_same, ?_⟩, ext_wr f⟩
      exact (rd.put (fun _ _ => kS_inj) hv).ext (ext_wr f)
    · rw [if_neg hz] at g; cases g
  | dT kvs =>
    simp only [Option.bind_eq_some_iff] at g
    obtain ⟨k, e1, g⟩ := g
    by_cases hz : kvs.length < 16777216
    · rw [if_pos hz] at g; cases g
      obtain ⟨a, rfl, hι, ws, hw, rd⟩ := ref_obj R hd e (fun z => by cases z)
      have rd : RD C p (List.map kS) kvs ws := rd
      have f : p.F a := F_ι hι
      obtain ⟨b, rfl, hb⟩ := tkey_rv e1 hk
      refine ⟨a, .dT (putK ws (k.map kS) z), rfl, .inr ⟨ws, k.map kS, b, hw, rfl, hb, by rw [rd.len, sizeLine_eq]; exact hz, rfl⟩, R.write hι ⟨_, upd_same, ?_⟩, ext_wr f⟩
      exact (rd.put (fun _ _ => kSs_inj) hv).ext (ext_wr f)
    · rw [if_neg hz] at g; cases g
  | _ => cases g
/-! ### rules -/
def mNewD : ME Val := fun _ h => .ok (.ref h.length) (h ++ [.dK []])
def mNewDT : ME Val := fun _ h => .ok (.ref h.length) (h ++ [.dT []])
def dAt (h : MH) (d k : Val) : Option (Option Val) := (rfV d).bind fun n => h[n]?.bind fun o => dGetM o k
def mDGet (md mk : ME Val) : ME Val := fun σ h => (md σ h).bind fun d h1 => (mk σ h1).bind fun k h2 => match dAt h2 d k with
  | some (some v) => .ok v h2
  | _ => .bad
def opDIn (x y : Val) (h : MH) : Res Val := match dAt h y x with
  | some r => .ok (.bl r.isSome) h
  | none => .bad
def opDNotIn (x y : Val) (h : MH) : Res Val := match dAt h y x with
  | some r => .ok (.bl (!r.isSome)) h
  | none => .bad
/-- a dict stands there -/
def dIs (h : MH) (d : Val) : Option Nat := (rfV d).bind fun n => h[n]?.bind fun o => match o with
  | .dK _ => some n
  | .dT _ => some n
  | _ => none
def mDGet2 (md mk mx : ME Val) : ME Val := fun σ h => (md σ h).bind fun d h1 => match dIs h1 d with
  | none => .bad
  | some _ => (mk σ h1).bind fun k h2 => (mx σ h2).bind fun x h3 => match dAt h3 d k with
    | some r => .ok (r.getD x) h3
    | none => .bad
theorem dIs_of {h : MH} {d : Val} {n : Nat} (e : dIs h d = some n) : ∃ ob, d = .ref n ∧ h[n]? = some ob ∧ ((∃ kvs, ob = .dK kvs) ∨ ∃ kvs, ob = .dT kvs) := by
  unfold dIs at e
  simp only [Option.bind_eq_some_iff] at e
  obtain ⟨m, e1, o, e2, e3⟩ := e
  cases d <;> simp [rfV] at e1
  subst e1
  cases o <;> simp at e3
  · subst e3; exact ⟨_, rfl, e2, .inl ⟨_, rfl⟩⟩
  · subst e3; exact ⟨_, rfl, e2, .inr ⟨_, rfl⟩⟩
def dPutAt (h : MH) (d k v : Val) : Option MH := (rfV d).bind fun n => h[n]?.bind fun o => (dPutM o k v).map fun o' => h.set n o'
def sDPut (md mk mv : ME Val) : MS := fun σ h => ofE (mv σ h) σ fun v h1 => ofE (md σ h1) σ fun d h2 => ofE (mk σ h2) σ fun k h3 => match dPutAt h3 d k v with
  | some h4 => .next σ h4
  | none => .bad
section
variable {X : Cx} {cn : String → Addr} {W : WX} {o i e f value : Expr} {pos pos' apos : Pos} {md mk mv mx : ME Val}
theorem e_newD : EM X cn W (.Dict [] [] pos) mNewD := PE.wk pe_dnewK fun σ H Q ⟨E, p, σm, mh, e1, R, k⟩ => by
  subst e1
  intro a hn
  refine k (p.al a (.dK [])) (.ref a) (R.al hn ⟨_, upd_same, RD.nil⟩) (ext_al hn) ?_
  show RV _ _ _ _
  unfold RV
  exact ⟨a, rfl, .inl (al_at R.h)⟩
theorem e_newDT : EM X cn W (.Dict [] [] pos) mNewDT := PE.wk pe_dnewT fun σ H Q ⟨E, p, σm, mh, e1, R, k⟩ => by
  subst e1
  intro a hn
  refine k (p.al a (.dT [])) (.ref a) (R.al hn ⟨_, upd_same, RD.nil⟩) (ext_al hn) ?_
  show RV _ _ _ _
  unfold RV
  exact ⟨a, rfl, .inl (al_at R.h)⟩
theorem dAt_of {h : MH} {d k : Val} {r : Option Val} (e : dAt h d k = some r) : ∃ n o, d = .ref n ∧ h[n]? = some o ∧ dGetM o k = some r := by
  unfold dAt at e
  simp only [Option.bind_eq_some_iff] at e
  obtain ⟨n, e1, o, e2, e3⟩ := e
  cases d <;> simp [rfV] at e1
  subst e1
  exact ⟨_, o, rfl, e2, e3⟩
theorem e_dget (hu : X.A.units + 64 < cLine) (ho : EM X cn W o md) (hi : EM X cn W i mk) (hs : NoSl i := by intro _ _; rfl) : EM X cn W (.Subscript o i pos) (mDGet md mk) :=
  PE.wk (pe_dget (by omega) ho hi hs) fun σ H Q ⟨E, p, σm, mh, e1, R, k⟩ => ⟨E, p, σm, mh, e1, R, k.bind fun d mh1 q x R1 x1 rd k1 => ⟨E, q, σm, mh1, rfl, R1, k1.bind fun key mh2 q2 y R2 x2 rk k2 => by
    cases g : dAt mh2 d key with
    | none => rw [g] at k2; exact k2.elim
    | some r =>
      rw [g] at k2
      cases r with
      | none => exact k2.elim
      | some v =>
        obtain ⟨n, ob, rfl, e2, e3⟩ := dAt_of g
        obtain ⟨a, r', rfl, dg, _, h2⟩ := dget_of R2 (RV.ext x2 rd) rk e2 e3
        obtain ⟨z, rfl, rz⟩ := h2 v rfl
        exact ⟨a, z, rfl, dg, post_fin k2 R2 rz⟩⟩⟩
def rDIn (b : Bool) : R2 := fun y x H Q => ∃ a r, x = .ref a ∧ DGet H a y r ∧ Q (.bl (b != r.isSome)) H
theorem op_dIn (hu : X.A.units + 1 < cLine) : OpR X (compareOp .In) (rDIn false) := by
  intro pins s σ H x y v u Q I rx ry h
  obtain ⟨a, r, rfl, g, q⟩ := h
  obtain rfl : u = Value.ref a := ry
  exact d_in hu I g rx fun s' I' => ⟨.bl _, H, I', rfl, by simpa using q⟩
theorem op_dNotIn (hu : X.A.units + 1 < cLine) : OpR X (compareOp .NotIn) (rDIn true) := by
  intro pins s σ H x y v u Q I rx ry h
  obtain ⟨a, r, rfl, g, q⟩ := h
  obtain rfl : u = Value.ref a := ry
  exact d_notIn hu I g rx fun s' I' => ⟨.bl _, H, I', rfl, by simpa using q⟩
theorem dget_key {o : MObj} {key : Val} {r : Option Val} (g : dGetM o key = some r) : ∀ l, key ≠ .lst l := fun l z => by
  subst z
  cases o <;> simp [dGetM, keyOf, tkeyOf] at g
theorem RVT.rv {C : Cn} {p : Pt} {σm : Env} {σ : L2.St} {v : Val} {x : V} (h : RVT C p σm σ v x) (n : ∀ l, v ≠ .lst l) : RV C p v x := by
  rcases h with h | ⟨_, l, _, e, _⟩
  · exact h
  · exact absurd e (n l)
theorem ent_dIn (b : Bool) {K : PySem.W.Frag} {mo : Val → Val → MH → Res Val} (hm : ∀ x y h, mo x y h = match dAt h y x with
    | some r => .ok (.bl (b != r.isSome)) h
    | none => .bad) : Ent2 K cn W (rDIn b) mo := by
  intro E q σm mh σ vx vy x y Q R hx hy k
  rw [hm] at k
  cases g : dAt mh vy vx with
  | none => rw [g] at k; exact k.elim
  | some r =>
    rw [g] at k
    obtain ⟨n, ob, rfl, e2, e3⟩ := dAt_of g
    obtain ⟨a, r', rfl, dg, h1, h2⟩ := dget_of R (hy.rv fun l z => by cases z) (hx.rv (dget_key e3)) e2 e3
    have e : r'.isSome = r.isSome := by
      cases r with
      | none => rw [h1 rfl]; rfl
      | some v => obtain ⟨z, rfl, _⟩ := h2 v rfl; rfl
    exact ⟨a, r', rfl, dg, by rw [e]; exact post_fin k R (by unfold RV; rfl)⟩
def c_dIn (hu : X.A.units + 64 < cLine) : CmpM X cn W .In opDIn := ⟨_, op_dIn (by omega), ent_dIn false fun x y h => by
  unfold opDIn
  cases dAt h y x with
  | none => rfl
  | some r => simp⟩
def c_dNotIn (hu : X.A.units + 64 < cLine) : CmpM X cn W .NotIn opDNotIn := ⟨_, op_dNotIn (by omega), ent_dIn true fun x y h => by
  unfold opDNotIn
  cases dAt h y x with
  | none => rfl
  | some r => simp⟩
theorem e_dget2 (hu : X.A.units + 64 < cLine) (ho : EM X cn W o md) (he : EM X cn W e mk) (hf : EM X cn W f mx) (m : M2 X o "get" apos e f pos := by exact ⟨rfl, rfl, rfl, rfl⟩) : EM X cn W (.Call (.Attribute o "get" apos) [e, f] [] pos) (mDGet2 md mk mx) :=
  PE.wk (pe_dget2 (by omega) ho he hf m) fun σ H Q ⟨E, p, σm, mh, e1, R, k⟩ => ⟨E, p, σm, mh, e1, R, k.bind fun d mh1 q x R1 x1 rd k1 => by
    cases di : dIs mh1 d with
    | none => rw [di] at k1; exact k1.elim
    | some n =>
      rw [di] at k1
      obtain ⟨ob, rfl, hn, ht⟩ := dIs_of di
      obtain ⟨a, rfl, hι, ro⟩ := ref_obj R1 rd hn (fun z => by subst z; rcases ht with ⟨_, z⟩ | ⟨_, z⟩ <;> cases z)
      have isD : IsD q.H a := by
        rcases ht with ⟨kvs, rfl⟩ | ⟨kvs, rfl⟩
        · obtain ⟨ws, hw, _⟩ := ro; exact .inl ⟨ws, .inl hw⟩
        · obtain ⟨ws, hw, _⟩ := ro; exact .inr ⟨ws, .inl hw⟩
      refine ⟨a, rfl, isD, E, q, σm, mh1, rfl, R1, k1.bind fun key mh2 q2 y R2 x2 rk k2 => ⟨E, q2, σm, mh2, rfl, R2, k2.bind fun xv mh3 q3 z R3 x3 rx k3 => ?_⟩⟩
      cases g : dAt mh3 (.ref n) key with
      | none => rw [g] at k3; exact k3.elim
      | some r =>
        rw [g] at k3
        obtain ⟨n', ob', e9, e2, e3⟩ := dAt_of g
        cases e9
        obtain ⟨a', r', e8, dg, h1, h2⟩ := dget_of R3 (RV.ext (x2.trans x3) rd) (RV.ext x3 rk) e2 e3
        cases e8
        refine ⟨r', dg, ?_⟩
        cases r with
        | none => rw [h1 rfl]; exact post_fin k3 R3 rx
        | some v => obtain ⟨w, rfl, rw'⟩ := h2 v rfl; exact post_fin k3 R3 rw'⟩
theorem s_dput (hu : X.A.units + 64 < cLine) (ho : EM X cn W o md) (hi : EM X cn W i mk) (hv : EM X cn W value mv) (hs : swapsWith value (some (.Subscript o i pos')) pos.line X.env = pure false := by rfl) :
    SM X cn W (.Assign [.Subscript o i pos'] value pos) (sDPut md mk mv) := PS.wk (ps_dput (by omega) ho hi hv hs) fun D σ H ⟨E, p, σm, mh, e1, R, k⟩ =>
  ⟨E, p, σm, mh, e1, R, postS.of k fun v mh1 q x R1 x1 rv k1 => ⟨E, q, σm, mh1, rfl, R1, postS.of k1 fun d mh2 q2 y R2 x2 rd k2 => ⟨E, q2, σm, mh2, rfl, R2, postS.of k2 fun key mh3 q3 z R3 x3 rk k3 => by
    cases g : dPutAt mh3 d key v with
    | none => rw [g] at k3; exact k3.elim
    | some h4 =>
      rw [g] at k3
      unfold dPutAt at g
      simp only [Option.bind_eq_some_iff, Option.map_eq_some_iff] at g
      obtain ⟨n, e1, ob, e2, o', e3, rfl⟩ := g
      cases d <;> simp [rfV] at e1
      subst e1
      obtain ⟨a, u, rfl, dp, R4, x4⟩ := dput_of R3 (RV.ext x3 rd) rk (RV.ext (x2.trans x3) rv) e2 e3
      exact ⟨a, _, rfl, dp, k3 (q3.up a u) σ R4 x4⟩⟩⟩⟩
/-- d.pop(k), d.pop(k, x), of ints and texts -/
def dDropAt (h : MH) (n : Nat) (k : Val) : Option (Option Val × MH) := h[n]?.bind fun o => match o with
  | .dK kvs => (keyOf k).map fun k => (vM kvs k, h.set n (.dK (xM kvs k)))
  | _ => none
def mDPop1 (md mk : ME Val) : ME Val := fun σ h => (md σ h).bind fun d h1 => match dIs h1 d with
  | none => .bad
  | some n => (mk σ h1).bind fun k h2 => match dDropAt h2 n k with
    | some (some v, h3) => .ok v h3
    | _ => .bad
theorem dDrop_of {C : Cn} {E p : Pt} {σm : Env} {mh h' : MH} {σ : L2.St} {n : Nat} {key : Val} {r : Option Val} {x y : V} (R : Rel C E p σm mh σ) (hd : RV C p (.ref n) x) (hk : RV C p key y) (g : dDropAt mh n key = some (r, h')) :
    ∃ a ws k, x = .ref a ∧ p.H a = some (.dK ws) ∧ y = kV k ∧ (r = none → valV ws k = none) ∧ (∀ v, r = some v → ∃ z, valV ws k = some z ∧ RV C p v z) ∧ Rel C E (p.up a (.dK (dropK ws k))) σm h' σ ∧ Ext p (p.up a (.dK (dropK ws k))) := by
  unfold dDropAt at g
  simp only [Option.bind_eq_some_iff] at g
  obtain ⟨o, e, g⟩ := g
  cases o with
  | dK kvs =>
    simp only [Option.map_eq_some_iff, Prod.mk.injEq] at g
    obtain ⟨k, e1, rfl, rfl⟩ := g
    obtain ⟨a, rfl, hι, ws, hw, rd⟩ := ref_obj R hd e (fun z => by cases z)
    have rd : RD C p kS kvs ws := rd
    have f : p.F a := F_ι hι
    obtain ⟨v1, v2⟩ := rd.val (fun _ _ => kS_inj) (k := k)
    exact ⟨a, ws, kS k, rfl, hw, key_rv e1 hk, v1, v2, R.write hι ⟨_, upd_same, (rd.drop (fun _ _ => kS_inj)).ext (ext_wr f)⟩, ext_wr f⟩
  | _ => cases g
theorem e_dpop1 (ho : EM X cn W o md) (he : EM X cn W e mk) (m : M1 X o "pop" apos e pos := by exact ⟨rfl, rfl, rfl, rfl⟩) : EM X cn W (.Call (.Attribute o "pop" apos) [e] [] pos) (mDPop1 md mk) :=
  PE.wk (pe_dpop1 ho he m) fun σ H Q ⟨E, p, σm, mh, e1, R, k⟩ => ⟨E, p, σm, mh, e1, R, k.bind fun d mh1 q x R1 x1 rd k1 => by
    cases di : dIs mh1 d with
    | none => rw [di] at k1; exact k1.elim
    | some n =>
      rw [di] at k1
      obtain ⟨ob, rfl, hn, ht⟩ := dIs_of di
      obtain ⟨a, rfl, hι, ro⟩ := ref_obj R1 rd hn (fun z => by subst z; rcases ht with ⟨_, z⟩ | ⟨_, z⟩ <;> cases z)
      have isD : IsD q.H a := by
        rcases ht with ⟨kvs, rfl⟩ | ⟨kvs, rfl⟩
        · obtain ⟨ws, hw, _⟩ := ro; exact .inl ⟨ws, .inl hw⟩
        · obtain ⟨ws, hw, _⟩ := ro; exact .inr ⟨ws, .inl hw⟩
      refine ⟨a, rfl, isD, E, q, σm, mh1, rfl, R1, k1.bind fun key mh2 q2 y R2 x2 rk k2 => ?_⟩
      cases g : dDropAt mh2 n key with
      | none => rw [g] at k2; exact k2.elim
      | some r =>
        rw [g] at k2
        obtain ⟨r, h3⟩ := r
        cases r with
        | none => exact k2.elim
        | some v =>
          obtain ⟨a', ws, kk, e8, hw, ey, _, h2, R3, x3⟩ := dDrop_of R2 (RV.ext x2 rd) rk g
          cases e8
          obtain ⟨z, hz, rz⟩ := h2 v rfl
          exact ⟨ws, kk, z, hw, ey, hz, k2 (q2.up _ _) z R3 x3 (RV.ext x3 rz)⟩⟩
/-- len of a dict -/
def dLenV (h : MH) (v : Val) : Option Val := (rfV v).bind fun n => h[n]?.bind fun o => match o with
  | .dK kvs => some (.int kvs.length)
  | .dT kvs => some (.int kvs.length)
  | _ => none
def b_dlen : CallB X cn W (.builtin "len") (fn1 dLenV) := ⟨_, call_lenD.or call_len_dT, entC_1 fun E q σm mh σ v w x Q R rv e k => by
  unfold dLenV at e
  simp only [Option.bind_eq_some_iff] at e
  obtain ⟨n, e1, o, e2, e3⟩ := e
  cases v <;> simp [rfV] at e1
  subst e1
  have rv' := rv.rv fun l z => by cases z
  cases o with
  | dK kvs =>
    simp at e3; subst e3
    obtain ⟨a, rfl, _, ws, hw, rd⟩ := ref_obj R rv' e2 (fun z => by cases z)
    have rd : RD _ q kS kvs ws := rd
    refine .inl ⟨a, ws, rfl, hw, ?_⟩
    rw [rd.len]
    exact post_fin k R (by unfold RV; rfl)
  | dT kvs =>
    simp at e3; subst e3
    obtain ⟨a, rfl, _, ws, hw, rd⟩ := ref_obj R rv' e2 (fun z => by cases z)
    have rd : RD _ q (List.map kS) kvs ws := rd
    refine .inr ⟨a, ws, rfl, hw, ?_⟩
    rw [rd.len]
    exact post_fin k R (by unfold RV; rfl)
  | _ => simp at e3⟩
end
section
variable {σ : Env} {h : MH} {md mk mx mv : ME Val}
@[simp ↓] theorem wp_NewD [QV : Kt Val] [X : Kx] : (mNewD σ h).wp = QV.run (.ref h.length) (h ++ [.dK []]) := nrf rfl
@[simp ↓] theorem wp_NewDT [QV : Kt Val] [X : Kx] : (mNewDT σ h).wp = QV.run (.ref h.length) (h ++ [.dT []]) := nrf rfl
def two2 : Option (Option Val) → Option Val
  | some (some v) => some v
  | _ => none
@[simp] theorem two2_s {v : Val} : two2 (some (some v)) = some v := rfl
@[simp ↓] theorem wp_DGet [QV : Kt Val] [X : Kx] : (mDGet md mk σ h).wp = @Res.wp _ (md σ h) ⟨fun d h1 => @Res.wp _ (mk σ h1) ⟨fun k h2 => Op (two2 (dAt h2 d k)) h2⟩ X⟩ X := by
  unfold mDGet
  cases md σ h with
  | ok d h1 =>
    simp only [rb_ok, wp_ok, kt_run]
    cases mk σ h1 with
    | ok k h2 =>
      simp only [rb_ok, wp_ok, kt_run]
      cases dAt h2 d k with
      | none => rfl
      | some r => cases r <;> rfl
    | _ => rfl
  | _ => rfl
@[simp ↓] theorem wp_DIn {x y : Val} [QV : Kt Val] [X : Kx] : (opDIn x y h).wp = @Op _ (dAt h y x) ⟨fun r h => QV.run (.bl r.isSome) h⟩ h := by
  unfold opDIn
  cases dAt h y x <;> rfl
@[simp ↓] theorem wp_DNotIn {x y : Val} [QV : Kt Val] [X : Kx] : (opDNotIn x y h).wp = @Op _ (dAt h y x) ⟨fun r h => QV.run (.bl (!r.isSome)) h⟩ h := by
  unfold opDNotIn
  cases dAt h y x <;> rfl
@[simp ↓] theorem wp_DGet2 [QV : Kt Val] [X : Kx] : (mDGet2 md mk mx σ h).wp = @Res.wp _ (md σ h) ⟨fun d h1 => @Op _ (dIs h1 d) ⟨fun _ h1 => @Res.wp _ (mk σ h1) ⟨fun k h2 => @Res.wp _ (mx σ h2) ⟨fun x h3 => @Op _ (dAt h3 d k) ⟨fun r h3 => QV.run (r.getD x) h3⟩ h3⟩ X⟩ X⟩ h1⟩ X := by
  unfold mDGet2
  cases md σ h with
  | ok d h1 =>
    simp only [rb_ok, wp_ok, kt_run]
    cases dIs h1 d with
    | none => rfl
    | some n =>
      simp only [op_some, kt_run]
      cases mk σ h1 with
      | ok k h2 =>
        simp only [rb_ok, wp_ok, kt_run]
        cases mx σ h2 with
        | ok x h3 =>
          simp only [rb_ok, wp_ok, kt_run]
          cases dAt h3 d k <;> rfl
        | _ => rfl
      | _ => rfl
  | _ => rfl
def sm1 : Option (Option Val × MH) → Option (Val × MH)
  | some (some v, h) => some (v, h)
  | _ => none
@[simp] theorem sm1_s {v : Val} : sm1 (some (some v, h)) = some (v, h) := rfl
@[simp ↓] theorem wp_DPop1 [QV : Kt Val] [X : Kx] : (mDPop1 md mk σ h).wp = @Res.wp _ (md σ h) ⟨fun d h1 => @Op _ (dIs h1 d) ⟨fun n h1 => @Res.wp _ (mk σ h1) ⟨fun k h2 => @Op _ (sm1 (dDropAt h2 n k)) ⟨fun p _ => QV.run p.1 p.2⟩ h2⟩ X⟩ h1⟩ X := by
  unfold mDPop1
  cases md σ h with
  | ok d h1 =>
    simp only [rb_ok, wp_ok, kt_run]
    cases dIs h1 d with
    | none => rfl
    | some n =>
      simp only [op_some, kt_run]
      cases mk σ h1 with
      | ok k h2 =>
        simp only [rb_ok, wp_ok, kt_run]
        cases dDropAt h2 n k with
        | none => rfl
        | some p => obtain ⟨r, h3⟩ := p; cases r <;> rfl
      | _ => rfl
  | _ => rfl
@[simp ↓] theorem sw_DPut [K : KS] : (sDPut md mk mv σ h).wp = @Res.wp _ (mv σ h) ⟨fun v h1 => @Res.wp _ (md σ h1) ⟨fun d h2 => @Res.wp _ (mk σ h2) ⟨fun k h3 => @Op _ (dPutAt h3 d k v) ⟨fun h4 _ => K.nx σ h4⟩ h3⟩ (K.x σ)⟩ (K.x σ)⟩ (K.x σ) := by
  unfold sDPut; rw [swp_ofE]
  cases mv σ h with
  | ok v h1 =>
    simp only [wp_ok, kt_run]
    rw [swp_ofE]
    cases md σ h1 with
    | ok d h2 =>
      simp only [wp_ok, kt_run]
      rw [swp_ofE]
      cases mk σ h2 with
      | ok k h3 =>
        simp only [wp_ok, kt_run]
        cases dPutAt h3 d k v <;> rfl
      | _ => rfl
    | _ => rfl
  | _ => rfl
@[simp] theorem dAt_ref {n : Nat} {k : Val} : dAt h (.ref n) k = h[n]?.bind fun o => dGetM o k := rfl
@[simp] theorem dPutAt_ref {n : Nat} {k v : Val} : dPutAt h (.ref n) k v = h[n]?.bind fun o => (dPutM o k v).map fun o' => h.set n o' := rfl
@[simp] theorem dGetM_k {kvs : List (KK × Val)} {k : Val} : dGetM (.dK kvs) k = (keyOf k).map fun k => vM kvs k := rfl
@[simp] theorem dGetM_t {kvs : List (List KK × Val)} {k : Val} : dGetM (.dT kvs) k = (tkeyOf k).map fun k => vM kvs k := rfl
@[simp] theorem dPutM_k {kvs : List (KK × Val)} {k v : Val} : dPutM (.dK kvs) k v = (keyOf k).bind fun k => if kvs.length < 16777216 then some (.dK (pM kvs k v)) else none := rfl
@[simp] theorem dPutM_t {kvs : List (List KK × Val)} {k v : Val} : dPutM (.dT kvs) k v = (tkeyOf k).bind fun k => if kvs.length < 16777216 then some (.dT (pM kvs k v)) else none := rfl
@[simp] theorem keyOf_int {i : Int} : keyOf (.int i) = some (.inl i) := rfl
@[simp] theorem keyOf_str {s : Tx} : keyOf (.str s) = some (.inr s) := rfl
end
end Mi
/-! Mi27: comprehensions and for over lists by their numbers, alone, in zip and in enumerate: the lists must stand as they stood at each turn. -/
namespace Mi
open PySem L2 PyProof.Rows
open Sem (wp)
abbrev Pins := List (Nat × List Val)
def chk : Pins → MH → Prop
  | [], _ => True
  | (n, l) :: ps, h => h[n]? = some (.lst l) ∧ chk ps h
@[simp] theorem chk_nil {h : MH} : chk [] h = True := rfl
@[simp] theorem chk_cons {n : Nat} {l : List Val} {ps : Pins} {h : MH} : chk ((n, l) :: ps) h = (h[n]? = some (.lst l) ∧ chk ps h) := rfl
theorem chk_app {ps qs : Pins} {h : MH} : chk (ps ++ qs) h ↔ chk ps h ∧ chk qs h := by
  induction ps with
  | nil => simp
  | cons p ps ih => obtain ⟨n, l⟩ := p; simp [ih, and_assoc]
structure ItOkC (C : Cn) (q : Pt) (J : It) (l : List Val) (ps : Pins) : Prop where
  go : ∀ (q' : Pt) (i : Nat) (E : Pt) (σm : Env) (mh : MH) (σ : L2.St), Ext q q' → Rel C E q' σm mh σ → chk ps mh → i < l.length → J.go i q'.H
  yld : ∀ (q' : Pt) (i : Nat) (x : V) (H' : Hp) (v : Val) (E : Pt) (σm : Env) (mh : MH) (σ : L2.St), Ext q q' → Rel C E q' σm mh σ → chk ps mh → l[i]? = some v → J.yld i q'.H x H' → (H' = q'.H ∧ RV C q' v x) ∨ (∃ (t : Addr) (ws : List V) (m : List Val), q'.H t = none ∧ H' = upd q'.H t (.tup ws) ∧ x = .ref t ∧ v = .tup m ∧ RVs C q' m ws)
  stop : ∀ (q' : Pt) (E : Pt) (σm : Env) (mh : MH) (σ : L2.St), Ext q q' → Rel C E q' σm mh σ → chk ps mh → J.stop l.length q'.H
def tItC (C : Cn) (W : WX) (m : ME (List Val × Pins)) : TI := fun σ H K => ∃ E p σm mh, p.H = H ∧ Rel C E p σm mh σ ∧
  match m σm mh with
  | .ok (l, ps) h => ∀ q J, Rel C E q σm h σ → Ext p q → ItOkC C q J l ps → K J q.H
  | .exc c f h => ∀ q cls d, Rel C E q σm h σ → Ext p q → RX C q c f cls d → W cls d σ q.H
  | .bad => False
def IMC (X : Cx) (cn : String → Addr) (W : WX) (tg iter : Expr) (m : ME (List Val × Pins)) : Prop := PI X tg iter (tItC ⟨X.K, cn⟩ W m)
section
open Classical
noncomputable def lcC (ps : Pins) (t : Tg) (c : ME Bool) (m : ME Val) : List Val → List Val → Env → MH → Res (List Val)
  | [], acc, _, h => if chk ps h then .ok acc h else .bad
  | v :: l, acc, σ, h => if chk ps h then (match tgM t v σ h with
    | .next σ1 h1 => (match c σ1 h1 with
      | .ok b h2 => if b = true then (match m σ1 h2 with
        | .ok y h3 => if acc.length < 16777216 then lcC ps t c m l (acc ++ [y]) σ h3 else .bad
        | _ => .bad) else lcC ps t c m l acc σ h2
      | _ => .bad)
    | _ => .bad) else .bad
noncomputable def mLcC (vs : List Nat) (mi : ME (List Val × Pins)) (t : Tg) (c : ME Bool) (m : ME Val) : ME (List Val) := fun σ h => (mi σ h).bind fun l h1 => if okWipe σ vs = true then lcC l.2 t c m l.1 [] (wipeM σ vs) h1 else .bad
noncomputable def forC (ps : Pins) (g : MG) (b : MS) : List Val → MS
  | [] => fun σ h => if chk ps h then .next σ h else .bad
  | v :: l => fun σ h => if chk ps h then (match plainG (g v σ h) with
    | .next σ1 h1 => (match b σ1 h1 with
      | .next σ2 h2 => forC ps g b l σ2 h2
      | .cont σ2 h2 => forC ps g b l σ2 h2
      | .brk σ2 h2 => .next σ2 h2
      | r => r)
    | r => r) else .bad
end
noncomputable def sForC (it : ME (List Val × Pins)) (g : MG) (b : MS) : MS := fun σ h => ofE (it σ h) σ fun l h1 => forC l.2 g b l.1 σ h1
section
variable {X : Cx} {cn : String → Addr} {W : WX} {e a b c tg iter : Expr} {st : Stmt} {rest body orelse : List Stmt} {es : List Expr} {pos : Pos}
theorem s_forC {mi : ME (List Val × Pins)} {g : MG} {mb : MS} (hp : PassesOwn (model X.prog X.w) X.A X.env X.xe) (hc : X.calm = true) (hi : IMC X cn W tg iter mi) (hg : GM X cn W tg g) (hb : BM X cn W body mb) (hs : ∀ x, foldedSetIterable iter X.env x = pure x := by intro _; rfl) :
    SM X cn W (.For tg iter body [] pos) (sForC mi g mb) := PS.wk (ps_for hp hc hi hg hb hs) fun D σ H ⟨E, p, σm, mh, e1, R, k⟩ => by
  refine ⟨E, p, σm, mh, e1, R, ?_⟩
  unfold sForC at k
  cases r : mi σm mh with
  | exc c f h => rw [r] at k; exact fun q cls d R1 x1 rx => k q σ cls d R1 x1 rx
  | bad => rw [r] at k; exact k
  | ok lp h =>
    obtain ⟨l, ps⟩ := lp
    rw [r] at k
    intro q J R1 x1 ok
    refine ⟨fun i m σ H => ∃ q' σm mh, q'.H = H ∧ Rel ⟨X.K, cn⟩ E q' σm mh σ ∧ Ext q q' ∧ i ≤ l.length ∧ m = l.length - i ∧ postS ⟨X.K, cn⟩ W E q' D (forC ps g mb (l.drop i) σm mh), ⟨l.length, q, σm, h, rfl, R1, Ext.refl q, Nat.zero_le _, rfl, postS.ext x1 k⟩, ?_⟩
    rintro i m σ H ⟨q', σm, mh, rfl, R', x', hi, rfl, k'⟩
    by_cases hl : i < l.length
    · have hck : chk ps mh := by
        rw [List.drop_eq_getElem_cons hl] at k'
        unfold forC at k'
        by_cases z : chk ps mh
        · exact z
        · simp only [if_neg z] at k'; exact k'.elim
      refine .inr ⟨ok.go q' i _ _ _ _ x' R' hck hl, fun σ' H' => ∃ q' σm mh, q'.H = H' ∧ Rel ⟨X.K, cn⟩ E q' σm mh σ' ∧ Ext q q' ∧ i + 1 ≤ l.length ∧ postS ⟨X.K, cn⟩ W E q' D (forC ps g mb (l.drop (i + 1)) σm mh), fun σ' H' ⟨q2, σm2, mh2, a1, a2, a3, a4, a5⟩ => ⟨l.length - (i + 1), by omega, q2, σm2, mh2, a1, a2, a3, a4, rfl, a5⟩, fun x H' y => ?_⟩
      have ev : l[i]? = some l[i] := List.getElem?_eq_getElem hl
      rw [List.drop_eq_getElem_cons hl] at k'
      unfold forC at k'
      simp only [if_pos hck] at k'
      -- the item
      obtain ⟨q1, R2, x2, e2, rv⟩ : ∃ q1 : Pt, Rel ⟨X.K, cn⟩ E q1 σm mh σ ∧ Ext q' q1 ∧ q1.H = H' ∧ RV ⟨X.K, cn⟩ q1 l[i] x := by
        rcases ok.yld q' i x H' _ _ _ _ _ x' R' hck ev y with ⟨e2, rv⟩ | ⟨t, ws, m, hn, e2, rfl, ev2, rs⟩
        · exact ⟨q', R', Ext.refl q', e2.symm, rv⟩
        · exact ⟨q'.up t (.tup ws), R'.up hn, ext_up hn, e2.symm, by rw [ev2]; exact rv_tup R'.h hn rs⟩
      have k2 := postS.ext x2 k'
      refine ⟨E, q1, σm, mh, l[i], e2, R2, rv, ?_⟩
      cases r1 : g l[i] σm mh with
      | next σ1 h1 =>
        rw [r1] at k2
        simp only [plainG] at k2
        refine fun q3 σ3 R3 x3 => ⟨E, q3, σ1, h1, rfl, R3, ?_⟩
        have k3 := postS.ext x3 k2
        cases r2 : mb σ1 h1 with
        | next σ2 h2 => rw [r2] at k3; exact fun q4 σ4 R4 x4 => ⟨q4, σ2, h2, rfl, R4, x'.trans (x2.trans (x3.trans x4)), hl, postS.ext x4 k3⟩
        | cont σ2 h2 => rw [r2] at k3; exact fun q4 σ4 R4 x4 => ⟨q4, σ2, h2, rfl, R4, x'.trans (x2.trans (x3.trans x4)), hl, postS.ext x4 k3⟩
        | brk σ2 h2 => rw [r2] at k3; exact k3
        | ret v h2 => rw [r2] at k3; exact k3
        | exc c f σ2 h2 => rw [r2] at k3; exact k3
        | bad => rw [r2] at k3; exact k3
      | exc c f σ1 h1 => rw [r1] at k2; exact k2
      | ret v h => rw [r1] at k2; exact k2.elim
      | brk σ h => rw [r1] at k2; exact k2.elim
      | cont σ h => rw [r1] at k2; exact k2.elim
      | bad => rw [r1] at k2; exact k2.elim
    · have e3 : i = l.length := by omega
      subst e3
      rw [List.drop_length] at k'
      have hck : chk ps mh := by
        unfold forC at k'
        by_cases z : chk ps mh
        · exact z
        · simp only [if_neg z] at k'; exact k'.elim
      refine .inl ⟨ok.stop q' _ _ _ _ x' R' hck, ?_⟩
      unfold forC at k'
      simp only [if_pos hck] at k'
      exact k' q' σ R' (Ext.refl q')

/-! ### what is walked: a list, a tuple, a text, a range -/
end
section
variable {X : Cx} {cn : String → Addr} {W : WX} {e a b c tg iter : Expr} {es : List Expr} {pos : Pos}
theorem tLcC_of {t : Tg} {vs : List Nat} {mi : ME (List Val × Pins)} {mc : ME Bool} {m : ME Val} {W' : WX} (hin : tgIn vs t = true) {σ : L2.St} {H : Hp} {Q : VK} (h : tFr ⟨X.K, cn⟩ W (mLcC vs mi t mc m) σ H Q) :
    tLc (tItC ⟨X.K, cn⟩ W mi) (tgR X.K t) (tG RB ⟨X.K, cn⟩ W' mc) (tG RVr ⟨X.K, cn⟩ W' m) vs σ H Q := by
  obtain ⟨E, p, σm, mh, e1, R, k⟩ := h
  refine ⟨E, p, σm, mh, e1, R, ?_⟩
  unfold mLcC at k
  cases r : mi σm mh with
  | bad => rw [r] at k; exact k
  | exc c f h => rw [r] at k; exact k
  | ok lp h =>
    obtain ⟨l, ps⟩ := lp
    rw [r] at k
    intro q J Rq xq ok D hD
    simp only [Res.bind] at k
    by_cases hok : okWipe σm vs = true
    · rw [if_pos hok] at k
      have hvs : ∀ v ∈ vs, v < σm.length ∧ ∀ l', σm[v]? ≠ some (.own l') := fun v hv => by
        have := List.all_eq_true.mp hok v hv
        cases hs : σm[v]? with
        | none => rw [hs] at this; cases this
        | some s =>
          refine ⟨(List.getElem?_eq_some_iff.mp hs).1, fun l' z => ?_⟩
          cases z
          rw [hs] at this; cases this
      have nFD : ¬ q.F D := fun f => Rq.h.hF D f hD
      -- a turn's state
      let Inn : Pt → MH → List Val → List V → Prop := fun q' mh' acc accV => Rel ⟨X.K, cn⟩ q' q' (wipeM σm vs) mh' (wipe σ vs) ∧ Ext q q' ∧ q'.ο = D :: q.ο ∧ (∀ a ∈ q.ο, q'.H a = q.H a) ∧ q'.H D = some (.lst accV) ∧ RVs ⟨X.K, cn⟩ q' acc accV
      have Dο : D ∉ q.ο := fun z => nFD (.inr (.inr z))
      refine ⟨fun i n H => ∃ (q' : Pt) (mh' : MH) (acc : List Val) (accV : List V), q'.H = H ∧ Inn q' mh' acc accV ∧ i ≤ l.length ∧ n = l.length - i ∧
        (match lcC ps t mc m (l.drop i) acc (wipeM σm vs) mh' with
          | .ok l' h' => ∀ r a us, Rel ⟨X.K, cn⟩ E r σm h' σ → Ext q r → r.H a = none → RVs ⟨X.K, cn⟩ r l' us → Q (.ref a) (upd r.H a (.lst us))
          | _ => False), ⟨l.length, ?_⟩, ?_⟩
      · -- the start
        obtain ⟨p0, R0, x0, e0, o0⟩ := unsets vs (fun v hv => (hvs v hv).1) Rq
        have x1 : Ext p0 { ι := p0.ι, ω := p0.ω, ο := D :: p0.ο, H := upd p0.H D (.lst []) } := by
          refine ⟨fun _ _ h => .inl h, fun a o ha hf => ?_, fun a f => ?_⟩
          · show upd p0.H D _ a = some o
            rw [upd_ne fun z => by subst z; rw [e0, hD] at ha; cases ha]; exact ha
          · rcases f with f | f | f
            · exact .inl (.inl f)
            · exact .inl (.inr (.inl f))
            · rcases List.mem_cons.mp f with f | f
              · subst f; exact .inr (by rw [e0]; exact hD)
              · exact .inl (.inr (.inr f))
        have nF0 : ¬ p0.F D := fun f => R0.h.hF D f (by rw [e0]; exact hD)
        have other : ∀ a, p0.F a → upd p0.H D (.lst []) a = p0.H a := fun a f => upd_ne fun z => by subst z; exact nF0 f
        refine ⟨{ ι := p0.ι, ω := p0.ω, ο := D :: p0.ο, H := upd p0.H D (.lst []) }, h, [], [], ?_, ⟨?_, ?_, ?_, ?_, upd_same, .nil⟩, Nat.zero_le _, rfl, ?_⟩
        · show upd p0.H D _ = upd q.H D _
          rw [e0]
        · refine ⟨⟨R0.h.li, fun n u e => ?_, ⟨R0.h.sep.ii, R0.h.sep.ww, R0.h.sep.iw, fun n a e1 z => ?_, fun n a e1 z => ?_⟩, fun a f => ?_⟩, R0.lσ, R0.lω, fun i s e => (R0.slot i s e).ext x1 rfl other, Ext.refl _, rfl, fun _ _ => rfl⟩
          · rcases R0.h.obj n u e with z | ⟨a, e1, ro⟩
            · exact .inl z
            · exact .inr ⟨a, e1, ro.ext x1 (other a (F_ι e1))⟩
          · rcases List.mem_cons.mp z with z | z
            · subst z; exact nF0 (F_ι e1)
            · exact R0.h.sep.io n a e1 z
          · rcases List.mem_cons.mp z with z | z
            · subst z; exact nF0 (F_ω e1)
            · exact R0.h.sep.wo n a e1 z
          · show upd p0.H D _ a ≠ none
            by_cases z : a = D
            · rw [z, upd_same]; exact fun w => by cases w
            · rw [upd_ne z]
              rcases f with f | f | f
              · exact R0.h.hF a (.inl f)
              · exact R0.h.hF a (.inr (.inl f))
              · rcases List.mem_cons.mp f with f | f
                · exact absurd f z
                · exact R0.h.hF a (.inr (.inr f))
        · exact x0.trans x1
        · show D :: p0.ο = D :: q.ο
          rw [o0]
        · intro a ha
          show upd p0.H D _ a = _
          rw [upd_ne fun z => by subst z; exact Dο ha, e0]
        · rw [List.drop_zero]
          cases hr : lcC ps t mc m l [] (wipeM σm vs) h with
          | ok l' h' => rw [hr] at k; exact fun r a us R1 x1 => k r a us R1 (xq.trans x1)
          | exc c f h' =>
            exfalso
            have go : ∀ (l : List Val) (acc : List Val) (σ : Env) (h : MH) (c : String) (f : Option Val) (h' : MH), lcC ps t mc m l acc σ h ≠ .exc c f h' := fun l => by
              induction l with
              | nil =>
                intro acc σ h c f h' z
                unfold lcC at z
                split at z <;> cases z
              | cons v l ih =>
                intro acc σ h c f h' z
                unfold lcC at z
                split at z
                · split at z
                  · split at z
                    · split at z
                      · split at z
                        · split at z
                          · exact ih _ _ _ _ _ _ z
                          · cases z
                        · cases z
                      · exact ih _ _ _ _ _ _ z
                    · cases z
                  · cases z
                · cases z
            exact go _ _ _ _ _ _ _ hr
          | bad => rw [hr] at k; exact k.elim
      · rintro i n H ⟨q', mh', acc, accV, rfl, ⟨R', x', o', kο, hDa, ra⟩, hi, rfl, k'⟩
        by_cases hl : i < l.length
        · have hck : chk ps mh' := by
            rw [List.drop_eq_getElem_cons hl] at k'
            unfold lcC at k'
            by_cases z : chk ps mh'
            · exact z
            · rw [if_neg z] at k'; exact k'.elim
          refine .inr ⟨ok.go q' i _ _ _ _ x' R' hck hl, fun H' => ∃ (q' : Pt) (mh' : MH) (acc : List Val) (accV : List V), q'.H = H' ∧ Inn q' mh' acc accV ∧ i + 1 ≤ l.length ∧
            (match lcC ps t mc m (l.drop (i + 1)) acc (wipeM σm vs) mh' with
              | .ok l' h' => ∀ r a us, Rel ⟨X.K, cn⟩ E r σm h' σ → Ext q r → r.H a = none → RVs ⟨X.K, cn⟩ r l' us → Q (.ref a) (upd r.H a (.lst us))
              | _ => False), fun H' ⟨a1, a2, a3, a4, a5, a6, a7, a8⟩ => ⟨l.length - (i + 1), by omega, a1, a2, a3, a4, a5, a6, a7, rfl, a8⟩, fun x H' y => ?_⟩
          have ev : l[i]? = some l[i] := List.getElem?_eq_getElem hl
          rw [List.drop_eq_getElem_cons hl] at k'
          unfold lcC at k'
          rw [if_pos hck] at k'
          obtain ⟨q1, R1, x1, e2, o1, rv⟩ : ∃ q1 : Pt, Rel ⟨X.K, cn⟩ q' q1 (wipeM σm vs) mh' (wipe σ vs) ∧ Ext q' q1 ∧ q1.H = H' ∧ q1.ο = q'.ο ∧ RV ⟨X.K, cn⟩ q1 l[i] x := by
            rcases ok.yld q' i x H' _ _ _ _ _ x' R' hck ev y with ⟨e2, rv⟩ | ⟨t, ws, m, hn, e2, rfl, ev2, rs⟩
            · exact ⟨q', R', Ext.refl q', e2.symm, rfl, rv⟩
            · exact ⟨q'.up t (.tup ws), R'.up hn, ext_up hn, e2.symm, rfl, by rw [ev2]; exact rv_tup R'.h hn rs⟩
          rcases tg_plain t l[i] (wipeM σm vs) mh' with ⟨σ1, h1, et⟩ | et
          · rw [et] at k'
            simp only at k'
            obtain ⟨eh, σ', p', a1, a2, a3, a4, a5⟩ := tg_ok vs t R1 rv et
            subst eh
            obtain ⟨w1, w2⟩ := tgM_wipe vs t _ _ _ _ _ hin et
            rw [← e2]
            refine a1 _ ⟨by rw [a5 hin, wipe_wipe σ vs vs fun _ z => z], q', p', σ1, h1, a4, a2, ?_⟩
            -- back to a turn's state
            have back : ∀ (q4 : Pt) (mh4 : MH) (acc' : List Val) (accV' : List V), Rel ⟨X.K, cn⟩ q' q4 σ1 mh4 σ' → RVs ⟨X.K, cn⟩ q4 acc' accV' → ∃ q5 : Pt, q5.H = upd q4.H D (.lst accV') ∧ Inn q5 mh4 acc' accV' := fun q4 mh4 acc' accV' R4 rs4 => by
              obtain ⟨p5, R5, x5, e5, o5⟩ := unsets vs (fun v hv => by rw [w2, wipeM_length]; exact (hvs v hv).1) R4
              rw [w1, wipeM_wipeM σm vs vs fun _ z => z, a5 hin, wipe_wipe σ vs vs fun _ z => z] at R5
              have hD5 : D ∈ p5.ο := by rw [o5, R4.oE, o']; exact List.mem_cons_self
              have x6 : Ext p5 (p5.up D (.lst accV')) := ext_wr (.inr (.inr hD5))
              refine ⟨p5.up D (.lst accV'), by show upd p5.H D _ = _; rw [e5], R5.reroot hD5, ((x'.trans R4.ext).trans x5).trans x6, ?_, fun a ha => ?_, upd_same, (rs4.ext x5).ext x6⟩
              · show p5.ο = _
                rw [o5, R4.oE, o']
              · show upd p5.H D _ a = _
                rw [upd_ne fun z => by subst z; exact Dο ha, e5, R4.oK a (by rw [R4.oE, o']; exact List.mem_cons_of_mem _ ha)]
                exact kο a ha
            have hacc : ∀ (q4 : Pt) (mh4 : MH), Rel ⟨X.K, cn⟩ q' q4 σ1 mh4 σ' → q4.H D = some (.lst accV) ∧ RVs ⟨X.K, cn⟩ q4 acc accV := fun q4 mh4 R4 => ⟨by rw [R4.oK D (by rw [R4.oE, o']; exact List.mem_cons_self)]; exact hDa, ra.ext R4.ext⟩
            cases rc : mc σ1 h1 with
            | bad => rw [rc] at k'; exact k'.elim
            | exc c f h2 => rw [rc] at k'; exact k'.elim
            | ok b h2 =>
              rw [rc] at k'
              intro q3 b' R3 x3 eb
              cases eb
              simp only at k'
              cases b with
              | false =>
                rw [if_neg Bool.false_ne_true] at k'
                refine iteF ?_
                obtain ⟨b1, b2⟩ := hacc q3 h2 R3
                obtain ⟨q5, e5, I5⟩ := back q3 h2 acc accV R3 b2
                refine ⟨q5, h2, acc, accV, ?_, I5, hl, k'⟩
                rw [e5]
                funext z
                by_cases hz : z = D
                · rw [hz, upd_same, b1]
                · rw [upd_ne hz]
              | true =>
                rw [if_pos rfl] at k'
                refine iteT ⟨q', q3, σ1, h2, rfl, R3, ?_⟩
                cases rm : m σ1 h2 with
                | bad => rw [rm] at k'; exact k'.elim
                | exc c f h3 => rw [rm] at k'; exact k'.elim
                | ok w h3 =>
                  rw [rm] at k'
                  intro q4 yv R4 x4 ry
                  simp only at k'
                  by_cases hz : acc.length < 16777216
                  · rw [if_pos hz] at k'
                    obtain ⟨b1, b2⟩ := hacc q4 h3 R4
                    have ry' : RV ⟨X.K, cn⟩ q4 w yv := ry
                    obtain ⟨q5, e5, I5⟩ := back q4 h3 (acc ++ [w]) (accV ++ [yv]) R4 (b2.append (.cons ry' .nil))
                    exact ⟨accV, b1, by rw [b2.length, sizeLine_eq]; exact hz, q5, h3, _, _, e5, I5, hl, k'⟩
                  · rw [if_neg hz] at k'; exact k'.elim
          · rw [et] at k'; exact k'.elim
        · have e3 : i = l.length := by omega
          subst e3
          rw [List.drop_length] at k'
          unfold lcC at k'
          have hck : chk ps mh' := by
            by_cases z : chk ps mh'
            · exact z
            · rw [if_neg z] at k'; exact k'.elim
          rw [if_pos hck] at k'
          refine .inl ⟨ok.stop q' _ _ _ _ x' R' hck, ?_⟩
          simp only at k'
          -- the outer point
          have hup : upd (fun b => if b = D then none else q'.H b) D (.lst accV) = q'.H := by
            funext z
            by_cases hz : z = D
            · rw [hz, upd_same, hDa]
            · rw [upd_ne hz, if_neg hz]
          have FD : q'.F D := .inr (.inr (by rw [o']; exact List.mem_cons_self))
          have ωeq : q'.ω = q.ω := by
            apply List.ext_getElem?
            intro j
            by_cases hj : j < σm.length
            · have hj' : j < (wipeM σm vs).length := by rw [wipeM_length]; exact hj
              by_cases hv : j ∈ vs
              · have s1 := R'.slot j _ (wipeM_in hv hj)
                have s2 : q.ω[j]? = some none := by
                  cases hs : σm[j]? with
                  | none => exact absurd (List.getElem?_eq_none_iff.mp hs) (by omega)
                  | some s =>
                    have s3 := Rq.slot j s hs
                    cases s with
                    | unset => exact s3
                    | val v => exact s3.1
                    | own l' => exact absurd hs ((hvs j hv).2 l')
                exact (show q'.ω[j]? = some none from s1).trans s2.symm
              · cases hs : σm[j]? with
                | none => exact absurd (List.getElem?_eq_none_iff.mp hs) (by omega)
                | some s =>
                  have s1 := R'.slot j s (by rw [wipeM_get hv]; exact hs)
                  have s2 := Rq.slot j s hs
                  cases s with
                  | unset => exact (show q'.ω[j]? = some none from s1).trans (show q.ω[j]? = some none from s2).symm
                  | val v => exact s1.1.trans s2.1.symm
                  | own l' =>
                    obtain ⟨a1, _, b1, b2, _⟩ := s1
                    obtain ⟨a2, _, c1, c2, _⟩ := s2
                    rw [wipe_get hv, c2] at b2
                    cases b2
                    exact b1.trans c1.symm
            · rw [List.getElem?_eq_none (by rw [R'.lω, wipeM_length]; omega), List.getElem?_eq_none (by rw [Rq.lω]; omega)]
          have x2 : Ext q' { ι := q'.ι, ω := q'.ω, ο := q.ο, H := fun b => if b = D then none else q'.H b } := by
            refine ⟨fun _ _ h => .inl h, fun a o ha hf => ?_, fun a f => .inl ?_⟩
            · show (if a = D then none else q'.H a) = some o
              rw [if_neg fun z => hf (by rw [z]; exact FD)]; exact ha
            · rcases f with f | f | f
              · exact .inl f
              · exact .inr (.inl f)
              · exact .inr (.inr (by rw [o']; exact List.mem_cons_of_mem _ f))
          have nD : ∀ a, a ≠ D → (if a = D then none else q'.H a) = q'.H a := fun a h => if_neg h
          have ιD : ∀ (n : Nat) (a : Addr), q'.ι[n]? = some (some a) → a ≠ D := fun n a e z => R'.h.sep.io n a e (by rw [z, o']; exact List.mem_cons_self)
          have ωD : ∀ (n : Nat) (a : Addr), q'.ω[n]? = some (some a) → a ≠ D := fun n a e z => R'.h.sep.wo n a e (by rw [z, o']; exact List.mem_cons_self)
          have Rr : Rel ⟨X.K, cn⟩ E { ι := q'.ι, ω := q'.ω, ο := q.ο, H := fun b => if b = D then none else q'.H b } σm mh' σ := by
            refine ⟨⟨R'.h.li, fun n u e => ?_, ⟨R'.h.sep.ii, R'.h.sep.ww, R'.h.sep.iw, fun n a e z => ?_, fun n a e z => ?_⟩, fun a f => ?_⟩, Rq.lσ, by rw [ωeq]; exact Rq.lω, fun j s hs => ?_, (Rq.ext.trans x').trans x2, Rq.oE, fun a ha => ?_⟩
            · rcases R'.h.obj n u e with z | ⟨a, e1, ro⟩
              · exact .inl z
              · exact .inr ⟨a, e1, ro.ext x2 (nD a (ιD n a e1))⟩
            · exact R'.h.sep.io n a e (by rw [o']; exact List.mem_cons_of_mem _ z)
            · exact R'.h.sep.wo n a e (by rw [o']; exact List.mem_cons_of_mem _ z)
            · show (if a = D then none else q'.H a) ≠ none
              rcases f with f | f | f
              · obtain ⟨n, hn⟩ := List.getElem?_of_mem f
                rw [nD a (ιD n a hn)]; exact R'.h.hF a (.inl f)
              · obtain ⟨n, hn⟩ := List.getElem?_of_mem f
                rw [nD a (ωD n a hn)]; exact R'.h.hF a (.inr (.inl f))
              · rw [nD a fun z => Dο (by rw [← z]; exact f)]; exact R'.h.hF a (.inr (.inr (by rw [o']; exact List.mem_cons_of_mem _ f)))
            · by_cases hv : j ∈ vs
              · have s2 := Rq.slot j s hs
                cases s with
                | unset =>
                  show q'.ω[j]? = some none
                  rw [ωeq]; exact s2
                | val v =>
                  obtain ⟨c1, z, c2, c3⟩ := s2
                  exact ⟨by show q'.ω[j]? = some none; rw [ωeq]; exact c1, z, c2, c3.ext (x'.trans x2)⟩
                | own l' => exact absurd hs ((hvs j hv).2 l')
              · have s1 := R'.slot j s (by rw [wipeM_get hv]; exact hs)
                cases s with
                | unset => exact s1
                | val v =>
                  obtain ⟨c1, z, c2, c3⟩ := s1
                  rw [wipe_get hv] at c2
                  exact ⟨c1, z, c2, c3.ext x2⟩
                | own l' =>
                  obtain ⟨a, us, c1, c2, c3, c4⟩ := s1
                  rw [wipe_get hv] at c2
                  exact ⟨a, us, c1, c2, (nD a (ωD j a c1)).trans c3, c4.ext x2⟩
            · show (if a = D then none else q'.H a) = E.H a
              rw [nD a fun z => Dο (by rw [← z]; exact ha), kο a ha]
              exact Rq.oK a ha
          have := k' _ D accV Rr (x'.trans x2) (if_pos rfl) (ra.ext x2)
          rw [← hup]
          exact this
    · rw [if_neg hok] at k; exact k.elim

variable {elt : Expr} {ifs : List Expr} {scope : Scope} {own : List (Str × Nat)}
theorem f_lcC {t : Tg} {mi : ME (List Val × Pins)} {mc : ME Bool} {m : ME Val} (hc : X.calm = true) (hN : X.N.Nodup) (hi : IMC X cn W tg iter mi) (ok : BlkOk X.N X.env.scope scope own) (hin : tgIn (own.map (·.2)) t = true)
    (hg : ∀ (s : Shared) (H : Hp) (C : Addr) (cl : List (Str × Addr)) (fp : List Addr), TgP (X.blk s H scope (compEnvC scope cl C X.env) fp) tg t)
    (ht : ∀ (s : Shared) (H : Hp) (C : Addr) (cl : List (Str × Addr)) (fp : List Addr), TsM (X.blk s H scope (compEnvC scope cl C X.env) fp) cn W0 ifs mc)
    (he : ∀ (s : Shared) (H : Hp) (C : Addr) (cl : List (Str × Addr)) (fp : List Addr), EM (X.blk s H scope (compEnvC scope cl C X.env) fp) cn W0 elt m) (hs : ∀ x, foldedSetIterable iter X.env x = pure x := by intro _; rfl) :
    EF X cn W (.ListComp elt [⟨tg, iter, ifs, 0⟩] scope pos) (mLcC (own.map (·.2)) mi t mc m) := PE.wk (pe_lc (g := tgR X.K t) (tt := tG RB ⟨X.K, cn⟩ W0 mc) (te := tG RVr ⟨X.K, cn⟩ W0 m) hc hN hi ok hg ht he hs) fun σ H Q h => tLcC_of hin h
/-- name = [..], the name a local: as a value, as its own -/
theorem s_setLcC (i : Nat) {y : Str} {py spos : Pos} {t : Tg} {mi : ME (List Val × Pins)} {mc : ME Bool} {m : ME Val} (hc : X.calm = true) (hN : X.N.Nodup) (hy : X.N[i]? = some y) (hyl : X.env.scope.names.lookup y = some .local)
    (hsw : swapsWith (.ListComp elt [⟨tg, iter, ifs, 0⟩] scope pos) (some (.Name y py)) spos.line X.env = pure true) (hi : IMC X cn W tg iter mi) (ok : BlkOk X.N X.env.scope scope own) (hin : tgIn (own.map (·.2)) t = true)
    (hg : ∀ (s : Shared) (H : Hp) (C : Addr) (cl : List (Str × Addr)) (fp : List Addr), TgP (X.blk s H scope (compEnvC scope cl C X.env) fp) tg t)
    (ht : ∀ (s : Shared) (H : Hp) (C : Addr) (cl : List (Str × Addr)) (fp : List Addr), TsM (X.blk s H scope (compEnvC scope cl C X.env) fp) cn W0 ifs mc)
    (he : ∀ (s : Shared) (H : Hp) (C : Addr) (cl : List (Str × Addr)) (fp : List Addr), EM (X.blk s H scope (compEnvC scope cl C X.env) fp) cn W0 elt m) (hs : ∀ x, foldedSetIterable iter X.env x = pure x := by intro _; rfl) :
    SM X cn W (.Assign [.Name y py] (.ListComp elt [⟨tg, iter, ifs, 0⟩] scope pos) spos) (sSet i (mMap Val.lst (mLcC (own.map (·.2)) mi t mc m))) := PS.wk (ps_setLc (g := tgR X.K t) (tt := tG RB ⟨X.K, cn⟩ W0 mc) (te := tG RVr ⟨X.K, cn⟩ W0 m) hc hN hy hyl hsw hi ok hg ht he hs) fun D σ H ⟨E, p, σm, mh, e1, R, k⟩ => by
  refine tLcC_of (W := W) hin ⟨E, p, σm, mh, e1, R, ?_⟩
  unfold sSet mMap at k
  cases r : mLcC (own.map (·.2)) mi t mc m σm mh with
  | ok l h =>
    rw [r] at k
    intro q a vs R1 x1 hn rv
    simp only [Res.bind, ofE] at k
    by_cases z : i < σm.length
    · rw [if_pos z] at k
      exact k ((q.up a (.lst vs)).un i) _ ((R1.up hn).setV z (rv_lst R1.h hn rv)) ((x1.trans (ext_up hn)).trans ext_un)
    · rw [if_neg z] at k; exact k.elim
  | exc c f h => rw [r] at k; exact fun q cls d R1 x1 rx => k q σ cls d R1 x1 rx
  | bad => rw [r] at k; exact k
theorem s_setLcCO (i : Nat) {y : Str} {py spos : Pos} {t : Tg} {mi : ME (List Val × Pins)} {mc : ME Bool} {m : ME Val} (hc : X.calm = true) (hN : X.N.Nodup) (hy : X.N[i]? = some y) (hyl : X.env.scope.names.lookup y = some .local)
    (hsw : swapsWith (.ListComp elt [⟨tg, iter, ifs, 0⟩] scope pos) (some (.Name y py)) spos.line X.env = pure true) (hi : IMC X cn W tg iter mi) (ok : BlkOk X.N X.env.scope scope own) (hin : tgIn (own.map (·.2)) t = true)
    (hg : ∀ (s : Shared) (H : Hp) (C : Addr) (cl : List (Str × Addr)) (fp : List Addr), TgP (X.blk s H scope (compEnvC scope cl C X.env) fp) tg t)
    (ht : ∀ (s : Shared) (H : Hp) (C : Addr) (cl : List (Str × Addr)) (fp : List Addr), TsM (X.blk s H scope (compEnvC scope cl C X.env) fp) cn W0 ifs mc)
    (he : ∀ (s : Shared) (H : Hp) (C : Addr) (cl : List (Str × Addr)) (fp : List Addr), EM (X.blk s H scope (compEnvC scope cl C X.env) fp) cn W0 elt m) (hs : ∀ x, foldedSetIterable iter X.env x = pure x := by intro _; rfl) :
    SM X cn W (.Assign [.Name y py] (.ListComp elt [⟨tg, iter, ifs, 0⟩] scope pos) spos) (sSetO i (mLcC (own.map (·.2)) mi t mc m)) := PS.wk (ps_setLc (g := tgR X.K t) (tt := tG RB ⟨X.K, cn⟩ W0 mc) (te := tG RVr ⟨X.K, cn⟩ W0 m) hc hN hy hyl hsw hi ok hg ht he hs) fun D σ H h => tLcC_of hin (tFr_ow h)
end
/-- what stands over an iterable, and what must stay -/
def seqOfH (h : MH) : Val → Option (List Val × Pins)
  | .ref n => match h[n]? with
    | some (.lst l) => some (l, [(n, l)])
    | _ => none
  | .ktp l => some (l, [])
  | v => (seqOf v).map fun l => (l, [])
def SrcOkC (C : Cn) (q : Pt) (sc : Sc) (l : List Val) (ps : Pins) : Prop := ∀ (q' E : Pt) (σm : Env) (mh : MH) (σ : L2.St), Ext q q' → Rel C E q' σm mh σ → chk ps mh → ∃ xs, sc.vs C.K q'.H xs ∧ RVs C q' l xs
theorem SrcOkC.mono {C : Cn} {q : Pt} {sc : Sc} {l : List Val} {ps qs : Pins} (s : SrcOkC C q sc l ps) (m : ∀ h, chk qs h → chk ps h) : SrcOkC C q sc l qs := fun q' E σm mh σ x R c => s q' E σm mh σ x R (m _ c)
theorem srcC {C : Cn} {q E : Pt} {σm : Env} {mh : MH} {σ : L2.St} {v : Val} {x : V} {l : List Val} {ps : Pins} {J : Sc → Prop} (R : Rel C E q σm mh σ) (rv : RV C q v x) (e : seqOfH mh v = some (l, ps)) (hj : ∀ sc, SrcOkC C q sc l ps → J sc) : ScV C.K q.H x J := by
  have old : ∀ v, RV C q v x → (seqOf v).map (fun l => ((l, []) : List Val × Pins)) = some (l, ps) → ScV C.K q.H x J := fun v rv e => by
    cases z : seqOf v with
    | none => rw [z] at e; cases e
    | some l' =>
      rw [z] at e
      cases e
      exact src rv z fun sc so => hj sc fun q' E σm mh σ x' _ _ => so q' x'
  cases v with
  | ref n =>
    unfold seqOfH at e
    simp only at e
    cases z : mh[n]? with
    | none => rw [z] at e; cases e
    | some o =>
      rw [z] at e
      cases o with
      | lst l' =>
        cases e
        obtain ⟨a, vs, rfl, h1, h2⟩ := ref_list R rv z
        refine .inl ⟨a, vs, rfl, h1, hj _ fun q' E' σm' mh' σ' x' R' c => ?_⟩
        obtain ⟨a', ws, e3, g1, g2⟩ := ref_list R' (RV.ext x' rv) c.1
        cases e3
        exact ⟨ws, g1, g2⟩
      | _ => cases e
  | ktp m =>
    cases e
    unfold RV at rv
    obtain ⟨a, vs, rfl, h1, h2⟩ := rv
    exact .inr (.inl ⟨a, vs, rfl, h1.sq, hj _ fun q' E' σm' mh' σ' x' R' c => ⟨vs, h1.sq, h2.ext x'⟩⟩)
  | lst m => exact old _ rv e
  | tup m => exact old _ rv e
  | str m => exact old _ rv e
  | _ => cases e
theorem okC_enum {C : Cn} {q : Pt} {sc : Sc} {l : List Val} {ps : Pins} (h : SrcOkC C q sc l ps) : ItOkC C q (ItE C.K sc) (enumF 0 l) ps := by
  refine ⟨fun q' i E σm mh σ x' R c hi => ?_, fun q' i x H' v E σm mh σ x' R c ev y => ?_, fun q' E σm mh σ x' R c => ?_⟩
  · obtain ⟨xs, a, b⟩ := h q' E σm mh σ x' R c
    rw [enumF_len] at hi
    have hi' : i < xs.length := by rw [b.length]; exact hi
    exact ⟨xs, xs[i], a, List.getElem?_eq_getElem hi'⟩
  · obtain ⟨T, z, rfl, hn, e, g⟩ := y
    obtain ⟨xs, a, b⟩ := h q' E σm mh σ x' R c
    rw [enumF_get, Nat.zero_add] at ev
    cases hl : l[i]? with
    | none => rw [hl] at ev; cases ev
    | some w =>
      rw [hl] at ev
      cases ev
      obtain ⟨y, hy, ry⟩ := b.get hl
      rw [g xs a] at hy; cases hy
      exact .inr ⟨T, _, _, hn, e, rfl, rfl, .cons (by unfold RV; rfl) (.cons ry .nil)⟩
  · obtain ⟨xs, a, b⟩ := h q' E σm mh σ x' R c
    exact ⟨xs, a, by rw [b.length, enumF_len]⟩
theorem okC_zip {C : Cn} {q : Pt} {c d : Sc} {l m : List Val} {ps qs : Pins} (h : SrcOkC C q c l ps) (k : SrcOkC C q d m qs) : ItOkC C q (ItZ C.K c d) (zipF l m) (ps ++ qs) := by
  refine ⟨fun q' i E σm mh σ x' R cc hi => ?_, fun q' i x H' v E σm mh σ x' R cc ev y => ?_, fun q' E σm mh σ x' R cc => ?_⟩
  · obtain ⟨xs, a, b⟩ := h q' E σm mh σ x' R (chk_app.mp cc).1
    obtain ⟨ys, a2, b2⟩ := k q' E σm mh σ x' R (chk_app.mp cc).2
    simp only [zipF, List.length_zipWith] at hi
    have h1 : i < xs.length := by rw [b.length]; omega
    have h2 : i < ys.length := by rw [b2.length]; omega
    exact ⟨xs, ys, xs[i], ys[i], a, a2, List.getElem?_eq_getElem h1, List.getElem?_eq_getElem h2⟩
  · obtain ⟨T, z, z2, rfl, hn, e, g, g2⟩ := y
    obtain ⟨xs, a, b⟩ := h q' E σm mh σ x' R (chk_app.mp cc).1
    obtain ⟨ys, a2, b2⟩ := k q' E σm mh σ x' R (chk_app.mp cc).2
    simp only [zipF, List.getElem?_zipWith] at ev
    cases hl : l[i]? with
    | none => rw [hl] at ev; cases ev
    | some w =>
      cases hm : m[i]? with
      | none => rw [hl, hm] at ev; cases ev
      | some w2 =>
        rw [hl, hm] at ev
        cases ev
        obtain ⟨y, hy, ry⟩ := b.get hl
        rw [g xs a] at hy; cases hy
        obtain ⟨y2, hy2, ry2⟩ := b2.get hm
        rw [g2 ys a2] at hy2; cases hy2
        exact .inr ⟨T, _, _, hn, e, rfl, rfl, .cons ry (.cons ry2 .nil)⟩
  · obtain ⟨xs, a, b⟩ := h q' E σm mh σ x' R (chk_app.mp cc).1
    obtain ⟨ys, a2, b2⟩ := k q' E σm mh σ x' R (chk_app.mp cc).2
    exact ⟨xs, ys, a, a2, by rw [b.length, b2.length]; simp [zipF]⟩
def mEnumC (m : ME Val) : ME (List Val × Pins) := fun σ h => (m σ h).bind fun v h1 => match seqOfH h1 v with
  | some (l, ps) => .ok (enumF 0 l, ps) h1
  | none => .bad
def mZipC (m n : ME Val) : ME (List Val × Pins) := fun σ h => (m σ h).bind fun v h1 => (n σ h1).bind fun w h2 => match seqOfH h2 v, seqOfH h2 w with
  | some (l, ps), some (k, qs) => .ok (zipF l k, ps ++ qs) h2
  | _, _ => .bad
/-- a list by its number -/
def mIterC (m : ME Val) : ME (List Val × Pins) := fun σ h => (m σ h).bind fun v h1 => match v with
  | .ref n => match h1[n]? with
    | some (.lst l) => .ok (l, [(n, l)]) h1
    | _ => .bad
  | _ => .bad
section
variable {X : Cx} {cn : String → Addr} {W : WX} {tg e e2 : Expr} {p0 pos tpos : Pos} {elts : List Expr} {kk : Nat}
theorem i_seqC {m : ME Val} (he : EM X cn W e m) : IMC X cn W tg e (mIterC m) := PI.wk (pi_list he) fun σ H K ⟨E, p, σm, mh, e1, R, k⟩ => ⟨E, p, σm, mh, e1, R, by
  unfold mIterC at k
  cases r : m σm mh with
  | bad => rw [r] at k; exact k.elim
  | exc c f h => rw [r] at k; exact fun q cls d R1 x1 rx => k q cls d R1 x1 rx
  | ok v h =>
    rw [r] at k
    simp only [Res.bind] at k
    cases v with
    | ref n =>
      simp only at k
      intro q x R1 x1 rv
      cases z : h[n]? with
      | none => rw [z] at k; exact k.elim
      | some o =>
        cases o with
        | lst l =>
          rw [z] at k
          have rv' : RV ⟨X.K, cn⟩ q (.ref n) x := rv
          obtain ⟨a, vs, rfl, h1, h2⟩ := ref_list R1 rv' z
          have so : ∀ (q' E : Pt) (σm : Env) (mh : MH) (σ : L2.St), Ext q q' → Rel ⟨X.K, cn⟩ E q' σm mh σ → chk [(n, l)] mh → ∃ xs, SqL X.K q'.H a xs ∧ RVs ⟨X.K, cn⟩ q' l xs := fun q' E' σm' mh' σ' x' R' c => by
            obtain ⟨a', ws, e3, g1, g2⟩ := ref_list R' (RV.ext x' rv') c.1
            cases e3
            exact ⟨ws, g1, g2⟩
          refine ⟨a, rfl, ⟨vs, h1⟩, k q _ R1 x1 ⟨fun q' i E' σm' mh' σ' x' R' c hi => ?_, fun q' i x H' v E' σm' mh' σ' x' R' c ev y => ?_, fun q' E' σm' mh' σ' x' R' c => ?_⟩⟩
          · obtain ⟨xs, g1, g2⟩ := so q' E' σm' mh' σ' x' R' c
            have hi' : i < xs.length := by rw [g2.length]; exact hi
            exact ⟨xs, xs[i], g1, List.getElem?_eq_getElem hi'⟩
          · obtain ⟨xs, g1, g2⟩ := so q' E' σm' mh' σ' x' R' c
            obtain ⟨e2, y⟩ := y
            obtain ⟨z, hz, rz⟩ := g2.get ev
            have hx := y xs g1
            rw [hx] at hz; cases hz
            exact .inl ⟨e2, rz⟩
          · obtain ⟨xs, g1, g2⟩ := so q' E' σm' mh' σ' x' R' c
            exact ⟨xs, g1, by rw [g2.length]; exact Nat.le_refl _⟩
        | _ => rw [z] at k; exact k.elim
    | _ => exact k.elim⟩
theorem i_enumC {m : ME Val} (hm : X.mg "enumerate" = none) (he : EM X cn W e m) (hg : Gl X "enumerate" := by rfl) (hs : starEach [e] X.env = [(false, eval e X.env)] := by rfl) : IMC X cn W (.Tuple elts kk tpos) (.Call (.Name "enumerate" p0) [e] [] pos) (mEnumC m) :=
  PI.wk (pi_E hg hm (pa_cons he pa_nil (by rw [hs]; rfl)) hs) fun σ H K ⟨E, p, σm, mh, e1, R, k⟩ => ⟨E, p, σm, mh, e1, R, by
    unfold mEnumC at k
    cases r : m σm mh with
    | bad => rw [r] at k; exact k.elim
    | exc c f h => rw [r] at k; exact fun q cls d R1 x1 rx => k q cls d R1 x1 rx
    | ok v h =>
      rw [r] at k
      simp only [Res.bind] at k
      intro q x R1 x1 rv
      cases hv : seqOfH h v with
      | none => rw [hv] at k; exact k.elim
      | some lp =>
        obtain ⟨l, ps⟩ := lp
        rw [hv] at k
        exact ⟨x, rfl, srcC R1 rv hv fun sc so => k q _ R1 x1 (okC_enum so)⟩⟩
theorem i_zipC {m n : ME Val} (hm : X.mg "zip" = none) (he : EM X cn W e m) (h2 : EM X cn W e2 n) (hg : Gl X "zip" := by rfl)
    (hs : starEach [e, e2] X.env = (false, eval e X.env) :: starEach [e2] X.env := by rfl) (hs2 : starEach [e2] X.env = [(false, eval e2 X.env)] := by rfl) (hpl : (backTo pos (starEach [e2] X.env)).any (·.1) = false := by rfl) : IMC X cn W (.Tuple elts kk tpos) (.Call (.Name "zip" p0) [e, e2] [] pos) (mZipC m n) :=
  PI.wk (pi_Z hg hm (pa_cons he (pa_cons h2 pa_nil (by rw [hs2]; rfl)) hs) hs hpl) fun σ H K ⟨E, p, σm, mh, e1, R, k⟩ => ⟨E, p, σm, mh, e1, R, by
    unfold mZipC at k
    cases r : m σm mh with
    | bad => rw [r] at k; exact k.elim
    | exc c f h => rw [r] at k; exact fun q cls d R1 x1 rx => k q cls d R1 x1 rx
    | ok v h =>
      rw [r] at k
      simp only [Res.bind] at k
      intro q x R1 x1 rv
      refine ⟨E, q, σm, h, rfl, R1, ?_⟩
      cases r2 : n σm h with
      | bad => rw [r2] at k; exact k.elim
      | exc c f h => rw [r2] at k; exact fun q2 cls d R2 x2 rx => k q2 cls d R2 (x1.trans x2) rx
      | ok w h2 =>
        rw [r2] at k
        simp only at k
        intro q2 y R2 x2 rw'
        cases hv : seqOfH h2 v with
        | none => rw [hv] at k; exact k.elim
        | some lp =>
          obtain ⟨l, ps⟩ := lp
          cases hw : seqOfH h2 w with
          | none => rw [hv, hw] at k; exact k.elim
          | some lp2 =>
            obtain ⟨l2, qs⟩ := lp2
            rw [hv, hw] at k
            exact ⟨x, y, rfl, srcC R2 (RV.ext x2 rv) hv fun c so => srcC R2 rw' hw fun d so2 => k q2 _ R2 (x1.trans x2) (okC_zip so so2)⟩⟩
end
theorem lcC_eq {ps : Pins} {t : Tg} {c : ME Bool} {m : ME Val} {h : MH} (hc : chk ps h) {σ : Env} : ∀ (l acc : List Val) (ys : List Val), (∀ v ∈ l, @gW (tgM t) v σ h ⟨fun σ1 h1 => h1 = h ∧ @Res.wp _ (c σ1 h) ⟨fun b h2 => h2 = h ∧ (b = true → @Res.wp _ (m σ1 h) ⟨fun y h3 => h3 = h⟩ noX)⟩ noX, fun _ _ => False, fun _ _ => False, fun _ _ => False, fun _ _ _ _ => False⟩) → lcC ps t c m l acc σ h = lcL t c m l acc σ h
  | [], acc, ys, _ => by unfold lcC lcL; rw [if_pos hc]
  | v :: l, acc, ys, hv => by
    have w := hv v List.mem_cons_self
    unfold gW at w
    unfold lcC lcL
    rw [if_pos hc]
    cases r0 : tgM t v σ h with
    | next σ1 h1 =>
      rw [r0] at w
      obtain ⟨rfl, w⟩ := w
      simp only
      cases r1 : c σ1 h1 with
      | ok b h2 =>
        rw [r1] at w
        obtain ⟨rfl, w⟩ := w
        simp only
        cases b with
        | false =>
          rw [if_neg Bool.false_ne_true, if_neg Bool.false_ne_true]
          exact lcC_eq hc l acc ys fun v hv' => hv v (List.mem_cons_of_mem _ hv')
        | true =>
          rw [if_pos rfl, if_pos rfl]
          have w := w rfl
          cases r2 : m σ1 h2 with
          | ok y h3 =>
            rw [r2] at w
            have w : h3 = h2 := w
            subst w
            simp only
            rw [lcC_eq hc l (acc ++ [y]) ys fun v hv' => hv v (List.mem_cons_of_mem _ hv')]
          | exc c f h => rfl
          | bad => rfl
      | exc c f h => rfl
      | bad => rfl
    | _ => rfl
theorem lcC_map {ps : Pins} {t : Tg} {c : ME Bool} {m : ME Val} {σ : Env} {h : MH} (hc : chk ps h) (g : Val → Val) (p : Val → Bool) (l acc : List Val) (hl : acc.length + l.length ≤ 16777216)
    (hv : ∀ v ∈ l, @gW (tgM t) v σ h ⟨fun σ1 h1 => h1 = h ∧ @Res.wp _ (c σ1 h) ⟨fun b h2 => b = p v ∧ h2 = h⟩ noX ∧ (p v = true → @Res.wp _ (m σ1 h) ⟨fun y h2 => y = g v ∧ h2 = h⟩ noX), fun _ _ => False, fun _ _ => False, fun _ _ => False, fun _ _ _ _ => False⟩) : lcC ps t c m l acc σ h = .ok (acc ++ (l.filter p).map g) h := by
  rw [lcC_eq hc l acc [] fun v hv' => ?_]
  · exact lc_map g p l acc hl hv
  · have w := hv v hv'
    unfold gW at w ⊢
    cases r0 : plainG (tgM t v σ h) with
    | next σ1 h1 =>
      rw [r0] at w
      obtain ⟨rfl, e2, e3⟩ := w
      refine ⟨rfl, ?_⟩
      have e4 := wp_eq e2
      rw [e4]
      refine ⟨rfl, fun z => ?_⟩
      have e5 := wp_eq (e3 z)
      rw [e5]
      rfl
    | _ => rw [r0] at w; exact w.elim
theorem forC_wp {ps : Pins} {g : MG} {b : MS} (K : KS) (I : List Val → Env → MH → Prop) (stay : ∀ l σ h, I l σ h → chk ps h)
    (st : ∀ v l σ h, I (v :: l) σ h → @gW g v σ h ⟨fun σ h => @SRes.wp (b σ h) ⟨I l, K.rt, K.nx, I l, K.ex⟩, K.rt, K.bk, K.ct, K.ex⟩)
    (en : ∀ σ h, I [] σ h → K.nx σ h) : ∀ (l : List Val) (σ : Env) (h : MH), I l σ h → (forC ps g b l σ h).wp
  | [], σ, h, i => by
    unfold forC
    simp only [if_pos (stay _ _ _ i)]
    exact en σ h i
  | v :: l, σ, h, i => by
    have w := st v l σ h i
    unfold gW at w
    unfold forC
    simp only [if_pos (stay _ _ _ i)]
    cases r : plainG (g v σ h) with
    | next σ1 h1 =>
      rw [r] at w
      have w : @SRes.wp (b σ1 h1) ⟨I l, K.rt, K.nx, I l, K.ex⟩ := w
      simp only
      cases r2 : b σ1 h1 with
      | next σ2 h2 => rw [r2] at w; exact forC_wp K I stay st en l σ2 h2 w
      | cont σ2 h2 => rw [r2] at w; exact forC_wp K I stay st en l σ2 h2 w
      | brk σ2 h2 => rw [r2] at w; exact w
      | ret v h2 => rw [r2] at w; exact w
      | exc c f σ2 h2 => rw [r2] at w; exact w
      | bad => rw [r2] at w; exact w
    | ret v h => rw [r] at w; exact w
    | brk σ h => rw [r] at w; exact w
    | cont σ h => rw [r] at w; exact w
    | exc c f σ h => rw [r] at w; exact w
    | bad => rw [r] at w; exact w
@[simp] theorem seqOfH_ref {n : Nat} {h : MH} : seqOfH h (.ref n) = (lo1 h[n]?).map fun l => (l, [(n, l)]) := by
  unfold seqOfH
  simp only
  cases h[n]? with
  | none => rfl
  | some o => cases o <;> rfl
@[simp] theorem seqOfH_lst {l : List Val} {h : MH} : seqOfH h (.lst l) = some (l, []) := rfl
@[simp] theorem seqOfH_tup {l : List Val} {h : MH} : seqOfH h (.tup l) = some (l, []) := rfl
@[simp] theorem seqOfH_ktp {l : List Val} {h : MH} : seqOfH h (.ktp l) = some (l, []) := rfl
@[simp] theorem seqOfH_str {s : Tx} {h : MH} : seqOfH h (.str s) = some (s.map fun c => .str [c], []) := rfl
section
variable {m n : ME Val} {cb : ME Bool} {b : MS} {σ : Env} {h : MH}
@[simp ↓] theorem wp_IterC [QL : Kt (List Val × Pins)] [X : Kx] : (mIterC m σ h).wp = @Res.wp _ (m σ h) ⟨fun v h1 => @Op _ (rfV v) ⟨fun n h1 => @Op _ (lo1 h1[n]?) ⟨fun l h1 => QL.run (l, [(n, l)]) h1⟩ h1⟩ h1⟩ X := by
  unfold mIterC; simp only [wp_bind]
  cases m σ h with
  | ok v h1 =>
    cases v with
    | ref n =>
      simp only [wp_ok, kt_run, show rfV (.ref n) = some n from rfl, op_some]
      cases h1[n]? with
      | none => rfl
      | some o => cases o <;> rfl
    | _ => rfl
  | _ => rfl
@[simp ↓] theorem wp_EnumC [QL : Kt (List Val × Pins)] [X : Kx] : (mEnumC m σ h).wp = @Res.wp _ (m σ h) ⟨fun v h1 => @Op _ (seqOfH h1 v) ⟨fun l h1 => QL.run (enumF 0 l.1, l.2) h1⟩ h1⟩ X := by
  unfold mEnumC; simp only [wp_bind]
  cases m σ h with
  | ok v h1 =>
    simp only [wp_ok, kt_run]
    cases seqOfH h1 v <;> rfl
  | _ => rfl
@[simp ↓] theorem wp_ZipC [QL : Kt (List Val × Pins)] [X : Kx] : (mZipC m n σ h).wp = @Res.wp _ (m σ h) ⟨fun v h1 => @Res.wp _ (n σ h1) ⟨fun w h2 => @Op _ (seqOfH h2 v) ⟨fun l h2 => @Op _ (seqOfH h2 w) ⟨fun k h2 => QL.run (zipF l.1 k.1, l.2 ++ k.2) h2⟩ h2⟩ h2⟩ X⟩ X := by
  unfold mZipC
  cases m σ h with
  | ok v h1 =>
    simp only [rb_ok, wp_ok, kt_run]
    cases n σ h1 with
    | ok w h2 =>
      simp only [rb_ok, wp_ok, kt_run]
      cases seqOfH h2 v with
      | none => rfl
      | some l =>
        obtain ⟨l, ps⟩ := l
        show _ = @Op _ (seqOfH h2 w) ⟨fun k h2 => QL.run (zipF l k.1, ps ++ k.2) h2⟩ h2
        cases seqOfH h2 w with
        | none => rfl
        | some k => obtain ⟨k, qs⟩ := k; rfl
    | _ => rfl
  | _ => rfl
@[simp ↓] theorem wp_LcC [QL : Kt (List Val)] [X : Kx] {vs : List Nat} {mi : ME (List Val × Pins)} {t : Tg} : (mLcC vs mi t cb m σ h).wp = @Res.wp _ (mi σ h) ⟨fun l h1 => @Ch (okWipe σ vs = true) _ ⟨(lcC l.2 t cb m l.1 [] (wipeM σ vs) h1).wp, False⟩⟩ X := by
  unfold mLcC; simp only [wp_bind]
  cases mi σ h with
  | ok l h1 => by_cases z : okWipe σ vs = true <;> simp [z]
  | _ => rfl
@[simp ↓] theorem sw_ForC [K : KS] {it : ME (List Val × Pins)} {g : MG} : (sForC it g b σ h).wp = @Res.wp _ (it σ h) ⟨fun l h1 => (forC l.2 g b l.1 σ h1).wp⟩ (K.x σ) := by unfold sForC; rw [swp_ofE]
end
end Mi
/-! Mi28: the module's own tuples. -/
namespace Mi
open PySem L2 PyProof.Rows
section
variable {X : Cx} {cn : String → Addr} {W : WX} {pos : Pos} {x : Str}
theorem rvs_nil (K : PySem.W.Frag) (cn : String → Addr) : ∀ p, RVs ⟨K, cn⟩ p [] [] := fun _ => .nil
theorem rvs_str {K : PySem.W.Frag} {cn : String → Addr} {y : Str} {l : Tx} {m : List Val} {vs : List V} (hl : y = S l) (r : ∀ p, RVs ⟨K, cn⟩ p m vs) : ∀ p, RVs ⟨K, cn⟩ p (.str l :: m) (.str y :: vs) := fun p => .cons (by unfold RV; rw [hl]) (r p)
theorem rvs_int {K : PySem.W.Frag} {cn : String → Addr} {i : Int} {m : List Val} {vs : List V} (r : ∀ p, RVs ⟨K, cn⟩ p m vs) : ∀ p, RVs ⟨K, cn⟩ p (.int i :: m) (.int i :: vs) := fun p => .cons (by unfold RV; rfl) (r p)
/-- a tuple that the module names -/
theorem e_gT {l : List Val} {vs : List V} (h : ∃ a, X.mg x = some (.ref a) ∧ KT X.K a vs) (r : ∀ p, RVs ⟨X.K, cn⟩ p l vs) (hg : Gl X x := by rfl) (hd : (x == ("__debug__" : Str)) = false := by decide) : EM X cn W (.Name x pos) (mC (.ktp l)) := by
  obtain ⟨a, h, t⟩ := h
  exact e_glob (y := .ref a) hg h rfl (fun p => by unfold RV; exact ⟨a, vs, rfl, t, r p⟩) hd
theorem kt_mk {K : PySem.W.Frag} {a : Addr} {vs : List V} {us : List Value} {od : Option Addr} {n : Nat} {sl : Array (Option Value)} (h : K.lookup a = some ⟨.type "tuple", od, .seq us.toArray n, sl⟩) (hs : us.length ≤ 1000) (r : Vals vs us) : KT K a vs :=
  ⟨_, us.toArray, n, h, rfl, rfl, by rw [List.size_toArray]; exact Nat.le_trans hs (by decide), by simpa using r⟩
theorem vals_str {y : Str} {t : Tok} {vs : List V} {us : List Value} (r : Vals vs us) : Vals (.str y :: vs) (.str y t :: us) := .cons ⟨t, rfl⟩ r
theorem vals_int {i : Int} {t : Tok} {vs : List V} {us : List Value} (r : Vals vs us) : Vals (.int i :: vs) (.int i t :: us) := .cons ⟨t, rfl⟩ r
end
end Mi
/-! Mi29: truths as numbers; a tuple turned. -/
namespace Mi
open PySem PySem.Spec L2 PyProof.Rows
section
variable {prog : Program} {w : World} {A : Around} {E : Value → Shared → Prop} {s : Shared} {b : Bool} {a : Int} {t : Tok}
theorem gv_addb : Gives (Builtin.«int.__add__» ⟨[.bool b, .int a t], []⟩) (.int ((if b = true then (1 : Int) else 0) + a)) :=
  .of_wp fun M A E s Q h => by obtain ⟨hp, g, d, tk, os⟩ := s; wp_walk; exact ⟨_, rfl, h⟩
theorem gv_subb : Gives (Builtin.«int.__sub__» ⟨[.bool b, .int a t], []⟩) (.int ((if b = true then (1 : Int) else 0) - a)) :=
  .of_wp fun M A E s Q h => by obtain ⟨hp, g, d, tk, os⟩ := s; wp_walk; exact ⟨_, rfl, h⟩
theorem gv_negb : Gives (Builtin.«int.__neg__» ⟨[.bool b], []⟩) (.int (-(if b = true then (1 : Int) else 0))) :=
  .of_wp fun M A E s Q h => by obtain ⟨hp, g, d, tk, os⟩ := s; wp_walk; exact ⟨_, rfl, h⟩
theorem nsub_int_bool : isSubtype (.type "int") (.type "bool") = pure false := by kernel_rfl
theorem add_bool_int {Q : Value → Shared → Prop} (h : Q (.int ((if b = true then (1 : Int) else 0) + a) s.toks) { s with toks := s.toks + 1 }) : wpAny (model prog w) A (binaryOp .Add (.bool b) (.int a t)) Q E s :=
  binaryOp_left_gives (op := .Add) (T := "bool") (U := "int") (by decide) rfl (fun s' => typeIs_int s' a t) F.fills_bool_add F.fills_int_add nsub_int_bool F.slot_bool_add F.slot_int_radd F.entry_int_add (F.args_int_add_2 _ _) gv_addb trivial h
theorem sub_bool_int {Q : Value → Shared → Prop} (h : Q (.int ((if b = true then (1 : Int) else 0) - a) s.toks) { s with toks := s.toks + 1 }) : wpAny (model prog w) A (binaryOp .Sub (.bool b) (.int a t)) Q E s :=
  binaryOp_left_gives (op := .Sub) (T := "bool") (U := "int") (by decide) rfl (fun s' => typeIs_int s' a t) F.fills_bool_sub F.fills_int_sub nsub_int_bool F.slot_bool_sub F.slot_int_rsub F.entry_int_sub (F.args_int_sub_2 _ _) gv_subb trivial h
theorem neg_bool {Q : Value → Shared → Prop} (h : Q (.int (-(if b = true then (1 : Int) else 0)) s.toks) { s with toks := s.toks + 1 }) : wpAny (model prog w) A (unaryOp .USub (.bool b)) Q E s :=
  unaryOp_gives (op := .USub) (T := "bool") rfl rfl F.slot_bool_neg F.entry_int_neg (F.args_int_neg_1 _) gv_negb h
end
def nb (b : Bool) : Int := if b = true then 1 else 0
def numV : Val → Option Int
  | .int i => some i
  | .bl b => some (nb b)
  | _ => none
@[simp] theorem numV_int {i : Int} : numV (.int i) = some i := rfl
@[simp] theorem numV_bl {b : Bool} : numV (.bl b) = some (nb b) := rfl
def numOp (g : Int → Int → Int) (x y : Val) (h : MH) : Res Val := match numV x, y with
  | some i, .int j => .ok (.int (g i j)) h
  | _, _ => .bad
@[simp] theorem numOp_e {g : Int → Int → Int} {x : Val} {i j : Int} {h : MH} (e : numV x = some i) : numOp g x (.int j) h = .ok (.int (g i j)) h := by unfold numOp; rw [e]
def opAddN : Val → Val → MH → Res Val := numOp (· + ·)
def opSubN : Val → Val → MH → Res Val := numOp (· - ·)
@[simp] theorem opAddN_e {x : Val} {i j : Int} {h : MH} (e : numV x = some i) : opAddN x (.int j) h = .ok (.int (i + j)) h := numOp_e e
@[simp] theorem opSubN_e {x : Val} {i j : Int} {h : MH} (e : numV x = some i) : opSubN x (.int j) h = .ok (.int (i - j)) h := numOp_e e
def mNegN (m : ME Val) : ME Val := fun σ h => (m σ h).bind fun x h1 => match numV x with
  | some i => .ok (.int (-i)) h1
  | none => .bad
def rNumB (g : Int → Int → Int) : R2 := fun x y H Q => ∃ (b : Bool) (j : Int), x = .bl b ∧ y = .int j ∧ Q (.int (g (nb b) j)) H
section
variable {X : Cx} {cn : String → Addr} {W : WX} {e a b c : Expr} {pos : Pos} {K : PySem.W.Frag}
theorem op_addB : OpR X (binaryOp .Add) (rNumB (· + ·)) := by
  intro pins s σ H x y v u Q I rx ry h
  obtain ⟨b, j, rfl, rfl, q⟩ := h
  cases rx
  obtain ⟨t, rfl⟩ := ry
  exact add_bool_int ⟨.int _, H, I.tok _, ⟨_, rfl⟩, q⟩
theorem op_subB : OpR X (binaryOp .Sub) (rNumB (· - ·)) := by
  intro pins s σ H x y v u Q I rx ry h
  obtain ⟨b, j, rfl, rfl, q⟩ := h
  cases rx
  obtain ⟨t, rfl⟩ := ry
  exact sub_bool_int ⟨.int _, H, I.tok _, ⟨_, rfl⟩, q⟩
def rNum (g : Int → Int → Int) : R2 := fun x y H Q => rI0 (fun i j => .int (g i j)) x y H Q ∨ rNumB g x y H Q
theorem ent_num {g : Int → Int → Int} : Ent2 K cn W (rNum g) (numOp g) := by
  intro E q σm mh σ vx vy x y Q R hx hy k
  unfold numOp at k
  cases vx with
  | int i =>
    cases vy with
    | int j => exact .inl ⟨i, j, hx.int, hy.int, post_fin k R (by unfold RV; rfl)⟩
    | _ => exact k.elim
  | bl b =>
    cases vy with
    | int j => exact .inr ⟨b, j, hx.bl, hy.int, post_fin k R (by unfold RV; rfl)⟩
    | _ => exact k.elim
  | _ => exact k.elim
theorem e_addN {ma mb : ME Val} (ha : ET X cn W a ma) (hb : ET X cn W b mb) : EM X cn W (.BinOp a .Add b pos) (mBin opAddN ma mb) := e_bin (op_add.or op_addB) ent_num ha hb
theorem e_subN {ma mb : ME Val} (ha : ET X cn W a ma) (hb : ET X cn W b mb) : EM X cn W (.BinOp a .Sub b pos) (mBin opSubN ma mb) := e_bin (op_sub.or op_subB) ent_num ha hb
def rNegN : V → Hp → VK → Prop := fun x H Q => (∃ i, x = .int i ∧ Q (.int (-i)) H) ∨ ∃ b, x = .bl b ∧ Q (.int (-(nb b))) H
theorem un_negN : UnR X (unaryOp .USub) rNegN := by
  intro pins s σ H x v Q I rx h
  rcases h with h | ⟨b, rfl, q⟩
  · exact un_neg pins s σ H x v Q I rx h
  · cases rx
    exact neg_bool ⟨.int _, H, I.tok _, ⟨_, rfl⟩, q⟩
theorem e_negN {m : ME Val} (ha : ET X cn W a m) : EM X cn W (.UnaryOp .USub a pos) (mNegN m) := PE.wk (pe_un un_negN ha) fun σ H Q ⟨E, p, σm, mh, e1, R, k⟩ =>
  ⟨E, p, σm, mh, e1, R, k.bind fun v mh1 q x R1 x1 rv k1 => by
    cases v with
    | int i => exact .inl ⟨i, rv.int, post_fin k1 R1 (by unfold RV; rfl)⟩
    | bl b => exact .inr ⟨b, rv.bl, post_fin k1 R1 (by unfold RV; rfl)⟩
    | _ => exact k1.elim⟩
end
section
variable {σ : Env} {h : MH} {m : ME Val}
@[simp ↓] theorem wp_NegN [QV : Kt Val] [X : Kx] : (mNegN m σ h).wp = @Res.wp _ (m σ h) ⟨fun v h1 => @Op _ (numV v) ⟨fun i h1 => QV.run (.int (-i)) h1⟩ h1⟩ X := by
  unfold mNegN; simp only [wp_bind]
  cases m σ h with
  | ok v h1 => simp only [wp_ok, kt_run]; cases numV v <;> rfl
  | _ => rfl
end
end Mi
/-! Mi30: a tuple turned. -/
namespace Mi
open PySem PySem.Spec L2 PyProof PyProof.Rows
section
variable {prog : Program} {w : World} {A : Around} {E : Value → Shared → Prop} {s : Shared}
theorem adj_rev (n : Nat) : Builtin.Slice.sliceAdjust none none (-1) (n : Int) = ((n : Int) - 1, -1) := by
  unfold Builtin.Slice.sliceAdjust
  simp
theorem plc_rev (n : Nat) : Builtin.Slice.slicePlaces ((n : Int) - 1) (-1) (-1) = n := by
  unfold Builtin.Slice.slicePlaces
  by_cases z : n = 0
  · subst z; rfl
  · have h1 : (n : Int) - 1 > -1 := by omega
    simp only [h1, if_true, show ¬ ((-1 : Int) > 0) by decide, if_false]
    rw [show (-(-1) : Int) = 1 from rfl, Int.ediv_one]
    omega
theorem rev_picks (xs : Array Value) : ((List.range xs.size).filterMap fun (m : Nat) => xs[(((xs.size : Nat) : Int) - 1 + (m : Int) * (-1)).toNat]?).toArray = xs.toList.reverse.toArray := by
  congr 1
  have key : ∀ (l : List Nat), (∀ k ∈ l, k < xs.size) → (l.filterMap fun (m : Nat) => xs[(((xs.size : Nat) : Int) - 1 + (m : Int) * (-1)).toNat]?) = l.map fun m => xs.toList.reverse.getD m default := by
    intro l
    induction l with
    | nil => intro _; rfl
    | cons k l ih =>
      intro hk
      have h1 := hk k List.mem_cons_self
      have e1 : (((xs.size : Nat) : Int) - 1 + (k : Int) * (-1)).toNat = xs.size - 1 - k := by omega
      have h2 : xs.size - 1 - k < xs.size := by omega
      have e2 : xs[xs.size - 1 - k]? = some xs[xs.size - 1 - k] := Array.getElem?_eq_getElem h2
      rw [List.filterMap_cons, ih fun j hj => hk j (List.mem_cons_of_mem _ hj)]
      simp only [e1, e2, List.map_cons]
      congr 1
      have h3 : k < xs.toList.reverse.length := by simpa using h1
      rw [List.getD_eq_getElem?_getD, List.getElem?_eq_getElem h3]
      simp
  rw [key _ fun k hk => List.mem_range.mp hk]
  refine List.ext_getElem (by simp) fun i h1 h2 => ?_
  simp at h1 h2
  simp [h1]
theorem tup_rev {t sl : Addr} {items : Array Value} {vl vu vs : Value} {Q : Value → Shared → Prop} (ht : IsTup s.heap t items) (hs : s.heap.IsSliceOf sl vl vu vs) (pl : IsPart vl none) (pu : IsPart vu none) (ps : IsPart vs (some (-1)))
    (h : Q (.ref s.heap.objs.size) { s with heap := s.heap.push { cls := .type "tuple", data := .seq items.toList.reverse.toArray } }) (hsz : items.size ≤ sizeLine) : wpAny (model prog w) A (getItem (.ref t) (.ref sl)) Q E s := by
  have fits : sizeOk (.seq items.toList.reverse.toArray) := by
    show items.toList.reverse.toArray.size ≤ sizeLine
    simpa using hsz
  obtain ⟨os, hos, hcs, hds⟩ := id hs
  have sty : s.TypeIs (.ref sl) "slice" := ⟨os, hos, hcs⟩
  unfold getItem
  try with_reducible refine wpAny_holding ?_
  first | refine wpAny_bind (wpAny_pure ?_) | skip
  refine wpAny_bind (wpAny_sequenceKey ht.typeIs (by decide) ?_)
  refine wpAny_bind (wpAny_callSpecial?_slot (name := Str.ofString "__getitem__") ht.typeIs PyProof.Rows.slot_tuple_getitem (wpAny_call_entry PyProof.Rows.slot_tuple_getitem ht.typeIs entry_tuple_getitem ?_ (args_tuple_getitem _ _)))
  show wpAny _ _ (Builtin.Tuple.tupleItemsOf (.ref t) >>= _) _ _ s
  refine wpAny_bind (tupleItemsOf_ ht (wpAny_bind (wpAny_typeOf sty ?_)))
  rw [if_pos (by decide)]
  have ap : ∀ {R : Int × Int × Nat → Shared → Prop} {E' : Value → Shared → Prop} {A' : Around}, R (((items.size : Nat) : Int) - 1, -1, items.size) s → wpAny (model prog w) A' (Builtin.Slice.sliceApplied (.ref sl) (pure ((items.size : Nat) : Int))) R E' s := by
    intro R E' A' hR
    unfold Builtin.Slice.sliceApplied Builtin.Slice.sliceFields
    refine wpAny_bind (wpAny_bind (wpAny_field hos hds (x := vl) rfl (wpAny_bind (wpAny_field hos hds (x := vu) rfl (wpAny_bind (wpAny_field hos hds (x := vs) rfl (wpAny_pure ?_)))))))
    refine wpAny_bind (HT.slicePart_ ps ?_)
    show wpAny _ _ (if ((-1 : Int) == 0) = true then _ else _) _ _ s
    rw [if_neg (by decide)]
    refine wpAny_bind (HT.slicePart_ pl (wpAny_bind (HT.slicePart_ pu (wpAny_bind (wpAny_pure ?_)))))
    show wpAny _ _ (match Builtin.Slice.sliceAdjust none none (-1) ((items.size : Nat) : Int) with | (lo, hi) => pure (lo, (-1 : Int), Builtin.Slice.slicePlaces lo hi (-1))) _ _ s
    rw [adj_rev]
    simp only
    rw [plc_rev]
    exact wpAny_pure hR
  refine wpAny_bind (ap ?_)
  have no : ¬ (((((items.size : Nat) : Int) - 1) == 0 && (-1 : Int) == 1 && items.size == items.size) = true) := by
    intro q
    rw [Bool.and_eq_true, Bool.and_eq_true] at q
    exact absurd (eq_of_beq q.1.2) (by decide)
  show wpAny _ _ (if ((((items.size : Nat) : Int) - 1) == 0 && (-1 : Int) == 1 && items.size == items.size) = true then _ else _) _ _ s
  rw [if_neg no, rev_picks]
  have last : ∀ {E' : Value → Shared → Prop} {A' : Around}, wpAny (model prog w) A' (Builtin.Tuple.tupleExact items.toList.reverse.toArray) (fun v s' => v = .ref s.heap.objs.size ∧ s' = { s with heap := s.heap.push { cls := .type "tuple", data := .seq items.toList.reverse.toArray } }) E' s := by
    intro E' A'
    first
      | exact wpAny_newObj_type (wpAny_pure ⟨rfl, rfl⟩) fits
      | exact wpAny_newObj_type ⟨rfl, rfl⟩ fits
  refine wpAny_bind (wpAny_mono last (fun v s' hv => ?_) fun _ _ z => z)
  obtain ⟨rfl, rfl⟩ := hv
  exact wpAny_pure ⟨_, rfl, wpAny_pure h⟩
end
/-- t[::-1] of a tuple -/
def tRevT (K : PySem.W.Frag) (te : TE) : TE := fun σ H Q => te σ H fun x H1 => ∃ a xs, x = .ref a ∧ SqT K H1 a xs ∧ ∀ p, H1 p = none → Q (.ref p) (upd H1 p (.tup xs.reverse))
theorem pe_revT {X : Cx} {e : Expr} {te : TE} {k : Nat} {p1 p2 p3 pos : Pos} (he : PE X e te) : PE X (.Subscript e (.Slice none none (some (.UnaryOp .USub (.Constant (.int 1) k p1) p2)) p3) pos) (tRevT X.K te) := by
  refine ⟨fun pins s σ H Q I h => Subscript_ (thn (he.run pins s σ H _ I h) fun v s1 ⟨x, H1, I1, r1, a, xs, ex, hx, q⟩ => ?_)⟩
  subst ex
  cases r1
  have hst : PO X (some (.UnaryOp .USub (.Constant (.int 1) k p1) p2)) (tPart (tUn (rU fun i => .int (-i)) (tC (.int 1)))) := po_some (pe_un un_neg pe_int)
  refine wpAny_Slice (thn (po_none.run pins s1 σ H1 (fun o H2 => o = none ∧ H2 = H1) I1 ⟨rfl, rfl⟩) fun vl s2 ⟨l, H2, I2, pl, el, e2⟩ => ?_)
  subst el e2
  refine thn (po_none.run pins s2 σ H2 (fun o H3 => o = none ∧ H3 = H2) I2 ⟨rfl, rfl⟩) fun vu s3 ⟨u, H3, I3, pu, eu, e3⟩ => ?_
  subst eu e3
  refine thn (hst.run pins s3 σ H3 (fun o H4 => o = some (-1) ∧ H4 = H3) I3 ⟨1, rfl, -1, rfl, rfl, rfl⟩) fun vs s4 ⟨o, H4, I4, ps, eo, e4⟩ => ?_
  subst eo e4
  have I5 : Inv X pins σ H4 { s4 with heap := s4.heap.push ⟨.type "slice", none, .fields #[vl, vu, vs], #[]⟩ } := I4.kept (t' := s4.toks) fun b ob q => Heap.get?_push_of_some _ q
  obtain ⟨its, r, ht, hz⟩ := I5.tuple hx
  show wpAny (model X.prog X.w) X.A (subscriptTail e (.Slice none none (some (.UnaryOp .USub (.Constant (.int 1) k p1) p2)) p3) (.ref a) (.ref s4.heap.objs.size)) (EP X pins σ Q) X.xe _
  refine tail_any (ops := [.ref a, .ref s4.heap.objs.size]) ht.typeIs (PySem.F.slot_tuple_getitem.lookup) ?_ (by with_unfolding_all rfl)
  refine tup_rev ht ⟨_, Heap.get?_push_size _ rfl, rfl, rfl⟩ pl pu ps ?_ ?_
  · refine ⟨.ref _, _, I5.laid (t' := s4.toks) (o := .tup xs.reverse) (fun b ob q => Heap.get?_push_of_some _ q) (Nat.le_refl _) ?_, rfl, q _ (I5.hok.fresh (Nat.le_refl _))⟩
    exact ⟨by rw [List.length_reverse]; exact hz, its.reverse, r.reverse, ⟨_, Heap.get?_push_size _ rfl, rfl, 0, by simp⟩⟩
  · rw [List.size_toArray, ← r.length]
    exact hz
def mRevT (m : ME Val) : ME Val := fun σ h => (m σ h).bind fun v h1 => match v with
  | .tup l => .ok (.tup l.reverse) h1
  | _ => .bad
section
variable {X : Cx} {cn : String → Addr} {W : WX} {e : Expr} {k : Nat} {p1 p2 p3 pos : Pos} {m : ME Val}
theorem e_revT (he : ET X cn W e m) : EM X cn W (.Subscript e (.Slice none none (some (.UnaryOp .USub (.Constant (.int 1) k p1) p2)) p3) pos) (mRevT m) :=
  PE.wk (pe_revT he) fun σ H Q ⟨E, p, σm, mh, e1, R, k⟩ => ⟨E, p, σm, mh, e1, R, k.bind fun v mh1 q x R1 x1 rv k1 => by
    cases v with
    | tup l =>
      obtain ⟨a, vs, rfl, h1, h2⟩ := RVT.tup R1 rv
      exact ⟨a, vs, rfl, h1.sq, fun p hp => k1 (q.up p (.tup vs.reverse)) (.ref p) (R1.up hp) (ext_up hp) (rv_tup R1.h hp h2.reverse)⟩
    | _ => exact k1.elim⟩
end
@[simp ↓] theorem wp_RevT {σ : Env} {h : MH} {m : ME Val} [QV : Kt Val] [X : Kx] : (mRevT m σ h).wp = @Res.wp _ (m σ h) ⟨fun v h1 => @Op _ (tpV v) ⟨fun l h1 => QV.run (.tup l.reverse) h1⟩ h1⟩ X := by
  unfold mRevT; simp only [wp_bind]
  cases m σ h with
  | ok v h1 => cases v <;> rfl
  | _ => rfl
/-- a comprehension, turn by turn -/
theorem lc_nil {t : Tg} {c : ME Bool} {m : ME Val} {acc : List Val} {σ : Env} {h : MH} {Q : Kt (List Val)} {X : Kx} (w : Q.run acc h) : (lcL t c m [] acc σ h).wp := w
theorem lc_cons {t : Tg} {c : ME Bool} {m : ME Val} {v : Val} {l acc : List Val} {σ : Env} {h : MH} {Q : Kt (List Val)} {X : Kx}
    (w : @gW (tgM t) v σ h ⟨fun σ1 h1 => @Res.wp _ (c σ1 h1) ⟨fun b h2 => @Ch (b = true) _ ⟨@Res.wp _ (m σ1 h2) ⟨fun y h3 => @Ch (acc.length < 16777216) _ ⟨(lcL t c m l (acc ++ [y]) σ h3).wp, False⟩⟩ noX, (lcL t c m l acc σ h2).wp⟩⟩ noX, fun _ _ => False, fun _ _ => False, fun _ _ => False, fun _ _ _ _ => False⟩) : (lcL t c m (v :: l) acc σ h).wp := by
  unfold gW at w
  unfold lcL
  cases r0 : tgM t v σ h with
  | next σ1 h1 =>
    rw [r0] at w
    have w : @Res.wp _ (c σ1 h1) ⟨fun b h2 => @Ch (b = true) _ ⟨@Res.wp _ (m σ1 h2) ⟨fun y h3 => @Ch (acc.length < 16777216) _ ⟨(lcL t c m l (acc ++ [y]) σ h3).wp, False⟩⟩ noX, (lcL t c m l acc σ h2).wp⟩⟩ noX := w
    simp only
    cases r : c σ1 h1 with
    | exc c f h => rw [r] at w; exact w.elim
    | bad => rw [r] at w; exact w.elim
    | ok b h2 =>
      rw [r] at w
      have w : @Ch (b = true) _ ⟨_, _⟩ := w
      simp only
      by_cases hb : b = true
      · rw [ch_t hb] at w
        rw [if_pos hb]
        cases r2 : m σ1 h2 with
        | exc c f h => rw [r2] at w; exact w.elim
        | bad => rw [r2] at w; exact w.elim
        | ok y h3 =>
          rw [r2] at w
          have w : @Ch (acc.length < 16777216) _ ⟨_, _⟩ := w
          simp only
          by_cases z : acc.length < 16777216
          · rw [ch_t z] at w
            rw [if_pos z]
            exact w
          · rw [ch_f z] at w
            exact w.elim
      · rw [ch_f hb] at w
        rw [if_neg hb]
        exact w
  | _ => rw [r0] at w; exact w.elim
end Mi
/-! Mi31: a part of a list, as a new list. -/
namespace Mi
open PySem L2 PyProof.Rows
def mSlL (m : ME Val) (lo hi : ME (Option Int)) : ME (List Val) := fun σ h => (m σ h).bind fun v h1 => (lo σ h1).bind fun l h2 => (hi σ h2).bind fun u h3 => match deref h3 v with
  | .lst y => .ok (cutL y l u) h3
  | _ => .bad
section
variable {X : Cx} {cn : String → Addr} {W : WX} {e : Expr} {pos p2 : Pos} {m : ME Val}
theorem f_slice {lo hi : Option Expr} {ml mu : ME (Option Int)} (he : ET X cn W e m) (hl : PM X cn W lo ml) (hu : PM X cn W hi mu) : EF X cn W (.Subscript e (.Slice lo hi none p2) pos) (mSlL m ml mu) :=
  PE.wk (pe_slice sl_list he hl hu) fun σ H Q h => by
    obtain ⟨E, p, σm, mh, e1, R, k⟩ := tFr_mk h
    exact ⟨E, p, σm, mh, e1, R, k.bind fun v mh1 q x R1 x1 rv k1 => ⟨E, q, σm, mh1, rfl, R1, k1.bind fun l mh2 q2 l' R2 x2 el k2 => ⟨E, q2, σm, mh2, rfl, R2, k2.bind fun u mh3 q3 u' R3 x3 eu k3 => by
      cases el
      cases eu
      have rv3 := rv.ext (x2.trans x3)
      cases ex : deref mh3 v with
      | lst y =>
        rw [ex] at k3
        obtain ⟨a, vs, rfl, h1, _, h2⟩ := rv3.list R3 ex
        exact ⟨a, vs, rfl, h1, fun p hp => k3 q3 p _ R3 (Ext.refl q3) hp (h2.cut l u)⟩
      | _ => rw [ex] at k3; exact k3.elim⟩⟩⟩
end
@[simp ↓] theorem wp_SlL {σ : Env} {h : MH} {m : ME Val} {lo hi : ME (Option Int)} [QV : Kt (List Val)] [X : Kx] : (mSlL m lo hi σ h).wp = @Res.wp _ (m σ h) ⟨fun v h1 => @Res.wp _ (lo σ h1) ⟨fun l h2 => @Res.wp _ (hi σ h2) ⟨fun u h3 => @Op _ (lsV (deref h3 v)) ⟨fun y h3 => QV.run (cutL y l u) h3⟩ h3⟩ X⟩ X⟩ X := by
  unfold mSlL
  cases m σ h with
  | ok v h1 =>
    simp only [rb_ok, wp_ok, kt_run]
    cases lo σ h1 with
    | ok l h2 =>
      simp only [rb_ok, wp_ok, kt_run]
      cases hi σ h2 with
      | ok u h3 => simp only [rb_ok, wp_ok, kt_run]; cases deref h3 v <;> rfl
      | _ => rfl
    | _ => rfl
  | _ => rfl
/-- a loop that looks for something -/
theorem find_loop {i : Nat} {b : MS} {l : List Val} {σ : Env} {h : MH} {K : KS} (E : Env → Prop) (f : Val → Option Val) (hi : ∀ σ, E σ → i < σ.length)
    (st : ∀ v ∈ l, ∀ σ, E σ → @SRes.wp (b (σ.set i (.val v)) h) ⟨fun σ' h' => h' = h ∧ f v = none ∧ E σ', fun r h' => h' = h ∧ f v = some r, fun _ _ => False, fun σ' h' => h' = h ∧ f v = none ∧ E σ', fun _ _ _ _ => False⟩)
    (e : E σ) (k1 : ∀ v, l.findSome? f = some v → K.rt v h) (k2 : ∀ σ, E σ → l.findSome? f = none → K.nx σ h) : (forL (gSet i) b l σ h).wp := by
  refine for_wp K (fun r σ h' => h' = h ∧ E σ ∧ (∀ v ∈ r, v ∈ l) ∧ l.findSome? f = r.findSome? f) ?_ ?_ _ _ _ ⟨rfl, e, fun _ h => h, rfl⟩
  · rintro v r σ h2 ⟨rfl, e, hm, hf⟩
    have w := st v (hm v List.mem_cons_self) σ e
    simp only [gw_Set]
    rw [ch_t (hi σ e)]
    refine SRes.wp_mono w ?_ ?_ ?_ ?_ ?_
    · rintro σ' h' ⟨rfl, q, e'⟩
      exact ⟨rfl, e', fun w hw => hm w (List.mem_cons_of_mem _ hw), by rw [hf, List.findSome?_cons, q]⟩
    · rintro x h' ⟨rfl, q⟩
      exact k1 x (by rw [hf, List.findSome?_cons, q])
    · intro σ' h' q; exact q.elim
    · rintro σ' h' ⟨rfl, q, e'⟩
      exact ⟨rfl, e', fun w hw => hm w (List.mem_cons_of_mem _ hw), by rw [hf, List.findSome?_cons, q]⟩
    · intro _ _ _ _ q; exact q.elim
  · rintro σ h2 ⟨rfl, e, hm, hf⟩
    exact k2 σ e hf
end Mi
/-! Mi32: repr and str of things of any kind (where nothing guards a repr). -/
namespace Mi
open PySem PySem.Spec PyProof.Rows L2
theorem ru70 {k : Nat} {A : Around} (r : RoomG k A) : A.units + 70 < cLine := by have := r.un; omega
/-- a thing's text, as repr tells it -/
def shownT (v : Val) : Tx := (PyData.shown (toD v)).cps.toList
theorem S_shownT (v : Val) : S (shownT v) = PyData.shown (toD v) := rfl
/-- repr can tell it -/
def showB (v : Val) : Bool := PyData.showable (toD v) && decide ((PyData.shown (toD v)).length ≤ sizeLine)
section
variable {X : Cx}
def rShow (K : PySem.W.Frag) : List V → Hp → VK → Prop := fun xs H Q => ∃ (x : V) (d : PyData), xs = [x] ∧ Dp K H x d ∧ SeqAt.shaped d = true ∧ d.showable = true ∧ d.shown.length ≤ sizeLine ∧ Q (.str d.shown) H
theorem call_reprD (hu : X.A.units + 70 < cLine) (hg : X.A.guards = some []) : CallR X (.builtin "repr") (rShow X.K) := by
  intro pins s σ H xs us Q I r h
  obtain ⟨x, d, rfl, hd, sd, hs, hz, q⟩ := h
  obtain ⟨u, rfl, rx⟩ := vals1 r
  obtain ⟨as, rd⟩ := Dp.reads I d x u hd rx
  have hn := PyData.hasDict_of_canLay d (SeqAt.canLay_of_shaped sd)
  have hdp := SeqAt.depth_of_shaped sd
  have far : ∀ {a : Addr}, Reads s.heap (.ref a) d as → wpAny (model X.prog X.w) X.A (call (.builtin "repr") [.ref a]) (EP X pins σ Q) X.xe s := fun rd =>
    repr_of_reads' rd hs (PyData.noDict_hsm hn) hg (by omega) (fun _ _ e => e) (fun h' u tk hk => ⟨.str _, H, I.kept hk, ⟨_, rfl⟩, q⟩) hz
  cases hd with
  | non => cases rx; exact PySem.P.repr_of_none ⟨.str _, H, I.tok _, ⟨_, rfl⟩, q⟩
  | bl b => cases rx; exact PySem.P.repr_of_bool ⟨.str _, H, I.tok _, ⟨_, rfl⟩, q⟩
  | int i => obtain ⟨t, rfl⟩ := rx; exact PySem.P.repr_of_int (by simpa [PyData.showable] using hs) ⟨.str _, H, I.tok _, ⟨_, rfl⟩, q⟩
  | str x => obtain ⟨t, rfl⟩ := rx; exact PySem.P.repr_of_str ⟨.str _, H, I.tok _, ⟨_, rfl⟩, q⟩ (by simpa only [PyData.shown] using hz)
  | lst _ _ => cases rx; exact far rd
  | tup _ _ => cases rx; exact far rd
def rText (K : PySem.W.Frag) : List V → Hp → VK → Prop := fun xs H Q => (∃ t, xs = [.str t] ∧ Q (.str t) H) ∨ ((∀ t, xs ≠ [.str t]) ∧ rShow K xs H Q)
theorem call_strD (hu : X.A.units + 70 < cLine) (hg : X.A.guards = some []) : CallR X (.type "str") (rText X.K) := by
  intro pins s σ H xs us Q I r h
  rcases h with ⟨t, rfl, q⟩ | ⟨ns, x, d, rfl, hd, sd, hs, hz, q⟩
  · obtain ⟨u, rfl, t, rfl⟩ := vals1 r
    exact PySem.P.str_of_str ⟨.str _, H, I, ⟨t, rfl⟩, q⟩
  obtain ⟨u, rfl, rx⟩ := vals1 r
  obtain ⟨as, rd⟩ := Dp.reads I d x u hd rx
  have hn := PyData.hasDict_of_canLay d (SeqAt.canLay_of_shaped sd)
  have hdp := SeqAt.depth_of_shaped sd
  have far : ∀ {a : Addr}, Reads s.heap (.ref a) d as → wpAny (model X.prog X.w) X.A (call (.type "str") [.ref a]) (EP X pins σ Q) X.xe s := fun rd =>
    str_of_reads rd hs (PyData.noDict_hsm hn) hg (by omega) (fun _ _ e => e) (fun h' u tk hk => ⟨.str _, H, I.kept hk, ⟨_, rfl⟩, q⟩) hz
  cases hd with
  | non => cases rx; exact PySem.P.str_of_none ⟨.str _, H, I.tok _, ⟨_, rfl⟩, q⟩
  | bl b => cases rx; exact PySem.P.str_of_bool ⟨.str _, H, I.tok _, ⟨_, rfl⟩, q⟩
  | int i => obtain ⟨t, rfl⟩ := rx; exact PySem.P.str_of_int (by simpa [PyData.showable] using hs) ⟨.str _, H, I.tok _, ⟨_, rfl⟩, q⟩
  | str x => exact absurd rfl (ns x)
  | lst _ _ => cases rx; exact far rd
  | tup _ _ => cases rx; exact far rd
end
section
variable {X : Cx} {cn : String → Addr} {W : WX}
@[simp] def reprD (h : MH) (v : Val) : Option Val := if wfD 64 (dd 64 h v) && showB (dd 64 h v) then some (.str (shownT (dd 64 h v))) else none
@[simp] def strD (h : MH) (v : Val) : Option Val := match v with
  | .str s => some (.str s)
  | v => if wfD 64 (dd 64 h v) && showB (dd 64 h v) then some (.str (shownT (dd 64 h v))) else none
def b_reprD (hu : X.A.units + 70 < cLine) (hg : X.A.guards = some []) : CallB X cn W (.builtin "repr") (fn1 reprD) := ⟨_, call_reprD hu hg, entC_1 fun E q σm mh σ v w x Q R rv e k => by
  unfold reprD at e
  split at e
  · rename_i z
    cases e
    have z' := Bool.and_eq_true_iff.mp z
    have z2 := Bool.and_eq_true_iff.mp z'.2
    exact ⟨x, _, rfl, rv.dd R (Nat.le_refl _) z'.1, wfD_shaped z'.1, z2.1, of_decide_eq_true z2.2, post_fin k R (by unfold RV; rfl)⟩
  · cases e⟩
theorem dd_noStr {h : MH} {v : Val} {t : Str} (hv : ∀ s, v ≠ .str s) : toD (dd 64 h v) ≠ .str t := by
  intro e
  cases v with
  | str s => exact hv s rfl
  | ref n =>
    unfold dd at e
    split at e <;> first | (simp [toD] at e; done) | skip
    all_goals (split at e <;> simp [toD] at e)
  | _ => simp [dd, toD] at e
def b_strD (hu : X.A.units + 70 < cLine) (hg : X.A.guards = some []) : CallB X cn W (.type "str") (fn1 strD) := ⟨_, call_strD hu hg, entC_1 fun E q σm mh σ v w x Q R rv e k => by
  by_cases q : ∃ s, v = .str s
  · obtain ⟨s, rfl⟩ := q
    cases e
    exact .inl ⟨S s, by rw [rv.str], post_fin k R (by unfold RV; rfl)⟩
  · have e' : (if wfD 64 (dd 64 mh v) && showB (dd 64 mh v) then some (Val.str (shownT (dd 64 mh v))) else none) = some w := by
      cases v <;> first | exact absurd ⟨_, rfl⟩ q | exact e
    split at e'
    · rename_i z
      cases e'
      have z' := Bool.and_eq_true_iff.mp z
      have z2 := Bool.and_eq_true_iff.mp z'.2
      have D := rv.dd R (Nat.le_refl _) z'.1
      refine .inr ⟨fun t ht => ?_, x, _, rfl, D, wfD_shaped z'.1, z2.1, of_decide_eq_true z2.2, post_fin k R (by unfold RV; rfl)⟩
      cases ht
      generalize hd : toD (dd 64 mh v) = d at D
      cases D
      exact dd_noStr (fun s hs => q ⟨s, hs⟩) hd
    · cases e'⟩
end
end Mi
/-! Mi33: list(range(..)), with one, two or three numbers. -/
namespace Mi
open PySem PySem.Spec PyProof.Rows L2
/-- a range's begin, end and step, as told -/
def rgOf : List Val → Option (Int × Int × Int)
  | [.int j] => some (0, j, 1)
  | [.int i, .int j] => some (i, j, 1)
  | [.int i, .int j, .int c] => some (i, j, c)
  | _ => none
def rgB (i j c : Int) : Bool := decide (-(2 ^ 61) ≤ i ∧ i < 2 ^ 61 ∧ -(2 ^ 61) ≤ j ∧ j < 2 ^ 61 ∧ 0 < c ∧ c < 1073741824) && decide (rgN i j c ≤ 16777216)
def rgL (vs : List Val) : Option (List Val) := (rgOf vs).bind fun (i, j, c) => if rgB i j c then some (rangeC i j c) else none
def mRgL (ml : ME (List Val)) : ME (List Val) := fun σ h => (ml σ h).bind fun vs h1 => match rgL vs with
  | some l => .ok l h1
  | none => .bad
section
variable {X : Cx} {cn : String → Addr} {W : WX}
theorem rgc_one {i j : Int} (h : -(2 ^ 61) ≤ i ∧ i < 2 ^ 61 ∧ -(2 ^ 61) ≤ j ∧ j < 2 ^ 61) : RgC i j 1 (rgN i j 1) := rgc_of ⟨h.1, h.2.1, h.2.2.1, h.2.2.2, by decide, by decide⟩
theorem vals_at : ∀ (us : List Value) (f : Nat → V), (∀ n u, us[n]? = some u → RelV (f n) u) → Vals ((List.range us.length).map f) us
  | [], _, _ => .nil
  | u :: us, f, h => by
    have e : (List.range (u :: us).length).map f = f 0 :: (List.range us.length).map fun n => f (n + 1) := by
      rw [List.length_cons, List.range_succ_eq_map, List.map_cons, List.map_map]; rfl
    rw [e]
    exact .cons (h 0 u rfl) (vals_at us _ fun n v hv => h (n + 1) v hv)
theorem vals_rgc {a c : Int} {n : Nat} {acc : Array Value} (h : ItemsOf (fun i v => ∃ t, v = .int (a + i * c) t) acc n) : Vals ((List.range n).map fun (k : Nat) => V.int (a + (k : Int) * c)) acc.toList := by
  have hl : acc.toList.length = n := by rw [Array.length_toList]; exact h.1
  subst hl
  exact vals_at acc.toList _ fun j u hj => h.2 j u (by rw [← hj, Array.getElem?_toList])
/-- the list of a range that has been made -/
theorem list_of_range {pins : List (Addr × Obj)} {s : Shared} {σ : L2.St} {H : Hp} {Q : VK} {r : Addr} {i j c : Int} {t u v : Tok} {n : Nat} (calm : X.calm = true) (J : Inv X pins σ H s) (hr : IsRange s.heap r i j c t u v) (g : RgC i j c n) (hn : n ≤ 16777216)
    (k : ∀ q, H q = none → Q (.ref q) (upd H q (.lst ((List.range n).map fun (k : Nat) => V.int (i + (k : Int) * c))))) : wpAny (model X.prog X.w) X.A (call (.type "list") [.ref r]) (EP X pins σ Q) X.xe s := by
  obtain ⟨_, _, small, size⟩ := g
  refine call_list_range (J.ok.hd calm) hr small size hn fun h' tk acc c' keep at_ items => ?_
  have new : ObjOk X.prog X.w (upd H s.heap.objs.size (.lst ((List.range n).map fun (k : Nat) => V.int (i + (k : Int) * c)))) h' s.heap.objs.size (.lst ((List.range n).map fun (k : Nat) => V.int (i + (k : Int) * c))) := by
    refine ⟨?_, acc.toList, c', vals_rgc items, ?_⟩
    · rw [List.length_map, List.length_range, sizeLine_eq]; omega
    · rw [Array.toArray_toList]; exact at_
  exact ⟨.ref s.heap.objs.size, _, J.laid keep (Nat.le_refl _) new, rfl, k _ (J.hok.fresh (Nat.le_refl _))⟩
/-- what the numbers of range(..) tell -/
def tRgs (ta : TA) : L2.St → Hp → VK → Prop := fun σ H Q => ta σ H fun vs H1 => ∃ (i j c : Int) (n : Nat), (vs = [.int j] ∧ i = 0 ∧ c = 1 ∨ vs = [.int i, .int j] ∧ c = 1 ∨ vs = [.int i, .int j, .int c]) ∧ RgC i j c n ∧ n ≤ 16777216 ∧ ∀ q, H1 q = none → Q (.ref q) (upd H1 q (.lst ((List.range n).map fun (k : Nat) => V.int (i + (k : Int) * c))))
theorem pe_listRgs {e0 : Expr} {es : List Expr} {ta : TA} {p0 p1 pos0 pos : Pos} (calm : X.calm = true) (hl : X.mg "list" = none) (hm : X.mg "range" = none) (ha : PA X (e0 :: es) ta) (gl : Gl X "list") (gr : Gl X "range")
    (hs : starEach (e0 :: es) X.env = (false, eval e0 X.env) :: starEach es X.env) (hpl : (backTo pos0 (starEach es X.env)).any (·.1) = false)
    (hs2 : starEach [.Call (.Name "range" p0) (e0 :: es) [] pos0] X.env = (false, eval (.Call (.Name "range" p0) (e0 :: es) [] pos0) X.env) :: starEach [] X.env) :
    PE X (.Call (.Name "list" p1) [.Call (.Name "range" p0) (e0 :: es) [] pos0] [] pos) (tRgs ta) := by
  refine ⟨fun pins s σ H Q J w => ?_⟩
  refine Call_ (ld_blt J gl hl boot_list (PyProof.Rows.callWith_type1 (args_cons ?_ hs2) hs2))
  refine Call_ (ld_blt J gr hm boot_range (PyProof.Rows.callWith_type1 (thn (ha.run pos0 pins s σ H _ J w) ?_) hs hpl))
  rintro us s1 ⟨vs, H1, J1, vals, i, j, c, n, way, g, hn, k⟩
  have fin : ∀ {t u v : Tok} {tk : Nat} {r : Addr} {h' : Heap}, (∀ b o, s1.heap.get? b = some o → h'.get? b = some o) → IsRange h' r i j c t u v → wpAny (model X.prog X.w) X.A (call (.type "list") [.ref r]) (EP X pins σ Q) X.xe { s1 with heap := h', toks := tk } :=
    fun keep hr => list_of_range calm (J1.kept keep) hr g hn k
  rcases way with ⟨rfl, rfl, rfl⟩ | ⟨rfl, rfl⟩ | rfl
  · obtain ⟨u, rfl, t, rfl⟩ := vals1 vals
    exact call_range_1 (args_nil (fin (fun b o z => Heap.get?_push_of_some _ z) (IsRange.new _ _ _ _ _ _ _)))
  · obtain ⟨u, v, rfl, ⟨t, rfl⟩, t2, rfl⟩ := vals2 vals
    exact call_range_2 (args_nil (fin (fun b o z => Heap.get?_push_of_some _ z) (IsRange.new _ _ _ _ _ _ _)))
  · cases vals with
    | cons r1 vals =>
      cases vals with
      | cons r2 vals =>
        cases vals with
        | cons r3 vals =>
          cases vals
          obtain ⟨t, rfl⟩ := r1
          obtain ⟨t2, rfl⟩ := r2
          obtain ⟨t3, rfl⟩ := r3
          exact call_range_3 g.1 (args_nil (fin (fun b o z => Heap.get?_push_of_some _ z) (IsRange.new _ _ _ _ _ _ _))) (.inl (PyProof.noPylong_small g.2.1))
theorem rgB_ok {i j c : Int} (h : rgB i j c = true) : RgC i j c (rgN i j c) ∧ rgN i j c ≤ 16777216 := by
  unfold rgB at h
  simp only [Bool.and_eq_true, decide_eq_true_eq] at h
  exact ⟨rgc_of h.1, h.2⟩
theorem rvs_rangeC {C : Cn} {q : Pt} {i j c : Int} : RVs C q (rangeC i j c) ((List.range (rgN i j c)).map fun (k : Nat) => V.int (i + (k : Int) * c)) := by
  unfold rangeC
  generalize List.range (rgN i j c) = ks
  induction ks with
  | nil => exact .nil
  | cons k ks ih => exact .cons (by show RV _ _ _ _; unfold RV; rfl) ih
theorem f_listR {e0 : Expr} {es : List Expr} {ml : ME (List Val)} {p0 p1 pos0 pos : Pos} (calm : X.calm = true) (hl : X.mg "list" = none) (hm : X.mg "range" = none) (ha : AT X cn W (e0 :: es) ml) (gl : Gl X "list" := by rfl) (gr : Gl X "range" := by rfl)
    (hs : starEach (e0 :: es) X.env = (false, eval e0 X.env) :: starEach es X.env := by rfl) (hpl : (backTo pos0 (starEach es X.env)).any (·.1) = false := by rfl)
    (hs2 : starEach [.Call (.Name "range" p0) (e0 :: es) [] pos0] X.env = (false, eval (.Call (.Name "range" p0) (e0 :: es) [] pos0) X.env) :: starEach [] X.env := by rfl) :
    EF X cn W (.Call (.Name "list" p1) [.Call (.Name "range" p0) (e0 :: es) [] pos0] [] pos) (mRgL ml) := by
  refine PE.wk (pe_listRgs calm hl hm ha gl gr hs hpl hs2) fun σ H Q ⟨E, p, σm, mh, e1, R, k⟩ => ⟨E, p, σm, mh, e1, R, ?_⟩
  unfold mRgL at k
  cases r : ml σm mh with
  | bad => rw [r] at k; exact k.elim
  | exc c f h => rw [r] at k; exact k
  | ok vs h =>
    rw [r] at k
    intro q xs R1 x1 rv
    have rv' : Paired (RVT ⟨X.K, cn⟩ q σm σ) vs xs := rv
    simp only [Res.bind] at k
    cases d : rgL vs with
    | none => rw [d] at k; exact k.elim
    | some l =>
      rw [d] at k
      unfold rgL at d
      cases dr : rgOf vs with
      | none => rw [dr] at d; cases d
      | some z =>
        obtain ⟨i, j, c⟩ := z
        rw [dr] at d
        simp only [Option.bind_some] at d
        split at d
        · rename_i hb
          cases d
          obtain ⟨g, hn⟩ := rgB_ok hb
          refine ⟨i, j, c, rgN i j c, ?_, g, hn, fun a ha => k q a _ R1 x1 ha rvs_rangeC⟩
          match vs, rv', dr with
          | [.int j'], .cons r1 .nil, dr => cases dr; exact .inl ⟨by rw [RVT.int r1], rfl, rfl⟩
          | [.int i', .int j'], .cons r1 (.cons r2 .nil), dr => cases dr; exact .inr (.inl ⟨by rw [RVT.int r1, RVT.int r2], rfl⟩)
          | [.int i', .int j', .int c'], .cons r1 (.cons r2 (.cons r3 .nil)), dr => cases dr; exact .inr (.inr (by rw [RVT.int r1, RVT.int r2, RVT.int r3]))
        · cases d
@[simp ↓] theorem wp_RgL {σ : Env} {h : MH} {ml : ME (List Val)} [Q : Kt (List Val)] [Y : Kx] : (mRgL ml σ h).wp = @Res.wp _ (ml σ h) ⟨fun vs h1 => Op (rgL vs) h1⟩ Y := by
  unfold mRgL
  cases ml σ h with
  | ok vs h1 => simp only [rb_ok, wp_ok, kt_run]; cases rgL vs <;> rfl
  | _ => rfl
@[simp] theorem rgL_1 {j : Int} : rgL [.int j] = if rgB 0 j 1 then some (rangeC 0 j 1) else none := rfl
@[simp] theorem rgL_2 {i j : Int} : rgL [.int i, .int j] = if rgB i j 1 then some (rangeC i j 1) else none := rfl
@[simp] theorem rgL_3 {i j c : Int} : rgL [.int i, .int j, .int c] = if rgB i j c then some (rangeC i j c) else none := rfl
end
end Mi
/-! Mi34: a text's methods without a value: upper (of signs below 128). -/
namespace Mi
open PySem PySem.Spec PyProof.Rows L2
def upC (c : Nat) : Nat := if 97 ≤ c ∧ c ≤ 122 then c - 32 else c
theorem up_asc : ∀ c, c < 128 → Unicode.upperOf c = [upC c] := by decide +kernel
def ascB (s : Tx) : Bool := s.all (fun c => decide (c < 128)) && decide (s.length ≤ 5000000)
theorem upper_asc {s : Tx} (h : ascB s = true) : Txt.upper (S s) = S (s.map upC) ∧ Builtin.Str.tooLong (Txt.upper (S s)).length = false := by
  unfold ascB at h
  simp only [Bool.and_eq_true, List.all_eq_true, decide_eq_true_eq] at h
  have e : ((S s).cps.mapIdx fun (_ : Nat) c => (Unicode.upperOf c).toArray).flatten = (s.map upC).toArray := by
    have e1 : (S s).cps.mapIdx (fun (_ : Nat) c => (Unicode.upperOf c).toArray) = (s.map fun c => #[upC c]).toArray := by
      refine Array.ext (by simp [S]) fun i h1 h2 => ?_
      have hi : i < s.length := by simpa [S] using h1
      have hs : (S s).cps[i]'(by simpa [S] using hi) = s[i] := by simp [S]
      simp only [Array.getElem_mapIdx, List.getElem_toArray, List.getElem_map, hs, up_asc _ (h.1 _ (List.getElem_mem hi))]
    rw [e1]
    clear e1 h
    induction s with
    | nil => rfl
    | cons c s ih => simp at ih ⊢; exact ih
  have e2 : Txt.upper (S s) = S (s.map upC) := by
    show (⟨_⟩ : Str) = _
    unfold PySem.placed
    rw [e]
    rfl
  refine ⟨e2, ?_⟩
  rw [e2]
  show decide ((s.map upC).toArray.size > sizeLine) = false
  rw [sizeLine_eq]
  simp
  omega
/-- a text's method without a value -/
def mTx0 (f : Tx → Option Val) (mo : ME Val) : ME Val := fun σ h => (mo σ h).bind fun o h1 => match o with
  | .str s => lift (f s) h1
  | _ => .bad
@[simp] def upperV (s : Tx) : Option Val := if ascB s then some (.str (s.map upC)) else none
section
variable {X : Cx} {cn : String → Addr} {W : WX} {o : Expr} {apos pos : Pos} {mo : ME Val}
theorem mt_upper : MtR X "str.upper" (fun x xs H Q => xs = [] ∧ ∃ s, x = .str (S s) ∧ ascB s = true ∧ Q (.str (S (s.map upC))) H) := by
  intro pins s σ H x xs v us Q J rx rxs h
  obtain ⟨rfl, t, rfl, ha, q⟩ := h
  obtain ⟨tk, rfl⟩ := rx
  cases rxs
  obtain ⟨e1, e2⟩ := upper_asc ha
  exact SC.upper e2 ⟨.str _, H, J.tok _, ⟨_, by rw [e1]⟩, q⟩
theorem e_upper (ho : EM X cn W o mo) (hbase : attributeBase o "upper" X.env (eval o X.env) = eval o X.env := by rfl) (hline : (apos.endLine == pos.line) = true := by rfl) : EM X cn W (.Call (.Attribute o "upper" apos) [] [] pos) (mTx0 upperV mo) :=
  PE.wk (pe_m0 PySem.F.slot_str_upper PySem.F.type_str_upper mt_upper ho hbase hline) fun σ H Q ⟨E, p, σm, mh, e1, R, k⟩ => ⟨E, p, σm, mh, e1, R, k.bind fun ov mh1 q x R1 x1 rv k1 => by
    cases ov with
    | str s =>
      have rv' : RV ⟨X.K, cn⟩ q (.str s) x := rv
      unfold RV at rv'
      subst rv'
      simp only [upperV] at k1
      by_cases z : ascB s = true
      · rw [if_pos z] at k1
        exact ⟨⟨S s, rfl⟩, rfl, s, rfl, z, post_fin k1 R1 (by unfold RV; rfl)⟩
      · rw [if_neg z] at k1; exact k1.elim
    | _ => exact k1.elim⟩
@[simp ↓] theorem wp_Tx0 {σ : Env} {h : MH} {f : Tx → Option Val} [Q : Kt Val] [Y : Kx] : (mTx0 f mo σ h).wp = @Res.wp _ (mo σ h) ⟨fun v h1 => match v with
  | .str s => Op (f s) h1
  | _ => False⟩ Y := by
  unfold mTx0
  cases mo σ h with
  | ok v h1 =>
    simp only [rb_ok, wp_ok, kt_run]
    cases v <;> first | (exact wpl _ _ _ _) | rfl
  | _ => rfl
end
end Mi
/-! Sh0: mirrors that many laws share, and what they do. -/
namespace Mi
open PySem L2 PyProof.Rows
def tx_6ff2de19 : Tx := [32, 33, 34, 35, 36, 38, 39, 40, 41, 42, 43, 44, 45, 46, 47, 48, 49, 50, 51, 52, 53, 54, 55, 56, 57, 58, 59, 60, 61, 62, 63, 64, 65, 66, 67, 68, 69, 70, 71, 72, 73, 74, 75, 76, 77, 78, 79, 80, 81, 82, 83, 84, 85, 86, 87, 88, 89, 90, 91, 92, 93, 94, 95, 96, 97, 98, 99, 100, 101, 102, 103, 104, 105, 106, 107, 108, 109, 110, 111, 112, 113, 114, 115, 116, 117, 118, 119, 120, 121, 122, 123, 124, 125, 126]
def b__law_box : MS := (sSeq (sSet 2 (mC (.int 0)))
  (sSeq (sIf (mAsB (mBin opLt (mV 1) (mCall (fn1 lenV) (mCons (mV 0) mNil)))) (sSet 2 (mBin opIx (mV 0) (mV 1))) sSkip)
  (sRet (mNewL (mLst (mCons (mBin opMul (mCall (fn1 absV') (mCons (mV 2) mNil)) (mCall (fn1 intV) (mCons (mBin opGe (mCall (fn1 absV') (mCons (mV 2) mNil)) (mBin opPow (mC (.int 10)) (mC (.int 18)))) mNil))) (mCons (mBin opMod (mBin opAdd (mV 2) (mBin opMul (mBin opMul (mC (.int 7919)) (mV 1)) (mV 1))) (mC (.int 2147483647))) (mCons (mC (.int 0)) mNil))))))))
def m__law_box : MF := runF 3 b__law_box
def b__law_boxes : MS := (sSeq (sSetO 2 (mCall listF (mCons (mSl (mV 0) mNoP (mP (mV 1))) mNil)))
  (sSeq (sFor (mEnum (mSl (mV 0) (mP (mV 1)) (mP (mC (.int 63))))) (gTupM 2 (gsCons (gSet 3) (gsCons (gSet 4) gsNil)))
  (sOwnPut 2 (mBin opAdd (mBin opIx (mO 2) (mBin opMod (mV 3) (mV 1))) (mBin opMul (mV 4) (mBin opAdd (mV 3) (mC (.int 2))))) (mBin opMod (mV 3) (mV 1))))
  (sSeq (sFrz 2) (sRet (mMap Val.lst (mLc [3] (mRange1 (mCall (fn2 max2V) (mCons (mC (.int 2)) (mCons (mCall (fn1 lenV) (mCons (mV 2) mNil)) mNil)))) (.nm 3) mYes (mFn 2 m__law_box (mCons (mV 2) (mCons (mV 3) mNil)))))))))
def m__law_boxes : MF := runF 5 b__law_boxes
def b__law_take : MS := (sSeq (sIf (mAsB (mBin opGt (mBin opIx (mV 0) (mC (.int 0))) (mC (.int 0)))) (sSeq (sAsgG (mCall (fn2 divmodV) (mCons (mBin opIx (mV 0) (mC (.int 0))) (mCons (mV 1) mNil))) (gTupM 2 (gsCons (gSubR (mV 0) (mC (.int 0))) (gsCons (gSet 3) gsNil))))
  (sRet (mV 3))) sSkip)
  (sSeq (sAsgG (mBin opAdd (mBin opIx (mV 0) (mC (.int 2))) (mC (.int 1))) (gSubR (mV 0) (mC (.int 2))))
  (sSeq (sSet 2 (mBin opMod (mBin opPow (mBin opAdd (mBin opIx (mV 0) (mC (.int 1))) (mBin opMul (mC (.int 39373)) (mBin opIx (mV 0) (mC (.int 2))))) (mC (.int 5))) (mC (.int 2147483647))))
  (sRet (mBin opMod (mBin opDiv (mBin opMod (mBin opAdd (mBin opMul (mV 2) (mC (.int 48271))) (mBin opMul (mBin opMul (mBin opIx (mV 0) (mC (.int 2))) (mBin opIx (mV 0) (mC (.int 2)))) (mC (.int 7919)))) (mC (.int 2147483629))) (mC (.int 64))) (mV 1))))))
def m__law_take : MF := runF 4 b__law_take
def b__law_signs : MS := (sRet (mC (.str tx_6ff2de19)))
def m__law_signs : MF := runF 0 b__law_signs
def b__law_text : MS := (sSeq (sAsgG (mTup (mCons (mFn 2 m__law_take (mCons (mV 0) (mCons (mC (.int 94)) mNil))) (mCons (mBin opAdd (mC (.int 1)) (mFn 2 m__law_take (mCons (mV 0) (mCons (mC (.int 93)) mNil)))) mNil))) (gTupM 2 (gsCons (gSet 2) (gsCons (gSet 3) gsNil))))
  (sRet (mTx joinV (mC (.str [])) (mMap Val.lst (mLc [4] (mRange1 (mV 1)) (.nm 4) mYes (mBin opIx (mFn 0 m__law_signs mNil) (mBin opMod (mBin opAdd (mBin opAdd (mV 2) (mBin opMul (mV 3) (mV 4))) (mBin opMul (mBin opMul (mV 4) (mV 4)) (mV 4))) (mC (.int 94)))))))))
def m__law_text : MF := runF 5 b__law_text

/-- a box: what numbers are drawn from; drawn from at most c times beyond its own -/
def Box (h : MH) (n c : Nat) : Prop := ∃ a b d : Int, h[n]? = some (.lst [.int a, .int b, .int d]) ∧ 0 ≤ a ∧ 0 ≤ b ∧ b < 2147483647 ∧ 0 ≤ d ∧ d ≤ c
theorem take_wp {h : MH} {n c : Nat} {m : Int} {Q : Kt Val} {X : Kx} (hb : Box h n c) (hm : 1 ≤ m) (hm2 : m < 1073741824) (hc : c ≤ 4294967296)
    (k : ∀ v h', 0 ≤ v → v < m → Box h' n (c + 1) → Onl n h h' → Q.run (.int v) h') : (m__law_take [.ref n, .int m] h).wp := by
  obtain ⟨a, b, d, e, ha, hb0, hb1, hd0, hd1⟩ := hb
  have hs := set_get e
  refine runF_wp ?_
  by_cases z : 0 < a
  · simp [b__law_take, e, z, hm, hm2, hs, show (0 : Int) < m by omega]
    exact k _ _ (Int.emod_nonneg _ (by omega)) (Int.emod_lt_of_pos _ (by omega)) ⟨_, _, _, hs _, Int.ediv_nonneg ha (by omega), hb0, hb1, hd0, by omega⟩ Onl.set
  · have p1 : (b + 39373 * (d + 1)).natAbs < 18446744073709551616 := by omega
    have p2 : ((d + 1).natAbs < 18446744073709551616) := by omega
    simp [b__law_take, e, z, hs, p1, p2, show (0 : Int) < m by omega]
    exact k _ _ (Int.emod_nonneg _ (by omega)) (Int.emod_lt_of_pos _ (by omega)) ⟨_, _, _, hs _, ha, hb0, hb1, by omega, by omega⟩ Onl.set

theorem box_wp {h : MH} {ns : List Int} {i : Nat} {Q : Kt Val} {X : Kx} (hi : i < 1000000) (hl : ns.length ≤ 16777216)
    (k : ∀ o, Box (h ++ [o]) h.length 0 → Q.run (.ref h.length) (h ++ [o])) : (m__law_box [.lst (ns.map Val.int), .int (i : Nat)] h).wp := by
  refine runF_wp ?_
  have fin : ∀ c : Int, Q.run (.ref h.length) (h ++ [.lst [.int ((if c < 0 then -c else c) * if 1000000000000000000 ≤ (if c < 0 then -c else c) then 1 else 0), .int ((c + 7919 * (i : Int) * (i : Int)) % 2147483647), .int 0]]) := fun c => by
    refine k _ ⟨_, _, _, List.getElem?_concat_length, ?_, Int.emod_nonneg _ (by omega), Int.emod_lt_of_pos _ (by omega), Int.le_refl _, Int.le_refl _⟩
    refine Int.mul_nonneg ?_ ?_ <;> split <;> omega
  have q3 : (7919 * (i : Int)).natAbs < 18446744073709551616 := by omega
  have q4 : i < 18446744073709551616 := by omega
  by_cases z : (i : Int) < ns.length
  · obtain ⟨c, hc⟩ : ∃ c, ns[i]? = some c := ⟨_, List.getElem?_eq_getElem (by omega)⟩
    simp [b__law_box, z, hl, atI_nn, hc, q3, q4]
    refine ch_go (.inr (by repeat (first | decide | split))) ?_
    simp [atI_nn, hc, q3, q4]
    exact fin c
  · simp [b__law_box, z, hl, q3, q4]
    have f0 := fin 0
    simpa using f0
theorem ints_set (ms : List Int) (j : Nat) (v : Int) : (ms.map Val.int).set j (.int v) = (ms.set j v).map Val.int := by rw [List.map_set]
theorem enumF_mem : ∀ {k : Nat} {l : List Val} {v : Val}, v ∈ enumF k l → ∃ (i : Nat) (w : Val), v = .tup [.int (i : Nat), w] ∧ w ∈ l ∧ i < k + l.length
  | _, [], v, h => by cases h
  | k, w :: l, v, h => by
    rcases List.mem_cons.mp h with e | e
    · exact ⟨k, w, e, List.mem_cons_self, by simp⟩
    · obtain ⟨i, x, e1, e2, e3⟩ := enumF_mem e
      exact ⟨i, x, e1, List.mem_cons_of_mem _ e2, by simp only [List.length_cons]; omega⟩
def boxesI (ns : List Int) (m : Nat) (l : List Val) (σ : Env) (h : MH) : Prop := h = [] ∧ ∃ (ms : List Int) (s3 s4 : Slot), σ = [.val (.lst (ns.map Val.int)), .val (.int (m : Nat)), .own (ms.map Val.int), s3, s4] ∧ notOwn (some s3) = true ∧ ms.length = min m ns.length ∧ (l ≠ [] → m ≤ ns.length) ∧ ∀ v ∈ l, ∃ (i : Nat) (c : Int), v = .tup [.int (i : Nat), .int c] ∧ i < 63
def boxesJ (L : Nat) (l acc : List Val) (h : MH) : Prop := h.length ≤ L ∧ acc = (List.range h.length).map Val.ref ∧ l = (rangeL 0 (L : Nat)).drop h.length ∧ ∀ i, i < h.length → Box h i 0
theorem rangeL_get {L j : Nat} (h : j < L) : (rangeL 0 (L : Nat)).drop j = .int (j : Nat) :: (rangeL 0 (L : Nat)).drop (j + 1) := by
  have hl : (rangeL 0 (L : Nat)).length = L := by simp [rangeL]
  rw [List.drop_eq_getElem_cons (by omega)]
  congr 1
  simp [rangeL]
theorem boxes_wp {ns : List Int} {m : Nat} {Q : Kt Val} {X : Kx} (hn : ns.length ≤ 63) (hm : 1 ≤ m) (hm2 : m ≤ 63)
    (k : ∀ (L : Nat) (h : MH), h.length = L → L ≤ 63 → (∀ i, i < L → Box h i 0) → Q.run (.lst ((List.range L).map Val.ref)) h) : (m__law_boxes [.lst (ns.map Val.int), .int (m : Nat)] []).wp := by
  refine runF_wp ?_
  simp [b__law_boxes, cut_to, cut_from, cut_mid]
  refine for_wp _ (boxesI ns m) ?_ ?_ _ _ _ ?_
  · rintro v l σ h ⟨rfl, ms, s3, s4, rfl, hs3, hl, hne, hv⟩
    obtain ⟨i, c, rfl, hi⟩ := hv v List.mem_cons_self
    have hm' := hne (by simp)
    have hmod : (i : Int) % (m : Int) = ((i % m : Nat) : Int) := by omega
    have hlt : i % m < ms.length := by
      have := Nat.mod_lt i (show m > 0 by omega)
      omega
    obtain ⟨d, hd⟩ : ∃ d, ms[i % m]? = some d := ⟨_, List.getElem?_eq_getElem hlt⟩
    have p1 : ((i : Int) + 2).natAbs < 18446744073709551616 := by omega
    have p2 : (0 : Int) < m := by omega
    simp [p2, hmod, atI_nn, hd, p1, ixN_nn hlt, -Int.natCast_emod, show 0 < m by omega]
    refine ⟨rfl, ms.set (i % m) (d + c * ((i : Int) + 2)), _, _, by rw [List.map_set], rfl, by rw [List.length_set]; exact hl, fun z => hne (by simp), fun v hv' => ?_⟩
    exact hv v (List.mem_cons_of_mem _ hv')
  · rintro σ h ⟨rfl, ms, s3, s4, rfl, hs3, hl, _, _⟩
    have hz : ms.length ≤ 63 := by omega
    simp
    obtain ⟨L, hL, hL2⟩ : ∃ L : Nat, (if 2 < (ms.length : Int) then (ms.length : Int) else 2) = (L : Nat) ∧ L ≤ 63 := by
      by_cases q : 2 < (ms.length : Int)
      · exact ⟨ms.length, if_pos q, hz⟩
      · exact ⟨2, if_neg q, by decide⟩
    rw [hL]
    rw [ch_t (by omega)]
    simp [okWipe, hs3, wipeM]
    refine lc_wp (boxesJ L) ?_ ?_ _ _ _ ?_
    · rintro v l acc h ⟨h1, rfl, h3, h4⟩
      have hj : h.length < L := by
        rcases Nat.lt_or_ge h.length L with q | q
        · exact q
        · rw [List.drop_eq_nil_of_le (by simp [rangeL]; omega)] at h3; cases h3
      rw [rangeL_get hj] at h3
      cases h3
      simp
      refine box_wp (by omega) (by omega) fun o ho => ?_
      refine ⟨by simp; omega, by simp; omega, ?_, ?_, fun i hi => ?_⟩
      · simp [List.range_succ]
      · simp
      · by_cases q : i < h.length
        · obtain ⟨a, b, d, e, r⟩ := h4 i q
          exact ⟨a, b, d, by rw [List.getElem?_append_left q]; exact e, r⟩
        · have : i = h.length := by simp at hi; omega
          subst this; exact ho
    · rintro acc h ⟨h1, rfl, h3, h4⟩
      have : L ≤ h.length := by
        rcases Nat.lt_or_ge h.length L with q | q
        · rw [rangeL_get q] at h3; cases h3
        · exact q
      have e : h.length = L := by omega
      have := k L h e hL2 (by rw [← e]; exact h4)
      rw [e]
      exact this
    · exact ⟨Nat.zero_le _, rfl, rfl, fun i hi => absurd hi (Nat.not_lt_zero _)⟩
  · refine ⟨rfl, ns.take m, .unset, .unset, by rw [List.map_take], rfl, by simp, fun z => ?_, fun v hv => ?_⟩
    · by_cases q : m ≤ ns.length
      · exact q
      · exact absurd (by rw [List.drop_eq_nil_of_le (by simp; omega)]; simp [enumF]) z
    · obtain ⟨i, w, e1, e2, e3⟩ := enumF_mem hv
      have e4 := List.mem_of_mem_take e2
      obtain ⟨c, _, rfl⟩ := List.mem_map.mp (List.mem_of_mem_drop e4)
      refine ⟨i, c, e1, ?_⟩
      simp at e3
      omega
theorem Box.mono {h : MH} {n c d : Nat} (b : Box h n c) (l : c ≤ d) : Box h n d := by
  obtain ⟨x, y, z, e, a1, a2, a3, a4, a5⟩ := b
  exact ⟨x, y, z, e, a1, a2, a3, a4, by omega⟩
theorem Box.keep {h h' : MH} {n k c : Nat} (b : Box h k c) (ne : k ≠ n) (o : Onl n h h') : Box h' k c := by
  obtain ⟨x, y, z, e, r⟩ := b
  exact ⟨x, y, z, o.get ne e, r⟩
/-- a comprehension each of whose steps draws d times -/
def drawI (n d C : Nat) (h0 : MH) (P : Val → Prop) (T : Nat) (l acc : List Val) (h : MH) : Prop := acc.length + l.length = T ∧ (∀ y ∈ acc, P y) ∧ Box h n (C + acc.length * d) ∧ Onl n h0 h
theorem lc_draw {i n d C : Nat} {m : ME Val} {σ : Env} {h : MH} {l : List Val} {Q : Kt (List Val)} {X : Kx} (P : Val → Prop) (hi : i < σ.length) (hl : l.length ≤ 16777216) (hb : Box h n C)
    (st : ∀ v ∈ l, ∀ h1 c, c + d ≤ C + l.length * d → Box h1 n c → @Res.wp _ (m (σ.set i (.val v)) h1) ⟨fun y h2 => P y ∧ Box h2 n (c + d) ∧ Onl n h1 h2⟩ noX)
    (k : ∀ ys h', ys.length = l.length → (∀ y ∈ ys, P y) → Box h' n (C + l.length * d) → Onl n h h' → Q.run ys h') : (lcL (.nm i) mYes m l [] σ h).wp := by
  have key : ∀ (l' acc : List Val) (h' : MH), (∀ v ∈ l', v ∈ l) → drawI n d C h P l.length l' acc h' → (lcL (.nm i) mYes m l' acc σ h').wp := by
    intro l'
    induction l' with
    | nil =>
      intro acc h' hv ⟨h1, h2, h3, h4⟩
      have e : acc.length = l.length := by simpa using h1
      unfold lcL
      exact k _ _ e h2 (by rw [← e]; exact h3) h4
    | cons v l' ih =>
      intro acc h' hv ⟨h1, h2, h3, h4⟩
      have h1 : acc.length + (l'.length + 1) = l.length := h1
      have hm : (acc.length + 1) * d ≤ l.length * d := Nat.mul_le_mul_right _ (by omega)
      have hm2 : (acc.length + 1) * d = acc.length * d + d := by rw [Nat.add_mul, Nat.one_mul]
      have w := st v (hv v List.mem_cons_self) h' _ (by omega) h3
      unfold lcL
      have e0 : tgM (.nm i) v σ h' = .next (σ.set i (.val v)) h' := by
        unfold tgM gSet
        rw [if_pos hi]
      rw [e0]
      simp only
      have e1 : mYes (σ.set i (.val v)) h' = .ok true h' := rfl
      rw [e1]
      simp only [if_true]
      cases r : m (σ.set i (.val v)) h' with
      | ok y h2' =>
        rw [r] at w
        obtain ⟨p, b, o⟩ := w
        simp only
        rw [if_pos (by omega)]
        refine ih _ _ (fun x hx => hv x (List.mem_cons_of_mem _ hx)) ⟨by simp; omega, fun y hy => ?_, ?_, h4.trans o⟩
        · rcases List.mem_append.mp hy with q | q
          · exact h2 y q
          · rw [List.mem_singleton.mp q]; exact p
        · simp only [List.length_append, List.length_cons, List.length_nil]
          rw [show 0 + 1 = 1 from rfl, hm2, ← Nat.add_assoc]
          exact b
      | exc c f h => rw [r] at w; exact w.elim
      | bad => rw [r] at w; exact w.elim
  exact key l [] h (fun v hv => hv) ⟨by simp, by simp, by simpa using hb, Onl.refl⟩
/-- signs drawn one by one -/
theorem chars_of {P : Nat → Prop} : ∀ {ys : List Val}, (∀ y ∈ ys, ∃ c, y = .str [c] ∧ P c) → ∃ t : Tx, ys = t.map (fun c => .str [c]) ∧ t.length = ys.length ∧ ∀ c ∈ t, P c
  | [], _ => ⟨[], rfl, rfl, fun c hc => by cases hc⟩
  | y :: ys, h => by
    obtain ⟨c, rfl, hc⟩ := h y List.mem_cons_self
    obtain ⟨t, rfl, hl, ht⟩ := chars_of fun y hy => h y (List.mem_cons_of_mem _ hy)
    exact ⟨c :: t, rfl, by simp, fun d hd => by
      rcases List.mem_cons.mp hd with q | q
      · rw [q]; exact hc
      · exact ht d q⟩
@[simp] theorem strsOf_chars (t : Tx) : strsOf (t.map fun c => .str [c]) = some (t.map fun c => [c]) := by
  rw [← strsOf_map, List.map_map]; rfl
theorem flat_one (t : Tx) : (t.map fun c => [c]).flatten = t := by
  induction t with
  | nil => rfl
  | cons c t ih => simp only [List.map_cons, List.flatten_cons, ih]; rfl
@[simp] theorem joinT_chars (t : Tx) : joinT [] (t.map fun c => [c]) = t := by rw [joinT_nil, flat_one]
@[simp] theorem sum_chars (t : Tx) : (List.map (List.length ∘ fun c => [c]) t).sum = t.length := by
  have : List.map (List.length ∘ fun c => [c]) t = List.replicate t.length 1 := by
    rw [List.eq_replicate_iff]
    exact ⟨by rw [List.length_map], fun x hx => by obtain ⟨_, _, rfl⟩ := List.mem_map.mp hx; rfl⟩
  rw [this]; simp
@[simp high] theorem n62_le {n : Nat} : (-4611686018427387904 ≤ (n : Int)) = True := eq_true (by omega)
@[simp] theorem cut_toN {α : Type} {xs : List α} {n : Nat} : cutL xs none (some (n : Int)) = xs.take n := by rw [cut_to (by omega)]; rfl
@[simp] theorem cut_fromN {α : Type} {xs : List α} {n : Nat} : cutL xs (some (n : Int)) none = xs.drop n := by rw [cut_from (by omega)]; rfl
@[simp] theorem cut_midN {α : Type} {xs : List α} {n m : Nat} : cutL xs (some (n : Int)) (some (m : Int)) = (xs.drop n).take (m - n) := by rw [cut_mid (by omega) (by omega)]; rfl
@[simp] theorem isNon_non : isNon .non = true := rfl
@[simp] theorem isNon_bl {b : Bool} : isNon (.bl b) = false := rfl
@[simp] theorem isNon_int {b : Int} : isNon (.int b) = false := rfl
@[simp] theorem isNon_str {b : Tx} : isNon (.str b) = false := rfl
@[simp] theorem isNon_tup {b : List Val} : isNon (.tup b) = false := rfl
@[simp] theorem isNon_lst {b : List Val} : isNon (.lst b) = false := rfl
@[simp] theorem bolsOf_rep {n : Nat} {b : Bool} : bolsOf (List.replicate n (.bl b)) = some (List.replicate n b) := by
  rw [← bolsOf_map, List.map_replicate]
@[simp] theorem all_rep {n : Nat} : (List.replicate n true).all id = true := by simp
/-- a comprehension of truths -/
theorem lc_all {t : Tg} {m : ME Val} {σ : Env} {h : MH} {l : List Val} (hl : l.length ≤ 16777216)
    (hv : ∀ v ∈ l, @gW (tgM t) v σ h ⟨fun σ1 h1 => h1 = h ∧ @Res.wp _ (m σ1 h) ⟨fun y h2 => y = .bl true ∧ h2 = h⟩ noX, fun _ _ => False, fun _ _ => False, fun _ _ => False, fun _ _ _ _ => False⟩) : lcL t mYes m l [] σ h = .ok (List.replicate l.length (.bl true)) h := by
  rw [lc_map (fun _ => .bl true) (fun _ => true) l [] (by simpa using hl) fun v hv' => ?_]
  · simp [List.map_const']
  · have w := hv v hv'
    unfold gW at w ⊢
    cases r : plainG (tgM t v σ h) with
    | next σ1 h1 =>
      rw [r] at w
      obtain ⟨rfl, w⟩ := w
      exact ⟨rfl, ⟨rfl, rfl⟩, fun _ => w⟩
    | _ => rw [r] at w; exact w.elim
theorem Box.set {h : MH} {b n c : Nat} {o : MObj} (hb : Box h b c) (ne : n ≠ b) : Box (h.set n o) b c := by
  obtain ⟨p, q, r, eb, rest⟩ := hb
  exact ⟨p, q, r, by rw [List.getElem?_set_ne ne]; exact eb, rest⟩
end Mi
/-! ShP: pieces.py. -/
namespace Mi
open PySem L2 PyProof.Rows
def tx_c3fcd3d7 : Tx := [97, 98, 99, 100, 101, 102, 103, 104, 105, 106, 107, 108, 109, 110, 111, 112, 113, 114, 115, 116, 117, 118, 119, 120, 121, 122]
def b_is_number : MS := (sRet (mAndV (mIsi "int" (mV 0)) (mNotV (mIsi "bool" (mV 0)))))
def m_is_number : MF := runF 1 b_is_number
def b_is_tuple_of : MS := (sRet (mAndV (mIsi "tuple" (mV 0)) (mBin opEq (mCall (fn1 lenV) (mCons (mV 0) mNil)) (mV 1))))
def m_is_tuple_of : MF := runF 2 b_is_tuple_of
def b_is_name : MS := (sSeq (sIf (mOr (mNot (mTruth (mIsi "str" (mV 0)))) (mNot (mAsB (mChain opLe opLe (mC (.int 1)) (mCall (fn1 lenV) (mCons (mV 0) mNil)) (mC (.int 8)))))) (sRet (mC (.bl false))) sSkip)
  (sRet (mCall (fn1 allV) (mCons (mMap Val.lst (mLc [1] (mIter (mV 0)) (.nm 1) mYes (mBin opIn (mV 1) (mC (.str tx_c3fcd3d7))))) mNil))))
def m_is_name : MF := runF 2 b_is_name
def b_is_text : MS := (sSeq (sIf (mOr (mNot (mTruth (mIsi "str" (mV 0)))) (mAsB (mBin opGt (mCall (fn1 lenV) (mCons (mV 0) mNil)) (mV 1)))) (sRet (mC (.bl false))) sSkip)
  (sRet (mCall (fn1 allV) (mCons (mMap Val.lst (mLc [2] (mIter (mV 0)) (.nm 2) mYes (mBin opIn (mV 2) (mC (.str tx_6ff2de19))))) mNil))))
def m_is_text : MF := runF 3 b_is_text
def b_is_key : MS := (sSeq (sIf (mOr (mNot (mTruth (mFn 2 m_is_tuple_of (mCons (mV 0) (mCons (mC (.int 3)) mNil))))) (mOr (mNot (mTruth (mFn 1 m_is_name (mCons (mBin opIx (mV 0) (mC (.int 0))) mNil)))) (mOr (mNot (mTruth (mFn 1 m_is_name (mCons (mBin opIx (mV 0) (mC (.int 1))) mNil)))) (mAsB (mBin opEq (mBin opIx (mV 0) (mC (.int 0))) (mBin opIx (mV 0) (mC (.int 1)))))))) (sRet (mC (.bl false))) sSkip)
  (sRet (mAndV (mFn 1 m_is_number (mCons (mBin opIx (mV 0) (mC (.int 2))) mNil)) (mChain opLe opLt (mC (.int 0)) (mBin opIx (mV 0) (mC (.int 2))) (mC (.int 1000))))))
def m_is_key : MF := runF 1 b_is_key
def b_fits : MS := (sSeq (sIf (mAsB (mBin opGt (mBin opAdd (mV 0) (mCall (fn1 lenV) (mCons (mV 2) mNil))) (mC (.int 400)))) (sRet (mC (.bl false))) sSkip)
  (sSeq (sIf (mAsB (mBin opEq (mV 1) (mC (.int 1)))) (sRet (mAndV (mBin opGe (mCall (fn1 lenV) (mCons (mV 2) mNil)) (mC (.int 4))) (mBin opEq (mBin opMod (mCall (fn1 lenV) (mCons (mV 2) mNil)) (mC (.int 4))) (mC (.int 0))))) sSkip)
  (sRet (mOrV (mBin opEq (mV 0) (mC (.int 0))) (mBin opGe (mCall (fn1 lenV) (mCons (mV 2) mNil)) (mC (.int 1)))))))
def m_fits : MF := runF 3 b_fits
def b_is_piece : MS := (sSeq (sIf (mOr (mNot (mTruth (mFn 2 m_is_tuple_of (mCons (mV 0) (mCons (mC (.int 6)) mNil))))) (mOr (mNot (mTruth (mFn 1 m_is_key (mCons (mBin opIx (mV 0) (mC (.int 0))) mNil)))) (mNot (mTruth (mCall (fn1 allV) (mCons (mMap Val.lst (mLc [7] (mIter (mSl (mV 0) (mP (mC (.int 1))) (mP (mC (.int 4))))) (.nm 7) mYes (mFn 1 m_is_number (mCons (mV 7) mNil)))) mNil)))))) (sRet (mC (.bl false))) sSkip)
  (sSeq (sAsgG (mV 0) (gTupM 6 (gsCons (gSet 1) (gsCons (gSet 2) (gsCons (gSet 3) (gsCons (gSet 4) (gsCons (gSet 5) (gsCons (gSet 6) gsNil))))))))
  (sSeq (sIf (mOr (mAsB (mBin opLt (mV 2) (mC (.int 0)))) (mOr (mAsB (mBin opNe (mBin opMod (mV 2) (mC (.int 4))) (mC (.int 0)))) (mOr (mAsB (mBin opNotIn (mV 3) (mTup (mCons (mC (.int 0)) (mCons (mC (.int 1)) mNil))))) (mAsB (mBin opNotIn (mV 4) (mTup (mCons (mC (.int 0)) (mCons (mC (.int 1)) mNil)))))))) (sRet (mC (.bl false))) sSkip)
  (sSeq (sIf (mOr (mNot (mTruth (mFn 2 m_is_text (mCons (mV 5) (mCons (mIf (mAsB (mBin opEq (mV 2) (mC (.int 0)))) (mC (.int 12)) (mC (.int 0))) mNil))))) (mNot (mTruth (mFn 2 m_is_text (mCons (mV 6) (mCons (mC (.int 400)) mNil)))))) (sRet (mC (.bl false))) sSkip)
  (sRet (mFn 3 m_fits (mCons (mV 2) (mCons (mV 3) (mCons (mV 6) mNil)))))))))
def m_is_piece : MF := runF 8 b_is_piece
def b_size_of : MS := (sRet (mBin opAdd (mBin opAdd (mC (.int 6)) (mCall (fn1 lenV) (mCons (mBin opIx (mV 0) (mC (.int 4))) mNil))) (mCall (fn1 lenV) (mCons (mBin opIx (mV 0) (mC (.int 5))) mNil))))
def m_size_of : MF := runF 1 b_size_of
def b_end_of : MS := (sRet (mBin opAdd (mBin opIx (mV 0) (mC (.int 1))) (mCall (fn1 lenV) (mCons (mBin opIx (mV 0) (mC (.int 5))) mNil))))
def m_end_of : MF := runF 1 b_end_of
def b_whole : MS := (sRet (mTup (mCons (mV 0) (mCons (mC (.int 0)) (mCons (mC (.int 0)) (mCons (mV 2) (mCons (mBin opIx (mV 1) (mC (.int 0))) (mCons (mBin opIx (mV 1) (mC (.int 1))) mNil))))))))
def m_whole : MF := runF 3 b_whole
/-- the letters a to z -/
abbrev LT : Tx := tx_c3fcd3d7
abbrev SG : Tx := tx_6ff2de19
def okD : Nat → Val → Bool
  | _, .non => true
  | _, .bl _ => true
  | _, .int _ => true
  | _, .str s => txOk s && decide (s.length ≤ 16777216)
  | n + 1, .tup l => decide (l.length ≤ 16777216) && l.all (okD n)
  | n + 1, .lst l => decide (l.length ≤ 16777216) && l.all (okD n)
  | _, _ => false
def numB : Val → Bool
  | .int _ => true
  | _ => false
def tupB (k : Int) : Val → Bool
  | .tup l => decide ((l.length : Int) = k)
  | _ => false
def nameB : Val → Bool
  | .str s => decide (1 ≤ s.length) && decide (s.length ≤ 8) && s.all fun c => decide (c ∈ LT)
  | _ => false
def textB (m : Int) : Val → Bool
  | .str s => decide ((s.length : Int) ≤ m) && s.all fun c => decide (c ∈ SG)
  | _ => false
def keyB : Val → Bool
  | .tup [a, b, .int n] => nameB a && nameB b && !(veq a b) && decide (0 ≤ n) && decide (n < 1000)
  | _ => false
def fitsB (a m : Int) (k : Nat) : Bool := decide (a + k ≤ 400) && (if m = 1 then decide (4 ≤ k) && decide (k % 4 = 0) else decide (a = 0) || decide (1 ≤ k))
def pieceB : Val → Bool
  | .tup [k, .int a, .int m, .int f, hd, .str w] => keyB k && decide (0 ≤ a) && decide (a % 4 = 0) && (decide (m = 0) || decide (m = 1)) && (decide (f = 0) || decide (f = 1)) && textB (if a = 0 then 12 else 0) hd && textB 400 (.str w) && fitsB a m w.length
  | _ => false
section
variable {h : MH} {n : Nat} {v : Val}
theorem is_number_eq (hv : okD n v = true) : m_is_number [v] h = .ok (.bl (numB v)) h := wp_eq (runF_wp (by
  cases v <;> first | (simp [b_is_number, numB]; done) | (cases n <;> simp [okD] at hv)))
theorem is_tuple_eq {k : Int} (hv : okD n v = true) : m_is_tuple_of [v, .int k] h = .ok (.bl (tupB k v)) h := wp_eq (runF_wp (by
  cases v <;> first | (simp [b_is_tuple_of, tupB]; done) | (cases n <;> simp [okD] at hv)))
end
@[simp] theorem bolsOf_mapf {α : Type} (p : α → Bool) (l : List α) : bolsOf (l.map fun x => .bl (p x)) = some (l.map p) := by
  rw [← bolsOf_map (l.map p), List.map_map]; rfl
def chIn (t : Tx) : Val → Val
  | .str [c] => .bl (decide (c ∈ t))
  | _ => .non
@[simp] theorem chIn_e {t : Tx} {c : Nat} : chIn t (.str [c]) = .bl (decide (c ∈ t)) := rfl
@[simp] theorem inV_ch {c : Nat} {z : Tx} : inV? (.str [c]) (.str z) = some (decide (c ∈ z)) := rfl
section
variable {h : MH} {n : Nat} {v : Val}
theorem okD_str {s : Tx} (hv : okD n (.str s) = true) : txOk s = true ∧ s.length ≤ 16777216 := by cases n <;> (simp [okD] at hv; exact hv)
theorem is_name_eq (hv : okD n v = true) : m_is_name [v] h = .ok (.bl (nameB v)) h := wp_eq (runF_wp (by
  cases v with
  | str s =>
    have hl := (okD_str hv).2
    by_cases z1 : 1 ≤ s.length
    · by_cases z2 : s.length ≤ 8
      · have y2 : ¬ (8 < (s.length : Int)) := by omega
        simp [b_is_name, nameB, hl, z1, z2, y2, okWipe, notOwn, wipeM, show (1 : Int) ≤ s.length by omega]
        rw [lc_map (chIn LT) (fun _ => true) _ _ (by simp; omega) (fun v hv => ?_)]
        · simp [Function.comp_def, nameB, z1, z2]
        · obtain ⟨c, hc, rfl⟩ := List.mem_map.mp hv
          simp
      · simp [b_is_name, nameB, hl, z1, z2, show (1 : Int) ≤ s.length by omega, show (8 < (s.length : Int)) by omega]
    · simp [b_is_name, nameB, hl, z1, show ¬ (1 : Int) ≤ s.length by omega]
  | _ => first | (simp [b_is_name, nameB]; done) | (cases n <;> simp [okD] at hv)))
theorem is_text_eq {m : Int} (hv : okD n v = true) : m_is_text [v, .int m] h = .ok (.bl (textB m v)) h := wp_eq (runF_wp (by
  cases v with
  | str s =>
    have hl := (okD_str hv).2
    by_cases z1 : m < s.length
    · simp [b_is_text, textB, hl, z1, show ¬ ((s.length : Int) ≤ m) by omega]
    · simp [b_is_text, textB, hl, z1, okWipe, notOwn, wipeM, show ((s.length : Int) ≤ m) by omega]
      rw [lc_map (chIn SG) (fun _ => true) _ _ (by simp; omega) (fun v hv => ?_)]
      · simp [Function.comp_def, textB, show ((s.length : Int) ≤ m) by omega]
      · obtain ⟨c, hc, rfl⟩ := List.mem_map.mp hv
        simp
  | _ => first | (simp [b_is_text, textB]; done) | (cases n <;> simp [okD] at hv)))
theorem nameB_str (hv : nameB v = true) : ∃ s : Tx, v = .str s ∧ 1 ≤ s.length ∧ s.length ≤ 8 ∧ (∀ c ∈ s, c ∈ LT) ∧ txOk s = true := by
  cases v with
  | str s =>
    simp [nameB] at hv
    refine ⟨s, rfl, hv.1.1, hv.1.2, hv.2, txOk_of fun c hc => ?_⟩
    have : ∀ c ∈ LT, c < 1114112 := by decide +kernel
    exact this c (hv.2 c hc)
  | _ => simp [nameB] at hv
theorem okD_tup {l : List Val} (hv : okD (n + 1) (.tup l) = true) : l.length ≤ 16777216 ∧ ∀ x ∈ l, okD n x = true := by simpa [okD] using hv
theorem okD_lst {l : List Val} (hv : okD (n + 1) (.lst l) = true) : l.length ≤ 16777216 ∧ ∀ x ∈ l, okD n x = true := by simpa [okD] using hv
theorem len3 {l : List Val} (h : l.length = 3) : ∃ a b c, l = [a, b, c] := by
  match l, h with
  | [a, b, c], _ => exact ⟨a, b, c, rfl⟩
theorem len6 {l : List Val} (h : l.length = 6) : ∃ a b c d e f, l = [a, b, c, d, e, f] := by
  match l, h with
  | [a, b, c, d, e, f], _ => exact ⟨a, b, c, d, e, f, rfl⟩
theorem is_key_eq (hv : okD (n + 1) v = true) : m_is_key [v] h = .ok (.bl (keyB v)) h := wp_eq (runF_wp (by
  have e3 := is_tuple_eq (h := h) (k := 3) hv
  by_cases z : tupB 3 v = true
  · cases v with
    | tup l =>
      have hl : l.length = 3 := by simp [tupB] at z; omega
      obtain ⟨a, b, c, rfl⟩ := len3 hl
      obtain ⟨_, ho⟩ := okD_tup hv
      have ea := is_name_eq (h := h) (ho a (by simp)); have eb := is_name_eq (h := h) (ho b (by simp)); have ec := is_number_eq (h := h) (ho c (by simp))
      by_cases za : nameB a = true
      · by_cases zb : nameB b = true
        · obtain ⟨s, rfl, _, _, _, os⟩ := nameB_str za
          obtain ⟨t, rfl, _, _, _, ot⟩ := nameB_str zb
          by_cases q : s = t
          · subst q
            simp [b_is_key, e3, z, ea, za, os]; cases c <;> simp [keyB]
          · simp [b_is_key, e3, z, ea, za, os, eb, zb, ot, q, ec]
            cases c with
            | int i =>
              by_cases q0 : 0 ≤ i <;> simp [numB, keyB, za, zb, q, q0]
            | _ => simp [numB, keyB]
        · simp [b_is_key, e3, z, ea, eb, za, zb]; cases c <;> simp [keyB, zb]
      · simp [b_is_key, e3, z, ea, za]; cases c <;> simp [keyB, za]
    | _ => simp [tupB] at z
  · have : keyB v = false := by
      cases v with
      | tup l =>
        match l, z with
        | [], _ => rfl
        | [_], _ => rfl
        | [_, _], _ => rfl
        | [_, _, _], z => simp [tupB] at z
        | _ :: _ :: _ :: _ :: _, _ => simp [keyB]
      | _ => rfl
    simp [b_is_key, e3, z, this]))
@[simp] theorem txOk_SG : txOk SG = true := by decide +kernel
theorem fitsB_d {a m : Int} {k : Nat} : fitsB a m k = decide (a + k ≤ 400 ∧ ((m = 1 ∧ 4 ≤ k ∧ k % 4 = 0) ∨ (¬ m = 1 ∧ (a = 0 ∨ 1 ≤ k)))) := by
  rw [Bool.eq_iff_iff]
  unfold fitsB
  by_cases q : m = 1 <;> simp [q]
theorem fits_eq {a m : Int} {w : Tx} (hw : w.length ≤ 16777216) : m_fits [.int a, .int m, .str w] h = .ok (.bl (fitsB a m w.length)) h := wp_eq (runF_wp (by
  rw [fitsB_d]
  by_cases q : 400 < a + (w.length : Int)
  · simp [b_fits, hw, q]; omega
  · by_cases q1 : m = 1
    · by_cases q2 : 4 ≤ (w.length : Int)
      · simp [b_fits, hw, q, q1, q2]; rw [Bool.eq_iff_iff]; simp; omega
      · simp [b_fits, hw, q, q1, q2]; omega
    · by_cases q2 : a = 0
      · subst q2
        have q3 : ¬ 400 < (w.length : Int) := by omega
        simp [b_fits, hw, q1, q3]; omega
      · simp [b_fits, hw, q, q1, q2]; rw [Bool.eq_iff_iff]; simp; omega))
def inN : Val → Val
  | v => .bl (numB v)
theorem pieceB_tup (h : pieceB v = true) : ∃ k a m f hd w, v = .tup [k, .int a, .int m, .int f, hd, .str w] := by
  unfold pieceB at h
  split at h
  · exact ⟨_, _, _, _, _, _, rfl⟩
  · cases h
theorem numB_int (h : numB v = true) : ∃ i, v = .int i := by cases v <;> first | exact ⟨_, rfl⟩ | cases h
theorem is_piece_eq (hv : okD (n + 2) v = true) : m_is_piece [v] h = .ok (.bl (pieceB v)) h := wp_eq (runF_wp (by
  have e6 := is_tuple_eq (h := h) (k := 6) hv
  by_cases z : tupB 6 v = true
  · cases v with
    | tup l =>
      have hl : l.length = 6 := by simp [tupB] at z; omega
      obtain ⟨k, a, b, c, d, e, rfl⟩ := len6 hl
      obtain ⟨_, ho⟩ := okD_tup hv
      have hk := ho k (by simp); have ha := ho a (by simp); have hb := ho b (by simp); have hc := ho c (by simp); have hd := ho d (by simp); have he := ho e (by simp)
      have ek := is_key_eq (h := h) hk
      by_cases zk : keyB k = true
      · simp [b_is_piece, e6, z, ek, zk, okWipe, notOwn, wipeM, cut_mid (show (0:Int) ≤ 1 by decide) (show (0:Int) ≤ 4 by decide)]
        rw [lc_map inN (fun _ => true) _ _ (by simp) (fun v hv' => ?_)]
        · by_cases zn : (numB a && numB b && numB c) = true
          · simp only [Bool.and_eq_true] at zn
            obtain ⟨⟨ia, ib⟩, ic⟩ := zn
            obtain ⟨a, rfl⟩ := numB_int ia
            obtain ⟨b, rfl⟩ := numB_int ib
            obtain ⟨c, rfl⟩ := numB_int ic
            have et : ∀ i : Int, m_is_text [d, .int i] h = .ok (.bl (textB i d)) h := fun i => is_text_eq hd
            have eu := is_text_eq (h := h) (m := 400) he
            by_cases q1 : a < 0
            · have zp : pieceB (.tup [k, .int a, .int b, .int c, d, e]) = false := by
                cases q : pieceB (.tup [k, .int a, .int b, .int c, d, e])
                · rfl
                · obtain ⟨_, _, _, _, _, _, e⟩ := pieceB_tup q
                  cases e
                  simp [pieceB] at q
                  omega
              simp [inN, numB, bolsOf, q1, zp]
            · by_cases q2 : a % 4 = 0
              · by_cases q3 : b = 0 ∨ b = 1
                · by_cases q4 : c = 0 ∨ c = 1
                  · cases zd : textB (if a = 0 then 12 else 0) d with
                    | true =>
                      cases zw : textB 400 e with
                      | true =>
                        obtain ⟨w, rfl⟩ : ∃ w, e = .str w := by cases e <;> first | exact ⟨_, rfl⟩ | cases zw
                        have ef : m_fits [.int a, .int b, .str w] h = .ok (.bl (fitsB a b w.length)) h := fits_eq (okD_str he).2
                        have zp : pieceB (.tup [k, .int a, .int b, .int c, d, .str w]) = fitsB a b w.length := by
                          simp [pieceB, zk, zd, zw, q2, q3, q4]; omega
                        rw [zp]
                        by_cases q5 : a = 0
                        · subst q5
                          have zd : textB 12 d = true := zd
                          rcases q3 with rfl | rfl <;> rcases q4 with rfl | rfl <;> simp [inN, numB, bolsOf, inV?, et, eu, zw, zd, ef]
                        · rw [if_neg q5] at zd
                          rcases q3 with rfl | rfl <;> rcases q4 with rfl | rfl <;> simp [inN, numB, bolsOf, inV?, et, eu, zw, zd, ef, q1, q2, q5]
                      | false =>
                        have zp : pieceB (.tup [k, .int a, .int b, .int c, d, e]) = false := by
                          cases q : pieceB (.tup [k, .int a, .int b, .int c, d, e])
                          · rfl
                          · obtain ⟨_, _, _, _, _, _, e⟩ := pieceB_tup q
                            cases e
                            simp [pieceB, zw] at q
                        by_cases q5 : a = 0
                        · subst q5
                          have zd : textB 12 d = true := zd
                          rcases q3 with rfl | rfl <;> rcases q4 with rfl | rfl <;> simp [inN, numB, bolsOf, inV?, et, eu, zw, zd, zp]
                        · rw [if_neg q5] at zd
                          rcases q3 with rfl | rfl <;> rcases q4 with rfl | rfl <;> simp [inN, numB, bolsOf, inV?, et, eu, zw, zd, zp, q1, q2, q5]
                    | false =>
                      have zp : pieceB (.tup [k, .int a, .int b, .int c, d, e]) = false := by
                        cases q : pieceB (.tup [k, .int a, .int b, .int c, d, e])
                        · rfl
                        · obtain ⟨_, _, _, _, _, _, e⟩ := pieceB_tup q
                          cases e
                          simp only [pieceB, Bool.and_eq_true] at q
                          rw [q.1.1.2] at zd; cases zd
                      by_cases q5 : a = 0
                      · subst q5
                        have zd : textB 12 d = false := zd
                        rcases q3 with rfl | rfl <;> rcases q4 with rfl | rfl <;> simp [inN, numB, bolsOf, inV?, et, eu, zd, zp]
                      · rw [if_neg q5] at zd
                        rcases q3 with rfl | rfl <;> rcases q4 with rfl | rfl <;> simp [inN, numB, bolsOf, inV?, et, eu, zd, zp, q1, q2, q5]
                  · have zp : pieceB (.tup [k, .int a, .int b, .int c, d, e]) = false := by
                      cases q : pieceB (.tup [k, .int a, .int b, .int c, d, e])
                      · rfl
                      · obtain ⟨_, _, _, _, _, _, e⟩ := pieceB_tup q
                        cases e
                        simp only [pieceB, Bool.and_eq_true, Bool.or_eq_true, decide_eq_true_eq] at q
                        exact absurd q.1.1.1.2 q4
                    have q4' : ¬ 0 = c ∧ ¬ 1 = c := by omega
                    rcases q3 with rfl | rfl <;> simp [inN, numB, bolsOf, inV?, zp, q1, q2, q4']
                · have zp : pieceB (.tup [k, .int a, .int b, .int c, d, e]) = false := by
                    cases q : pieceB (.tup [k, .int a, .int b, .int c, d, e])
                    · rfl
                    · obtain ⟨_, _, _, _, _, _, e⟩ := pieceB_tup q
                      cases e
                      simp only [pieceB, Bool.and_eq_true, Bool.or_eq_true, decide_eq_true_eq] at q
                      exact absurd q.1.1.1.1.2 q3
                  have q3' : ¬ 0 = b ∧ ¬ 1 = b := by omega
                  simp [inN, numB, bolsOf, inV?, zp, q1, q2, q3']
              · have zp : pieceB (.tup [k, .int a, .int b, .int c, d, e]) = false := by
                  cases q : pieceB (.tup [k, .int a, .int b, .int c, d, e])
                  · rfl
                  · obtain ⟨_, _, _, _, _, _, e⟩ := pieceB_tup q
                    cases e
                    simp [pieceB] at q
                    omega
                simp [inN, numB, bolsOf, q1, q2, zp]
          · have zp : pieceB (.tup [k, a, b, c, d, e]) = false := by
              cases q : pieceB (.tup [k, a, b, c, d, e])
              · rfl
              · obtain ⟨_, _, _, _, _, _, e⟩ := pieceB_tup q
                cases e
                simp [numB] at zn
            simp [inN, bolsOf, zp]
            refine ch_of (fun q => ?_) fun q => ?_
            · simp [zp]
            · simp at zn q
              exact absurd q.2.2 (by simp [zn q.1 q.2.1])
        · have : okD (n + 1) v = true := by
            simp at hv'
            rcases hv' with rfl | rfl | rfl <;> assumption
          simp [is_number_eq (h := h) this, inN]
      · have zp : pieceB (.tup [k, a, b, c, d, e]) = false := by
          cases q : pieceB (.tup [k, a, b, c, d, e])
          · rfl
          · obtain ⟨_, _, _, _, _, _, e⟩ := pieceB_tup q
            cases e
            simp [pieceB, zk] at q
        simp [b_is_piece, e6, z, ek, zk, zp]
    | _ => simp [tupB] at z
  · have zp : pieceB v = false := by
      cases q : pieceB v
      · rfl
      · obtain ⟨_, _, _, _, _, _, rfl⟩ := pieceB_tup q
        simp [tupB] at z
    simp [b_is_piece, e6, z, zp]))
end

/-! ### pieces -/
structure Pc where
  snd : Tx
  ask : Tx
  num : Int
  at_ : Int
  more : Int
  firm : Int
  head : Tx
  words : Tx
def Pc.key (p : Pc) : Val := .tup [.str p.snd, .str p.ask, .int p.num]
def Pc.val (p : Pc) : Val := .tup [p.key, .int p.at_, .int p.more, .int p.firm, .str p.head, .str p.words]
def Nm (t : Tx) : Prop := 1 ≤ t.length ∧ t.length ≤ 8 ∧ ∀ c ∈ t, c ∈ LT
def Sg (t : Tx) : Prop := ∀ c ∈ t, c ∈ SG
structure Pc.Ok (p : Pc) : Prop where
  nm1 : Nm p.snd
  nm2 : Nm p.ask
  ne : p.snd ≠ p.ask
  num0 : 0 ≤ p.num
  num1 : p.num < 1000
  at0 : 0 ≤ p.at_
  at4 : p.at_ % 4 = 0
  mr : p.more = 0 ∨ p.more = 1
  fm : p.firm = 0 ∨ p.firm = 1
  hd : Sg p.head
  hdl : p.head.length ≤ 12
  hd0 : p.at_ ≠ 0 → p.head = []
  wd : Sg p.words
  tot : p.at_ + p.words.length ≤ 400
  m1 : p.more = 1 → 4 ≤ p.words.length ∧ p.words.length % 4 = 0
  m0 : p.more = 0 → p.at_ = 0 ∨ 1 ≤ p.words.length
theorem Nm.txOk {t : Tx} (h : Nm t) : txOk t = true := txOk_of fun c hc => by
  have : ∀ c ∈ LT, c < 1114112 := by decide +kernel
  exact this c (h.2.2 c hc)
theorem Nm.b {t : Tx} (h : Nm t) : nameB (.str t) = true := by
  simp [nameB, h.1, h.2.1]
  exact h.2.2
theorem Sg.ok {t : Tx} (h : Sg t) : txOk t = true := txOk_of fun c hc => by
  have : ∀ c ∈ SG, c < 1114112 := by decide +kernel
  exact this c (h c hc)
theorem Sg.app {s t : Tx} (a : Sg s) (b : Sg t) : Sg (s ++ t) := fun c hc => (List.mem_append.mp hc).elim (a c) (b c)
theorem Sg.take {t : Tx} (h : Sg t) (n : Nat) : Sg (t.take n) := fun c hc => h c (List.mem_of_mem_take hc)
theorem Sg.drop {t : Tx} (h : Sg t) (n : Nat) : Sg (t.drop n) := fun c hc => h c (List.mem_of_mem_drop hc)
theorem Sg.nil : Sg [] := fun c hc => by cases hc
theorem Sg.one {c : Nat} (h : c ∈ SG) : Sg [c] := fun d hd => by rw [List.mem_singleton.mp hd]; exact h
theorem SG_len : SG.length = 94 := by decide +kernel
theorem SG_len2 : List.length tx_6ff2de19 ≤ 16777216 := by rw [show List.length tx_6ff2de19 = 94 from SG_len]; decide
theorem LT_len : LT.length = 26 := by decide +kernel
theorem LT_len2 : List.length tx_c3fcd3d7 ≤ 16777216 := by rw [show List.length tx_c3fcd3d7 = 26 from LT_len]; decide
theorem SG_get {i : Int} (h : 0 ≤ i) (h2 : i < 94) : ∃ c, L2.atI SG i = some c ∧ c ∈ SG := by
  rw [atI_of SG h]
  have hl := SG_len
  exact ⟨_, List.getElem?_eq_getElem (by omega), List.getElem_mem _⟩
theorem LT_get {i : Int} (h : 0 ≤ i) (h2 : i < 26) : ∃ c, L2.atI LT i = some c ∧ c ∈ LT := by
  rw [atI_of LT h]
  have hl := LT_len
  exact ⟨_, List.getElem?_eq_getElem (by omega), List.getElem_mem _⟩
theorem Pc.Ok.wl {p : Pc} (o : p.Ok) : p.words.length ≤ 400 := by have := o.tot; have := o.at0; omega
theorem Pc.Ok.keyB {p : Pc} (o : p.Ok) : keyB p.key = true := by
  simp [Pc.key, Mi.keyB, o.nm1.b, o.nm2.b, o.ne, o.num0, o.num1]
theorem Pc.Ok.textB_h {p : Pc} (o : p.Ok) : textB (if p.at_ = 0 then 12 else 0) (.str p.head) = true := by
  have h1 : (p.head.all fun c => decide (c ∈ SG)) = true := by simp; exact o.hd
  have h2 := o.hdl
  by_cases z : p.at_ = 0
  · simp [textB, z, -List.all_eq_true, h1]; omega
  · simp [textB, z, o.hd0 z]
theorem Pc.Ok.textB_w {p : Pc} (o : p.Ok) : textB 400 (.str p.words) = true := by
  have h1 : (p.words.all fun c => decide (c ∈ SG)) = true := by simp; exact o.wd
  have := o.wl
  simp [textB, -List.all_eq_true, h1]; omega
theorem Pc.Ok.pieceB {p : Pc} (o : p.Ok) : pieceB p.val = true := by
  have h1 := o.at0
  have h2 := o.tot
  have h3 := o.m1
  have h4 := o.m0
  simp only [Pc.val, Mi.pieceB, o.keyB, o.textB_h, o.textB_w, fitsB_d, o.at4, h1]
  simp
  refine ⟨⟨o.mr, o.fm⟩, h2, ?_⟩
  rcases o.mr with e | e
  · rw [e]; right; exact ⟨by decide, h4 e⟩
  · rw [e]; left; exact ⟨rfl, h3 e⟩
theorem Pc.Ok.okD {p : Pc} (o : p.Ok) {n : Nat} : okD (n + 2) p.val = true := by
  have := o.wl; have := o.hdl; have := o.nm1.2.1; have := o.nm2.2.1
  simp [Pc.val, Pc.key, Mi.okD, o.nm1.txOk, o.nm2.txOk, o.hd.ok, o.wd.ok]
  omega
section
variable {h : MH} {p : Pc}
theorem Pc.is_piece (o : p.Ok) : m_is_piece [p.val] h = .ok (.bl true) h := by rw [is_piece_eq (n := 0) o.okD, o.pieceB]
def Pc.size (p : Pc) : Nat := 6 + p.head.length + p.words.length
def Pc.end_ (p : Pc) : Int := p.at_ + p.words.length
theorem Pc.size_eq (h1 : p.head.length ≤ 16777216) (h2 : p.words.length ≤ 16777216) : m_size_of [p.val] h = .ok (.int p.size) h := wp_eq (runF_wp (by
  simp [b_size_of, Pc.val, h1, h2, Pc.size]))
theorem Pc.end_eq (h2 : p.words.length ≤ 16777216) : m_end_of [p.val] h = .ok (.int p.end_) h := wp_eq (runF_wp (by
  simp [b_end_of, Pc.val, h2, Pc.end_]))
theorem whole_eq {k a b f : Val} : m_whole [k, .tup [a, b], f] h = .ok (.tup [k, .int 0, .int 0, f, a, b]) h := wp_eq (runF_wp (by
  simp [b_whole]))
end
def Pc.parts (p : Pc) : List Val := [p.key, .int p.at_, .int p.more, .int p.firm, .str p.head, .str p.words]
@[simp] theorem Pc.dr_val {p : Pc} {h : MH} : deref h p.val = p.val := rfl
@[simp] theorem Pc.tpV_val {p : Pc} : tpV p.val = some [p.key, .int p.at_, .int p.more, .int p.firm, .str p.head, .str p.words] := rfl
@[simp ↓] theorem Pc.wp_ix {p : Pc} {i : Int} {h : MH} [Q : Kt Val] [X : Kx] : (opIx p.val (.int i) h).wp = Op (L2.atI [p.key, .int p.at_, .int p.more, .int p.firm, .str p.head, .str p.words] i) h := by
  show (lift _ h).wp = _
  rw [wp_lift]; rfl
@[simp high] theorem Pc.ixV_val {p : Pc} {i : Int} : ixV p.val (.int i) = L2.atI [p.key, .int p.at_, .int p.more, .int p.firm, .str p.head, .str p.words] i := rfl
theorem Pc.Ok.wf {p : Pc} (o : p.Ok) {n : Nat} : wfD (n + 2) p.val = true := by
  simp [Pc.val, Pc.key, wfD, o.nm1.txOk, o.nm2.txOk, o.hd.ok, o.wd.ok]
theorem Pc.Ok.eqv {p : Pc} (o : p.Ok) : veq p.val p.val = true := veq_refl 2 _ (Pc.Ok.wf o)
end Mi
/-! ShO: things of any kind, spoilt at places. -/
namespace Mi
open PySem L2 PyProof.Rows
/-- a thing at most d deep, its rows and texts at most m long -/
def okS : Nat → Nat → Val → Bool
  | _, _, .non => true
  | _, _, .bl _ => true
  | _, _, .int _ => true
  | _, m, .str s => txOk s && decide (s.length ≤ m)
  | n + 1, m, .tup l => decide (l.length ≤ m) && l.all (okS n m)
  | n + 1, m, .lst l => decide (l.length ≤ m) && l.all (okS n m)
  | _, _, _ => false
@[simp] theorem okS_non {d m : Nat} : okS d m .non = true := by cases d <;> rfl
@[simp] theorem okS_bl {d m : Nat} {b : Bool} : okS d m (.bl b) = true := by cases d <;> rfl
@[simp] theorem okS_int {d m : Nat} {i : Int} : okS d m (.int i) = true := by cases d <;> rfl
@[simp] theorem okS_str {d m : Nat} {s : Tx} : okS d m (.str s) = (txOk s && decide (s.length ≤ m)) := by cases d <;> rfl
@[simp] theorem okS_tup {d m : Nat} {l : List Val} : okS (d + 1) m (.tup l) = (decide (l.length ≤ m) && l.all (okS d m)) := rfl
@[simp] theorem okS_lst {d m : Nat} {l : List Val} : okS (d + 1) m (.lst l) = (decide (l.length ≤ m) && l.all (okS d m)) := rfl
@[simp] theorem okS_tup0 {m : Nat} {l : List Val} : okS 0 m (.tup l) = false := rfl
@[simp] theorem okS_lst0 {m : Nat} {l : List Val} : okS 0 m (.lst l) = false := rfl
@[simp] theorem okS_ref {d m n : Nat} : okS d m (.ref n) = false := by cases d <;> rfl
@[simp] theorem okS_exc {d m : Nat} {c : String} {f : Option Val} : okS d m (.exc c f) = false := by cases d <;> rfl
@[simp] theorem okS_ktp {d m : Nat} {l : List Val} : okS d m (.ktp l) = false := by cases d <;> rfl
theorem okS_mono : ∀ {d e m k : Nat} {v : Val}, d ≤ e → m ≤ k → okS d m v = true → okS e k v = true
  | d, e, m, k, .non, _, _, _ => by simp
  | d, e, m, k, .bl _, _, _, _ => by simp
  | d, e, m, k, .int _, _, _, _ => by simp
  | d, e, m, k, .str s, _, h2, h => by simp at h ⊢; exact ⟨h.1, by omega⟩
  | 0, e, m, k, .tup l, _, _, h => by simp at h
  | 0, e, m, k, .lst l, _, _, h => by simp at h
  | d + 1, 0, m, k, v, h1, _, _ => by omega
  | d + 1, e + 1, m, k, .tup l, h1, h2, h => by
    simp at h ⊢
    exact ⟨by omega, fun x hx => okS_mono (by omega) h2 (h.2 x hx)⟩
  | d + 1, e + 1, m, k, .lst l, h1, h2, h => by
    simp at h ⊢
    exact ⟨by omega, fun x hx => okS_mono (by omega) h2 (h.2 x hx)⟩
  | d, e, m, k, .ref _, _, _, h => by simp at h
  | d, e, m, k, .exc _ _, _, _, h => by simp at h
  | d, e, m, k, .ktp _, _, _, h => by simp at h
theorem okS_okD : ∀ {d m : Nat} {v : Val}, m ≤ 16777216 → okS d m v = true → okD d v = true
  | d, m, .non, _, _ => by cases d <;> rfl
  | d, m, .bl _, _, _ => by cases d <;> rfl
  | d, m, .int _, _, _ => by cases d <;> rfl
  | d, m, .str s, h2, h => by simp at h; cases d <;> (simp [okD]; exact ⟨h.1, by omega⟩)
  | 0, m, .tup l, _, h => by simp at h
  | 0, m, .lst l, _, h => by simp at h
  | d + 1, m, .tup l, h2, h => by
    simp at h
    simp [okD]
    exact ⟨by omega, fun x hx => okS_okD h2 (h.2 x hx)⟩
  | d + 1, m, .lst l, h2, h => by
    simp at h
    simp [okD]
    exact ⟨by omega, fun x hx => okS_okD h2 (h.2 x hx)⟩
  | d, m, .ref _, _, h => by simp at h
  | d, m, .exc _ _, _, h => by simp at h
  | d, m, .ktp _, _, h => by simp at h
theorem okD_wf : ∀ {d n : Nat} {v : Val}, d ≤ n → okD d v = true → wfD n v = true
  | d, n, .non, _, _ => by simp
  | d, n, .bl _, _, _ => by simp
  | d, n, .int _, _, _ => by simp
  | d, n, .str s, h2, h => by have := (okD_str h).1; simpa using this
  | 0, n, .tup l, _, h => by simp [okD] at h
  | 0, n, .lst l, _, h => by simp [okD] at h
  | d + 1, 0, .tup l, h2, h => by omega
  | d + 1, 0, .lst l, h2, h => by omega
  | d + 1, n + 1, .tup l, h2, h => by
    have := (okD_tup h).2
    simp [wfD]
    exact fun x hx => okD_wf (by omega) (this x hx)
  | d + 1, n + 1, .lst l, h2, h => by
    have := (okD_lst h).2
    simp [wfD]
    exact fun x hx => okD_wf (by omega) (this x hx)
  | d, n, .ref _, _, h => by cases d <;> simp [okD] at h
  | d, n, .exc _ _, _, h => by cases d <;> simp [okD] at h
  | d, n, .ktp _, _, h => by cases d <;> simp [okD] at h
/-- what a thing may be -/
theorem okD_cases {d : Nat} {v : Val} (h : okD d v = true) : v = .non ∨ (∃ b, v = .bl b) ∨ (∃ i, v = .int i) ∨ (∃ s, v = .str s ∧ txOk s = true ∧ s.length ≤ 16777216) ∨ (∃ l e, v = .tup l ∧ d = e + 1 ∧ l.length ≤ 16777216 ∧ ∀ x ∈ l, okD e x = true) ∨ ∃ l e, v = .lst l ∧ d = e + 1 ∧ l.length ≤ 16777216 ∧ ∀ x ∈ l, okD e x = true := by
  cases v with
  | non => exact .inl rfl
  | bl b => exact .inr (.inl ⟨b, rfl⟩)
  | int i => exact .inr (.inr (.inl ⟨i, rfl⟩))
  | str s => exact .inr (.inr (.inr (.inl ⟨s, rfl, (okD_str h).1, (okD_str h).2⟩)))
  | tup l =>
    cases d with
    | zero => simp [okD] at h
    | succ e => exact .inr (.inr (.inr (.inr (.inl ⟨l, e, rfl, rfl, okD_tup h⟩))))
  | lst l =>
    cases d with
    | zero => simp [okD] at h
    | succ e => exact .inr (.inr (.inr (.inr (.inr ⟨l, e, rfl, rfl, okD_lst h⟩))))
  | ref n => cases d <;> simp [okD] at h
  | exc c f => cases d <;> simp [okD] at h
  | ktp l => cases d <;> simp [okD] at h
/-- rows of things -/
def okR (d m : Nat) (l : List Val) : Prop := l.length ≤ m ∧ ∀ x ∈ l, okS d m x = true
theorem okR.tup {d m : Nat} {l : List Val} (h : okR d m l) : okS (d + 1) m (.tup l) = true := by simp; exact h
theorem okR.lst {d m : Nat} {l : List Val} (h : okR d m l) : okS (d + 1) m (.lst l) = true := by simp; exact h
theorem okS_row {d m : Nat} {l : List Val} (h : okS (d + 1) m (.tup l) = true) : okR d m l := by simp at h; exact h
theorem okR.mono {d m e k : Nat} {l : List Val} (h : okR d m l) (h1 : d ≤ e) (h2 : m ≤ k) : okR e k l := ⟨Nat.le_trans h.1 h2, fun x hx => okS_mono h1 h2 (h.2 x hx)⟩
/-- parts of a row and new things, put together -/
theorem okR.of {d m k : Nat} {l r : List Val} (h : okR d m l) (hl : r.length ≤ k) (hm : m ≤ k) (hr : ∀ x ∈ r, x ∈ l ∨ okS d k x = true) : okR d k r :=
  ⟨hl, fun x hx => (hr x hx).elim (fun z => okS_mono (Nat.le_refl _) hm (h.2 x z)) id⟩
/-- one of a row, by a place that is drawn -/
theorem ixW {l : List Val} {u : Int} {h : MH} {Q : Kt Val} {X : Kx} (P : Val → Prop) (u0 : 0 ≤ u) (u1 : u < l.length) (ho : ∀ x ∈ l, P x) (k : ∀ x, P x → Q.run x h) : (opIx (.lst l) (.int u) h).wp := by
  obtain ⟨i, rfl⟩ := Int.eq_ofNat_of_zero_le u0
  have hi : i < l.length := by omega
  have := k l[i] (ho _ (List.getElem_mem hi))
  simp [atI_nn, hi]
  exact this
theorem ixT {l : List Val} {u : Int} {h : MH} {Q : Kt Val} {X : Kx} (P : Val → Prop) (u0 : 0 ≤ u) (u1 : u < l.length) (ho : ∀ x ∈ l, P x) (k : ∀ x, P x → Q.run x h) : (opIx (.tup l) (.int u) h).wp := by
  obtain ⟨i, rfl⟩ := Int.eq_ofNat_of_zero_le u0
  have hi : i < l.length := by omega
  have := k l[i] (ho _ (List.getElem_mem hi))
  simp [atI_nn, hi]
  exact this
theorem okS_strs {d m : Nat} {l : List Tx} (h : l.all (fun s => txOk s && decide (s.length ≤ m)) = true) : ∀ x ∈ l.map Val.str, okS d m x = true := by
  intro x hx
  obtain ⟨s, hs, rfl⟩ := List.mem_map.mp hx
  simp at h ⊢
  exact h s hs
/-- the boxes that are still to come -/
def BxI (l : List Val) (h : MH) : Prop := l.Nodup ∧ ∀ v ∈ l, ∃ n, v = .ref n ∧ Box h n 0
theorem BxI.start {L : Nat} {h : MH} (b : ∀ i, i < L → Box h i 0) : BxI ((List.range L).map Val.ref) h := by
  refine ⟨List.Pairwise.map _ (fun a b hab e => hab (by cases e; rfl)) List.nodup_range, fun v hv => ?_⟩
  obtain ⟨i, hi, rfl⟩ := List.mem_map.mp hv
  exact ⟨i, rfl, b i (List.mem_range.mp hi)⟩
theorem BxI.step {n : Nat} {l : List Val} {h h' : MH} (b : BxI (.ref n :: l) h) (o : Onl n h h') : BxI l h' := by
  refine ⟨(List.nodup_cons.mp b.1).2, fun v hv => ?_⟩
  obtain ⟨k, rfl, bk⟩ := b.2 v (List.mem_cons_of_mem _ hv)
  exact ⟨k, rfl, bk.keep (fun e => (List.nodup_cons.mp b.1).1 (by rw [← e]; exact hv)) o⟩
theorem BxI.head {v : Val} {l : List Val} {h : MH} (b : BxI (v :: l) h) : ∃ n, v = .ref n ∧ Box h n 0 := b.2 v List.mem_cons_self
theorem ixSt {t : Tx} {u : Int} {h : MH} {Q : Kt Val} {X : Kx} (u0 : 0 ≤ u) (u1 : u < t.length) (ht : t.length ≤ 16777216) (k : ∀ c ∈ t, Q.run (.str [c]) h) : (opIx (.str t) (.int u) h).wp := by
  obtain ⟨i, rfl⟩ := Int.eq_ofNat_of_zero_le u0
  have hi : i < t.length := by omega
  have := k t[i] (List.getElem_mem hi)
  simp [atI_nn, hi, ht]
  exact this
theorem txOk_iff {t : Tx} : txOk t = true ↔ ∀ c ∈ t, c < 1114112 := by unfold txOk; simp
theorem txOk_app {a b : Tx} (ha : txOk a = true) (hb : txOk b = true) : txOk (a ++ b) = true := by
  rw [txOk_iff] at *
  intro c hc
  rcases List.mem_append.mp hc with z | z
  · exact ha c z
  · exact hb c z
theorem txOk_take {a : Tx} {n : Nat} (ha : txOk a = true) : txOk (a.take n) = true := by
  rw [txOk_iff] at *
  exact fun c hc => ha c (List.mem_of_mem_take hc)
theorem txOk_drop {a : Tx} {n : Nat} (ha : txOk a = true) : txOk (a.drop n) = true := by
  rw [txOk_iff] at *
  exact fun c hc => ha c (List.mem_of_mem_drop hc)
theorem txOk_one {c : Nat} (h : c < 1114112) : txOk [c] = true := by rw [txOk_iff]; intro d hd; rw [List.mem_singleton.mp hd]; exact h
theorem isi_tup_no {v : Val} (hv : ∀ l, v ≠ .tup l) {d m : Nat} (o : okS d m v = true) (h : MH) : isiV "tuple" h v = some (.bl false) := by
  cases v <;> first | exact absurd rfl (hv _) | (simp at o; done) | simp
end Mi
/-! ShR: makes of rooms. -/
namespace Mi
open PySem L2 PyProof.Rows
def b_is_word : MS := (sRet (mAndV (mIsi "str" (mV 0)) (mBin opIn (mV 0) (mV 1))))
def m_is_word : MF := runF 2 b_is_word
def b_is_between : MS := (sRet (mAndV (mIsi "int" (mV 0)) (mAndV (mNotV (mIsi "bool" (mV 0))) (mChain opLe opLe (mV 1) (mV 0) (mV 2)))))
def m_is_between : MF := runF 3 b_is_between
def b_is_make : MS := (sSeq (sIf (mOr (mNot (mTruth (mIsi "tuple" (mV 0)))) (mAsB (mBin opNe (mCall (fn1 lenV) (mCons (mV 0) mNil)) (mC (.int 6))))) (sRet (mC (.bl false))) sSkip)
  (sSeq (sAsgG (mV 0) (gTupM 6 (gsCons (gSet 1) (gsCons (gSet 2) (gsCons (gSet 3) (gsCons (gSet 4) (gsCons (gSet 5) (gsCons (gSet 6) gsNil))))))))
  (sSeq (sIf (mOr (mNot (mTruth (mFn 2 m_is_word (mCons (mV 1) (mCons (mC (.ktp [.str [115, 116, 114, 105, 99, 116], .str [101, 97, 114, 108, 121]])) mNil))))) (mNot (mTruth (mFn 2 m_is_word (mCons (mV 6) (mCons (mC (.ktp [.str [110, 101, 119], .str [111, 108, 100], .str [103, 114, 101, 97, 116]])) mNil)))))) (sRet (mC (.bl false))) sSkip)
  (sSeq (sIf (mOr (mNot (mTruth (mFn 3 m_is_between (mCons (mV 2) (mCons (mC (.int 1)) (mCons (mC (.int 60)) mNil)))))) (mNot (mTruth (mFn 3 m_is_between (mCons (mV 3) (mCons (mC (.int 0)) (mCons (mC (.int 200)) mNil))))))) (sRet (mC (.bl false))) sSkip)
  (sRet (mAndV (mFn 3 m_is_between (mCons (mV 4) (mCons (mC (.int 24)) (mCons (mC (.int 4000)) mNil)))) (mFn 3 m_is_between (mCons (mV 5) (mCons (mC (.int 1)) (mCons (mC (.int 20)) mNil))))))))))
def m_is_make : MF := runF 7 b_is_make
/-- a number within bounds -/
def isNum (a b : Int) : Val → Bool
  | .int i => decide (a ≤ i) && decide (i ≤ b)
  | _ => false
theorem btw_eq {d : Nat} {v : Val} {a b : Int} {h : MH} (hv : okD d v = true) : m_is_between [v, .int a, .int b] h = .ok (.bl (isNum a b v)) h := wp_eq (runF_wp (by
  rcases okD_cases hv with rfl | ⟨c, rfl⟩ | ⟨i, rfl⟩ | ⟨s, rfl, _⟩ | ⟨l, e, rfl, _⟩ | ⟨l, e, rfl, _⟩
  · simp [b_is_between, isNum]
  · simp [b_is_between, isNum]
  · by_cases z : a ≤ i <;> simp [b_is_between, isNum, z]
  · simp [b_is_between, isNum]
  · simp [b_is_between, isNum]
  · simp [b_is_between, isNum]))
/-- one of some words -/
def wordB (ws : List Tx) : Val → Bool
  | .str s => ws.any fun w => w == s
  | _ => false
theorem veq_strs (ws : List Tx) (s : Tx) : (ws.map Val.str).any (fun z => veq z (.str s)) = ws.any fun w => w == s := by
  induction ws with
  | nil => rfl
  | cons w ws ih => simp [ih]
theorem word_eq {d : Nat} {v : Val} {ws : List Tx} {h : MH} (hv : okD d v = true) (hw : ws.all txOk = true) : m_is_word [v, .ktp (ws.map Val.str)] h = .ok (.bl (wordB ws v)) h := wp_eq (runF_wp (by
  rcases okD_cases hv with rfl | ⟨c, rfl⟩ | ⟨i, rfl⟩ | ⟨s, rfl, ts, _⟩ | ⟨l, e, rfl, _⟩ | ⟨l, e, rfl, _⟩
  · simp [b_is_word, wordB]
  · simp [b_is_word, wordB]
  · simp [b_is_word, wordB]
  · have w2 : (ws.map Val.str).all (wfD 63) = true := by simpa using hw
    have e : inV? (.str s) (.ktp (ws.map Val.str)) = some (wordB ws (.str s)) := by
      show (if wfD 64 (.str s) && (ws.map Val.str).all (wfD 63) then some ((ws.map Val.str).any fun z => veq z (.str s)) else none) = _
      rw [w2, veq_strs, wf_str, ts]
      rfl
    have ed : deref h (.ktp (ws.map Val.str)) = .ktp (ws.map Val.str) := rfl
    simp [b_is_word, ed, e]
  · simp [b_is_word, wordB]
  · simp [b_is_word, wordB]))
abbrev wStrict : Tx := [115, 116, 114, 105, 99, 116]
abbrev wEarly : Tx := [101, 97, 114, 108, 121]
abbrev wNew : Tx := [110, 101, 119]
abbrev wOld : Tx := [111, 108, 100]
abbrev wGreat : Tx := [103, 114, 101, 97, 116]
def makeB : Val → Bool
  | .tup [r, h, e, m, c, w] => wordB [wStrict, wEarly] r && wordB [wNew, wOld, wGreat] w && isNum 1 60 h && isNum 0 200 e && isNum 24 4000 m && isNum 1 20 c
  | _ => false
theorem tup6 (l : List Val) : (∃ a b c d e f, l = [a, b, c, d, e, f]) ∨ l.length ≠ 6 := by
  by_cases z : l.length = 6
  · exact .inl (len6 z)
  · exact .inr z
theorem makeB_no {l : List Val} (h : l.length ≠ 6) : makeB (.tup l) = false := by
  rcases l with _ | ⟨_, _ | ⟨_, _ | ⟨_, _ | ⟨_, _ | ⟨_, _ | ⟨_, _ | _⟩⟩⟩⟩⟩⟩ <;> first | rfl | simp at h
theorem make_eq {d : Nat} {v : Val} {h : MH} (hv : okD d v = true) : m_is_make [v] h = .ok (.bl (makeB v)) h := wp_eq (runF_wp (by
  rcases okD_cases hv with rfl | ⟨c, rfl⟩ | ⟨i, rfl⟩ | ⟨s, rfl, ts, _⟩ | ⟨l, e, rfl, rfl, hl, ho⟩ | ⟨l, e, rfl, _⟩
  · simp [b_is_make, makeB]
  · simp [b_is_make, makeB]
  · simp [b_is_make, makeB]
  · simp [b_is_make, makeB]
  · rcases tup6 l with ⟨a, b, c, d, f, g, rfl⟩ | z
    · have e1 := word_eq (h := h) (ws := [wStrict, wEarly]) (ho a (by simp)) (by decide)
      have e2 := word_eq (h := h) (ws := [wNew, wOld, wGreat]) (ho g (by simp)) (by decide)
      have e3 := btw_eq (h := h) (a := 1) (b := 60) (ho b (by simp))
      have e4 := btw_eq (h := h) (a := 0) (b := 200) (ho c (by simp))
      have e5 := btw_eq (h := h) (a := 24) (b := 4000) (ho d (by simp))
      have e6 := btw_eq (h := h) (a := 1) (b := 20) (ho f (by simp))
      simp only [List.map] at e1 e2
      cases z1 : wordB [wStrict, wEarly] a with
      | false => simp [b_is_make, makeB, e1, z1]
      | true =>
        cases z2 : wordB [wNew, wOld, wGreat] g with
        | false => simp [b_is_make, makeB, e1, e2, z1, z2]
        | true =>
          cases z3 : isNum 1 60 b with
          | false => simp [b_is_make, makeB, e1, e2, e3, z1, z2, z3]
          | true =>
            cases z4 : isNum 0 200 c with
            | false => simp [b_is_make, makeB, e1, e2, e3, e4, z1, z2, z3, z4]
            | true =>
              cases z5 : isNum 24 4000 d with
              | false => simp [b_is_make, makeB, e1, e2, e3, e4, e5, z1, z2, z3, z4, z5]
              | true => simp [b_is_make, makeB, e1, e2, e3, e4, e5, e6, z1, z2, z3, z4, z5]
    · simp [b_is_make, makeB_no z, hl, show ¬ (l.length : Int) = 6 by omega]
  · simp [b_is_make, makeB]))
end Mi
/-! Sh1: draws of k01 .. k06. -/
namespace Mi
open PySem L2 PyProof.Rows
def b__law_folded : MS := (sSeq (sSetO 2 (mCall listF (mCons (mSl (mV 0) mNoP (mP (mV 1))) mNil)))
  (sSeq (sFor (mEnum (mSl (mV 0) (mP (mV 1)) (mP (mC (.int 63))))) (gTupM 2 (gsCons (gSet 3) (gsCons (gSet 4) gsNil)))
  (sOwnPut 2 (mBin opAdd (mBin opIx (mO 2) (mBin opMod (mV 3) (mV 1))) (mBin opMul (mV 4) (mBin opAdd (mV 3) (mC (.int 2))))) (mBin opMod (mV 3) (mV 1))))
  (sRet (mBin opAdd (mO 2) (mBin opMul (mMap Val.lst (mLst (mCons (mC (.int 0)) mNil))) (mBin opSub (mC (.int 2)) (mCall (fn1 lenV) (mCons (mO 2) mNil))))))))
def m__law_folded : MF := runF 5 b__law_folded
def b__law_long_by : MS := (sSeq (sSet 1 (mFn 2 m__law_take (mCons (mV 0) (mCons (mC (.int 8)) mNil))))
  (sRet (mIf (mAsB (mBin opLt (mV 1) (mC (.int 3)))) (mBin opIx (mMap Val.lst (mLst (mCons (mC (.int 0)) (mCons (mC (.int 1)) (mCons (mC (.int 4)) mNil))))) (mV 1)) (mFn 2 m__law_take (mCons (mV 0) (mCons (mBin opIx (mMap Val.lst (mLst (mCons (mC (.int 24)) (mCons (mC (.int 60)) (mCons (mC (.int 60)) (mCons (mC (.int 60)) (mCons (mC (.int 401)) mNil))))))) (mBin opSub (mV 1) (mC (.int 3)))) mNil))))))
def m__law_long_by : MF := runF 2 b__law_long_by
def b__law_names_by : MS := (sSeq (sSet 2 (mC (.str tx_c3fcd3d7)))
  (sSeq (sSet 3 (mTx joinV (mC (.str [])) (mMap Val.lst (mLc [6] (mRange1 (mFn 2 m__law_take (mCons (mV 0) (mCons (mC (.int 8)) mNil)))) (.nm 6) mYes (mBin opIx (mV 2) (mFn 2 m__law_take (mCons (mV 0) (mCons (mC (.int 26)) mNil))))))))
  (sSeq (sAsgG (mTup (mCons (mFn 2 m__law_take (mCons (mV 0) (mCons (mBin opAdd (mCall (fn1 lenV) (mCons (mV 3) mNil)) (mC (.int 1))) mNil))) (mCons (mFn 2 m__law_take (mCons (mV 0) (mCons (mC (.int 26)) mNil))) mNil))) (gTupM 2 (gsCons (gSet 4) (gsCons (gSet 5) gsNil))))
  (sRet (mMap Val.lst (mLc [6] (mRange1 (mV 1)) (.nm 6) mYes (mBin opAdd (mBin opAdd (mSl (mV 3) mNoP (mP (mV 4))) (mBin opIx (mV 2) (mBin opMod (mBin opAdd (mV 5) (mBin opMul (mC (.int 11)) (mV 6))) (mC (.int 26))))) (mSl (mV 3) (mP (mV 4)) mNoP))))))))
def m__law_names_by : MF := runF 7 b__law_names_by
def b__law_key_by : MS := (sSeq (sSet 1 (mBin opIx (mMap Val.lst (mLst (mCons (mC (.int 0)) (mCons (mC (.int 999)) (mCons (mC (.int 999)) (mCons (mC (.int 1000)) mNil)))))) (mFn 2 m__law_take (mCons (mV 0) (mCons (mC (.int 4)) mNil)))))
  (sSeq (sSet 2 (mFn 2 m__law_names_by (mCons (mV 0) (mCons (mC (.int 2)) mNil))))
  (sRet (mTup (mCons (mBin opIx (mV 2) (mC (.int 0))) (mCons (mBin opIx (mV 2) (mC (.int 1))) (mCons (mIf (mAsB (mBin opEq (mV 1) (mC (.int 1000)))) (mFn 2 m__law_take (mCons (mV 0) (mCons (mC (.int 1000)) mNil))) (mV 1)) mNil)))))))
def m__law_key_by : MF := runF 3 b__law_key_by
def b__law_text_by : MS := (sSeq (sSet 2 (mFn 0 m__law_signs mNil))
  (sRet (mTx joinV (mC (.str [])) (mMap Val.lst (mLc [3] (mRange1 (mV 1)) (.nm 3) mYes (mBin opIx (mV 2) (mFn 2 m__law_take (mCons (mV 0) (mCons (mC (.int 94)) mNil)))))))))
def m__law_text_by : MF := runF 4 b__law_text_by
def b__law_piece_by_1 : MS := (sRet (mTup (mCons (mFn 1 m__law_key_by (mCons (mV 0) mNil)) (mCons (mV 2) (mCons (mV 4) (mCons (mV 5) (mCons (mV 3) (mCons (mFn 2 m__law_text_by (mCons (mV 0) (mCons (mV 1) mNil))) mNil))))))))
def b__law_piece_by_2 : MS := (sSeq (sSet 3 (mIf (mAsB (mBin opEq (mV 2) (mC (.int 0)))) (mFn 2 m__law_text_by (mCons (mV 0) (mCons (mFn 2 m__law_take (mCons (mV 0) (mCons (mC (.int 13)) mNil))) mNil))) (mC (.str []))))
  b__law_piece_by_1)
def b__law_piece_by_3 : MS := (sSeq (sIf (mAsB (mBin opGt (mV 2) (mC (.int 0)))) (sSet 1 (mCall (fn2 max2V) (mCons (mC (.int 1)) (mCons (mV 1) mNil)))) sSkip)
  b__law_piece_by_2)
def b__law_piece_by_4 : MS := (sSeq (sSet 1 (mCall (fn2 min2V) (mCons (mV 1) (mCons (mBin opSub (mC (.int 400)) (mV 2)) mNil))))
  (sSeq (sIf (mAsB (mBin opEq (mV 4) (mC (.int 1)))) (sSet 1 (mCall (fn2 max2V) (mCons (mC (.int 4)) (mCons (mBin opSub (mV 1) (mBin opMod (mV 1) (mC (.int 4)))) mNil)))) sSkip)
  b__law_piece_by_3))
def b__law_piece_by : MS := (sSeq (sPar3 4 5 6 (mCons (mFn 2 m__law_take (mCons (mV 0) (mCons (mC (.int 2)) mNil))) (mCons (mFn 2 m__law_take (mCons (mV 0) (mCons (mC (.int 2)) mNil))) (mCons (mFn 2 m__law_take (mCons (mV 0) (mCons (mC (.int 2)) mNil))) mNil))))
  (sSeq (sSet 1 (mFn 1 m__law_long_by (mCons (mV 0) mNil)))
  (sSeq (sSet 2 (mIf (mAsB (mBin opEq (mV 6) (mC (.int 0)))) (mC (.int 0)) (mBin opAdd (mC (.int 4)) (mBin opMul (mC (.int 4)) (mFn 2 m__law_take (mCons (mV 0) (mCons (mBin opIx (mMap Val.lst (mLst (mCons (mC (.int 10)) (mCons (mC (.int 99)) mNil)))) (mFn 2 m__law_take (mCons (mV 0) (mCons (mC (.int 2)) mNil)))) mNil)))))))
  b__law_piece_by_4)))
def m__law_piece_by : MF := runF 7 b__law_piece_by
def b__law_like (rec : MF) : MS := (sSeq (sIf (mTruth (mIsiT ["list", "tuple"] (mV 1))) (sSeq (sIf (mOr (mAsB (mBin opNe (mIsi "list" (mV 0)) (mIsi "list" (mV 1)))) (mAsB (mBin opNe (mIsi "tuple" (mV 0)) (mIsi "tuple" (mV 1))))) (sRet (mC (.bl false))) sSkip)
  (sRet (mAndV (mBin opEq (mCall (fn1 lenV) (mCons (mV 0) mNil)) (mCall (fn1 lenV) (mCons (mV 1) mNil))) (mCall (fn1 allV) (mCons (mMap Val.lst (mLc [2, 3] (mZip (mV 0) (mV 1)) (.tp [(.nm 2), (.nm 3)]) mYes (mFn 2 rec (mCons (mV 2) (mCons (mV 3) mNil))))) mNil))))) sSkip)
  (sSeq (sIf (mOr (mAsB (mBin opIsN (mV 1) (mC .non))) (mTruth (mIsi "str" (mV 1)))) (sRet (mAndV (mBin opEq (mV 0) (mV 1)) (mBin opEq (mIsi "str" (mV 0)) (mIsi "str" (mV 1))))) sSkip)
  (sSeq (sIf (mTruth (mIsi "bool" (mV 1))) (sRet (mAndV (mIsi "bool" (mV 0)) (mBin opEq (mV 0) (mV 1)))) sSkip)
  (sRet (mAndV (mIsi "int" (mV 0)) (mAndV (mNotV (mIsi "bool" (mV 0))) (mBin opEq (mV 0) (mV 1))))))))
def r__law_like : Nat → MF
  | 0 => fun _ _ => .bad
  | n + 1 => runF 4 (b__law_like (r__law_like n))
def m__law_like : MF := r__law_like 6
def foldI (ns : List Int) (m : Nat) (l : List Val) (σ : Env) (h : MH) : Prop := h = [] ∧ ∃ (ms : List Int) (s3 s4 : Slot), σ = [.val (.lst (ns.map Val.int)), .val (.int (m : Nat)), .own (ms.map Val.int), s3, s4] ∧ ms.length = min m ns.length ∧ (l ≠ [] → m ≤ ns.length) ∧ ∀ v ∈ l, ∃ (i : Nat) (c : Int), v = .tup [.int (i : Nat), .int c] ∧ i < 63
theorem folded_ex {ns : List Int} {m : Nat} (hn : ns.length ≤ 63) (hm : 1 ≤ m) (hm2 : m ≤ 63) :
    ∃ ms : List Int, 2 ≤ ms.length ∧ ms.length ≤ 63 ∧ m__law_folded [.lst (ns.map Val.int), .int (m : Nat)] [] = .ok (.lst (ms.map Val.int)) [] := by
  suffices w : @Res.wp Val (m__law_folded [.lst (ns.map Val.int), .int (m : Nat)] []) ⟨fun v h => h = [] ∧ ∃ ms : List Int, 2 ≤ ms.length ∧ ms.length ≤ 63 ∧ v = .lst (ms.map Val.int)⟩ noX by
    obtain ⟨v, h, e, rfl, ms, h1, h2, rfl⟩ := wp_ex w
    exact ⟨ms, h1, h2, e⟩
  refine runF_wp ?_
  simp [b__law_folded, cut_to, cut_from, cut_mid]
  refine for_wp _ (foldI ns m) ?_ ?_ _ _ _ ?_
  · rintro v l σ h ⟨rfl, ms, s3, s4, rfl, hl, hne, hv⟩
    obtain ⟨i, c, rfl, hi⟩ := hv v List.mem_cons_self
    have hm' := hne (by simp)
    have hmod : (i : Int) % (m : Int) = ((i % m : Nat) : Int) := by omega
    have hlt : i % m < ms.length := by
      have := Nat.mod_lt i (show m > 0 by omega)
      omega
    obtain ⟨d, hd⟩ : ∃ d, ms[i % m]? = some d := ⟨_, List.getElem?_eq_getElem hlt⟩
    have p1 : ((i : Int) + 2).natAbs < 18446744073709551616 := by omega
    have p2 : (0 : Int) < m := by omega
    simp [p2, hmod, atI_nn, hd, p1, ixN_nn hlt, -Int.natCast_emod, show 0 < m by omega]
    refine ⟨rfl, ms.set (i % m) (d + c * ((i : Int) + 2)), _, _, by rw [List.map_set], by rw [List.length_set]; exact hl, fun z => hne (by simp), fun v hv' => ?_⟩
    exact hv v (List.mem_cons_of_mem _ hv')
  · rintro σ h ⟨rfl, ms, s3, s4, rfl, hl, _, _⟩
    have hz : ms.length ≤ 63 := by omega
    simp
    refine ch_go (by omega) ?_
    simp
    refine ch_go (by omega) ?_
    refine ⟨rfl, ms ++ List.replicate (2 - (ms.length : Int)).toNat 0, by simp; omega, by simp; omega, by simp [List.flatten_replicate_singleton]⟩
  · refine ⟨rfl, ns.take m, .unset, .unset, by rw [List.map_take], by simp, fun z => ?_, fun v hv => ?_⟩
    · by_cases q : m ≤ ns.length
      · exact q
      · exact absurd (by rw [List.drop_eq_nil_of_le (by simp; omega)]; simp [enumF]) z
    · obtain ⟨i, w, e1, e2, e3⟩ := enumF_mem hv
      have e4 := List.mem_of_mem_take e2
      obtain ⟨c, _, rfl⟩ := List.mem_map.mp (List.mem_of_mem_drop e4)
      refine ⟨i, c, e1, ?_⟩
      simp at e3
      omega
theorem long_wp {h : MH} {n c : Nat} {Q : Kt Val} {X : Kx} (hb : Box h n c) (hc : c ≤ 4000000000)
    (k : ∀ m h', 0 ≤ m → m ≤ 400 → Box h' n (c + 2) → Onl n h h' → Q.run (.int m) h') : (m__law_long_by [.ref n] h).wp := by
  refine runF_wp ?_
  simp [b__law_long_by]
  refine take_wp hb (by decide) (by decide) (by omega) fun a h1 a0 a1 hb1 o1 => ?_
  obtain ⟨j, rfl⟩ := Int.eq_ofNat_of_zero_le a0
  have hj : j = 0 ∨ j = 1 ∨ j = 2 ∨ j = 3 ∨ j = 4 ∨ j = 5 ∨ j = 6 ∨ j = 7 := by omega
  rcases hj with rfl | rfl | rfl | rfl | rfl | rfl | rfl | rfl
  all_goals simp
  · exact k _ _ (by decide) (by decide) (hb1.mono (by omega)) o1
  · exact k _ _ (by decide) (by decide) (hb1.mono (by omega)) o1
  · exact k _ _ (by decide) (by decide) (hb1.mono (by omega)) o1
  all_goals exact take_wp hb1 (by decide) (by decide) (by omega) fun a h2 a0 a1 hb2 o2 => k _ _ (by omega) (by omega) hb2 (o1.trans o2)

theorem text_by_wp {h : MH} {n c : Nat} {m : Int} {Q : Kt Val} {X : Kx} (hb : Box h n c) (hm : m ≤ 1000000) (hm0 : 0 ≤ m) (hc : c ≤ 4000000000)
    (k : ∀ t h', Sg t → (t.length : Int) = m → Box h' n (c + m.toNat) → Onl n h h' → Q.run (.str t) h') : (m__law_text_by [.ref n, .int m] h).wp := by
  refine runF_wp ?_
  have hl : (rangeL 0 m).length = m.toNat := by simp [rangeL]
  have hs : m__law_signs [] h = .ok (.str SG) h := wp_eq (runF_wp (by simp [b__law_signs]))
  simp [b__law_text_by, hs, okWipe, notOwn, wipeM]
  refine ch_go ⟨by omega, by omega⟩ ?_
  simp [okWipe, notOwn, wipeM]
  refine lc_draw (n := n) (d := 1) (C := c) (fun y => ∃ c, y = .str [c] ∧ c ∈ SG) ?_ ?_ hb (fun v hv h1 c1 hc1 hb1 => ?_) fun ys h' hy hp hb' o => ?_
  · simp
  · rw [hl]; omega
  · simp
    rw [hl] at hc1
    refine take_wp hb1 (by decide) (by decide) (by omega) fun u h2 u0 u1 hb2 o2 => ?_
    obtain ⟨d, hd, hd2⟩ := SG_get u0 u1
    simp [SG_len2, hd]
    exact ⟨hd2, hb2, o2⟩
  · obtain ⟨t, rfl, ht, hp⟩ := chars_of hp
    rw [hy, hl] at ht
    simp
    refine ch_go (by omega) ?_
    rw [hl, Nat.mul_one] at hb'
    exact k _ _ hp (by omega) hb' o
/-- the names drawn -/
def nmOf (st : Tx) (a f : Nat) (k : Nat) : Tx := st.take a ++ LT.getD ((f + 11 * k) % 26) 0 :: st.drop a
theorem nmOf_Nm {st : Tx} {a f k : Nat} (h : ∀ c ∈ st, c ∈ LT) (hl : st.length ≤ 7) : Nm (nmOf st a f k) := by
  have e : LT.getD ((f + 11 * k) % 26) 0 ∈ LT := by
    have := LT_len
    rw [List.getD_eq_getElem?_getD, List.getElem?_eq_getElem (show (f + 11 * k) % 26 < LT.length by omega)]
    exact List.getElem_mem _
  have hlen : (nmOf st a f k).length = st.length + 1 := by simp [nmOf]; omega
  refine ⟨by omega, by omega, fun c hc => ?_⟩
  rcases List.mem_append.mp hc with q | q
  · exact h c (List.mem_of_mem_take q)
  · rcases List.mem_cons.mp q with q | q
    · rw [q]; exact e
    · exact h c (List.mem_of_mem_drop q)
theorem LT_inj : ∀ i, i < 26 → ∀ j, j < 26 → LT.getD i 0 = LT.getD j 0 → i = j := by decide +kernel
theorem nmOf_inj {st : Tx} {a f j k : Nat} (ha : a ≤ st.length) (hj : j < 26) (hk : k < 26) (e : nmOf st a f j = nmOf st a f k) : j = k := by
  unfold nmOf at e
  have e2 := (List.append_inj e rfl).2
  have e3 := LT_inj _ (Nat.mod_lt _ (by decide)) _ (Nat.mod_lt _ (by decide)) (List.cons.inj e2).1
  omega
theorem LT_at : ∀ k, k < 26 → LT[k]? = some (LT.getD k 0) := by decide +kernel
def nmV (st : Tx) (a f : Nat) : Val → Val
  | .int k => .str (nmOf st a f k.toNat)
  | _ => .non
theorem names_by_wp {h : MH} {n c : Nat} {m : Int} {Q : Kt Val} {X : Kx} (hb : Box h n c) (hm0 : 0 ≤ m) (hm : m ≤ 26) (hc : c ≤ 4000000000)
    (k : ∀ st a f h', (∀ c ∈ st, c ∈ LT) → st.length ≤ 7 → a ≤ st.length → f < 26 → Box h' n (c + 10) → Onl n h h' → Q.run (.lst ((List.range m.toNat).map fun i => .str (nmOf st a f i))) h') : (m__law_names_by [.ref n, .int m] h).wp := by
  refine runF_wp ?_
  simp [b__law_names_by]
  refine take_wp hb (by decide) (by decide) (by omega) fun u h1 u0 u1 hb1 o1 => ?_
  simp
  refine ch_go ⟨by omega, by omega⟩ ?_
  simp [okWipe, notOwn, wipeM]
  have hl : (rangeL 0 u).length = u.toNat := by simp [rangeL]
  refine lc_draw (n := n) (d := 1) (C := c + 1) (fun y => ∃ c, y = .str [c] ∧ c ∈ LT) (by simp) (by omega) hb1 (fun v hv h1 c1 hc1 hb1 => ?_) fun ys h' hy hp hb' o => ?_
  · simp
    rw [hl] at hc1
    refine take_wp hb1 (by decide) (by decide) (by omega) fun u h2 u0 u1 hb2 o2 => ?_
    obtain ⟨d, hd, hd2⟩ := LT_get u0 u1
    simp [LT_len2, hd]
    exact ⟨hd2, hb2, o2⟩
  · obtain ⟨st, rfl, ht, hp⟩ := chars_of hp
    rw [hy, hl] at ht
    rw [hl, Nat.mul_one] at hb'
    simp
    refine ch_go (by omega) ?_
    simp [show List.length st ≤ 16777216 by omega]
    refine take_wp hb' (by omega) (by omega) (by omega) fun a h2 a0 a1 hb2 o2 => ?_
    simp
    refine take_wp hb2 (by decide) (by decide) (by omega) fun f h3 f0 f1 hb3 o3 => ?_
    obtain ⟨A, rfl⟩ := Int.eq_ofNat_of_zero_le a0
    obtain ⟨F, rfl⟩ := Int.eq_ofNat_of_zero_le f0
    simp
    refine ch_go ⟨by omega, by omega⟩ ?_
    simp [okWipe, notOwn, wipeM]
    rw [lc_map (nmV st A F) (fun _ => true) _ _ (by simp [rangeL]; omega) (fun v hv => ?_)]
    · simp
      have e : List.map (nmV st A F) (rangeL 0 m) = (List.range m.toNat).map fun i => .str (nmOf st A F i) := by
        simp [rangeL, nmV]
      rw [e]
      exact k st A F h3 hp (by omega) (by omega) (by omega) (hb3.mono (by omega)) (((o1.trans o).trans o2).trans o3)
    · obtain ⟨j, hj, rfl⟩ := List.mem_map.mp hv
      have hj' : j < m.toNat := by simpa using hj
      have e : ((F : Int) + 11 * (j : Int)) % 26 = (((F + 11 * j) % 26 : Nat) : Int) := by omega
      have g0 : LT[(F + 11 * j) % 26]? = some (LT.getD ((F + 11 * j) % 26) 0) := LT_at _ (by omega)
      simp [wipeM, LT_len2, cut_to, cut_from, show List.length st ≤ 16777216 by omega, show j < 18446744073709551616 by omega]
      rw [e, atI_nn, g0]
      simp
      repeat (refine ch_go (by omega) ?_; simp)
      simp [nmV, nmOf]
theorem key_by_wp {h : MH} {n c : Nat} {Q : Kt Val} {X : Kx} (hb : Box h n c) (hc : c ≤ 3000000000)
    (k : ∀ (a b : Tx) (i : Int) h', Nm a → Nm b → a ≠ b → 0 ≤ i → i < 1000 → Box h' n (c + 12) → Onl n h h' → Q.run (.tup [.str a, .str b, .int i]) h') : (m__law_key_by [.ref n] h).wp := by
  refine runF_wp ?_
  simp [b__law_key_by]
  refine take_wp hb (by decide) (by decide) (by omega) fun u h1 u0 u1 hb1 o1 => ?_
  obtain ⟨j, rfl⟩ := Int.eq_ofNat_of_zero_le u0
  have hj : j = 0 ∨ j = 1 ∨ j = 2 ∨ j = 3 := by omega
  have hne : ∀ {st : Tx} {a f : Nat}, a ≤ st.length → nmOf st a f 0 ≠ nmOf st a f 1 := fun ha e => absurd (nmOf_inj ha (by decide) (by decide) e) (by decide)
  rcases hj with rfl | rfl | rfl | rfl <;> simp
  all_goals refine names_by_wp hb1 (by decide) (by decide) (by omega) fun st a f h2 hs hl ha hf hb2 o2 => ?_
  all_goals simp [List.range_succ]
  · exact k _ _ _ _ (nmOf_Nm hs hl) (nmOf_Nm hs hl) (hne ha) (by decide) (by decide) (hb2.mono (by omega)) (o1.trans o2)
  · exact k _ _ _ _ (nmOf_Nm hs hl) (nmOf_Nm hs hl) (hne ha) (by decide) (by decide) (hb2.mono (by omega)) (o1.trans o2)
  · exact k _ _ _ _ (nmOf_Nm hs hl) (nmOf_Nm hs hl) (hne ha) (by decide) (by decide) (hb2.mono (by omega)) (o1.trans o2)
  · refine take_wp hb2 (by decide) (by decide) (by omega) fun u h3 u0 u1 hb3 o3 => ?_
    simp
    exact k _ _ _ _ (nmOf_Nm hs hl) (nmOf_Nm hs hl) (hne ha) u0 u1 (hb3.mono (by omega)) ((o1.trans o2).trans o3)
theorem piece_by_2 {h : MH} {n c : Nat} {K : KS} {at_ mo fi fs m : Int} {s3 : Slot} (hb : Box h n c) (hc : c ≤ 2500000000) (ha : 0 ≤ at_) (ha4 : at_ % 4 = 0) (hmo : mo = 0 ∨ mo = 1) (hfi : fi = 0 ∨ fi = 1) (hm0 : 0 ≤ m) (ht : at_ + m ≤ 400) (h1 : mo = 1 → 4 ≤ m ∧ m % 4 = 0) (h0 : at_ ≠ 0 → 1 ≤ m)
    (k : ∀ (p : Pc) h', p.Ok → Box h' n (c + 450) → Onl n h h' → K.rt p.val h') : (b__law_piece_by_2 [.val (.ref n), .val (.int m), .val (.int at_), s3, .val (.int mo), .val (.int fi), .val (.int fs)] h).wp := by
  have fin : ∀ (hd : Tx) (h1' : MH), Sg hd → hd.length ≤ 12 → (at_ ≠ 0 → hd = []) → Box h1' n (c + 13) → Onl n h h1' → (b__law_piece_by_1 [.val (.ref n), .val (.int m), .val (.int at_), .val (.str hd), .val (.int mo), .val (.int fi), .val (.int fs)] h1').wp := by
    intro hd h1' hs hl hz hb1 o1
    simp [b__law_piece_by_1]
    refine key_by_wp hb1 (by omega) fun a b i h2 na nb ne i0 i1 hb2 o2 => ?_
    simp
    refine text_by_wp hb2 (by omega) hm0 (by omega) fun t h3 st tl hb3 o3 => ?_
    simp
    exact k ⟨a, b, i, at_, mo, fi, hd, t⟩ _ ⟨na, nb, ne, i0, i1, ha, ha4, hmo, hfi, hs, hl, hz, st, by simp only; omega, fun e => by have := h1 e; simp only; omega, fun e => by simp only; omega⟩ (hb3.mono (by omega)) ((o1.trans o2).trans o3)
  simp [b__law_piece_by_2]
  by_cases q : at_ = 0
  · simp [q]
    refine take_wp hb (by decide) (by decide) (by omega) fun u h2 u0 u1 hb2 o2 => ?_
    simp
    refine text_by_wp hb2 (by omega) u0 (by omega) fun t h3 st tl hb3 o3 => ?_
    simp
    exact fin t h3 st (by omega) (fun z => absurd q z) (hb3.mono (by omega)) (o2.trans o3)
  · simp [q]
    exact fin [] h Sg.nil (by simp) (fun _ => rfl) (hb.mono (by omega)) Onl.refl
theorem piece_by_3 {h : MH} {n c : Nat} {K : KS} {at_ mo fi fs m : Int} {s3 : Slot} (hb : Box h n c) (hc : c ≤ 2500000000) (ha : 0 ≤ at_) (ha4 : at_ % 4 = 0) (hmo : mo = 0 ∨ mo = 1) (hfi : fi = 0 ∨ fi = 1) (hm0 : 0 ≤ m) (ht : at_ + m ≤ 400) (hta : at_ + 1 ≤ 400) (h1 : mo = 1 → 4 ≤ m ∧ m % 4 = 0)
    (k : ∀ (p : Pc) h', p.Ok → Box h' n (c + 450) → Onl n h h' → K.rt p.val h') : (b__law_piece_by_3 [.val (.ref n), .val (.int m), .val (.int at_), s3, .val (.int mo), .val (.int fi), .val (.int fs)] h).wp := by
  simp [b__law_piece_by_3]
  by_cases q : 0 < at_
  · simp [q]
    split <;> exact piece_by_2 hb hc ha ha4 hmo hfi (by omega) (by omega) (fun e => by have := h1 e; omega) (fun _ => by omega) k
  · simp [q]
    exact piece_by_2 hb hc ha ha4 hmo hfi (by omega) (by omega) h1 (fun _ => by omega) k
theorem piece_by_wp {h : MH} {n c : Nat} {Q : Kt Val} {X : Kx} (hb : Box h n c) (hc : c ≤ 2000000000)
    (k : ∀ (p : Pc) h', p.Ok → Box h' n (c + 500) → Onl n h h' → Q.run p.val h') : (m__law_piece_by [.ref n] h).wp := by
  refine runF_wp ?_
  simp [b__law_piece_by]
  refine take_wp hb (by decide) (by decide) (by omega) fun mo h1 mo0 mo1 hb1 o1 => ?_
  simp
  refine take_wp hb1 (by decide) (by decide) (by omega) fun fi h2 fi0 fi1 hb2 o2 => ?_
  simp
  refine take_wp hb2 (by decide) (by decide) (by omega) fun fs h3 fs0 fs1 hb3 o3 => ?_
  simp
  refine long_wp hb3 (by omega) fun m h4 m0 m1 hb4 o4 => ?_
  have o14 := ((o1.trans o2).trans o3).trans o4
  have hmo : mo = 0 ∨ mo = 1 := by omega
  have hfi : fi = 0 ∨ fi = 1 := by omega
  have rest : ∀ (a : Int) h', 0 ≤ a → a % 4 = 0 → a ≤ 396 → Box h' n (c + 20) → Onl n h h' → @SRes.wp (b__law_piece_by_4 [.val (.ref n), .val (.int m), .val (.int a), .unset, .val (.int mo), .val (.int fi), .val (.int fs)] h') ⟨fun _ h => Q.run .non h, fun v h => Q.run v h, fun _ _ => False, fun _ _ => False, fun c f _ h => X.run c f h⟩ := by
    intro a h' a0 a4 a1 hb5 o5
    have fin : ∀ m' : Int, 0 ≤ m' → a + m' ≤ 400 → (mo = 1 → 4 ≤ m' ∧ m' % 4 = 0) → @SRes.wp (b__law_piece_by_3 [.val (.ref n), .val (.int m'), .val (.int a), .unset, .val (.int mo), .val (.int fi), .val (.int fs)] h') ⟨fun _ h => Q.run .non h, fun v h => Q.run v h, fun _ _ => False, fun _ _ => False, fun c f _ h => X.run c f h⟩ := fun m' e0 e1 e2 => by
      refine piece_by_3 hb5 (by omega) a0 a4 hmo hfi e0 e1 (by omega) e2 fun p h2 ok hb6 o6 => ?_
      exact k p h2 ok (hb6.mono (by omega)) (o5.trans o6)
    simp [b__law_piece_by_4]
    have fin2 : ∀ m' : Int, 0 ≤ m' → a + m' ≤ 400 → @SRes.wp (sSeq (sIf (mAsB (mBin opEq (mV 4) (mC (.int 1)))) (sSet 1 (mCall (fn2 max2V) (mCons (mC (.int 4)) (mCons (mBin opSub (mV 1) (mBin opMod (mV 1) (mC (.int 4)))) mNil)))) sSkip) b__law_piece_by_3 [.val (.ref n), .val (.int m'), .val (.int a), .unset, .val (.int mo), .val (.int fi), .val (.int fs)] h') ⟨fun _ h => Q.run .non h, fun v h => Q.run v h, fun _ _ => False, fun _ _ => False, fun c f _ h => X.run c f h⟩ := fun m' e0 e1 => by
      rcases hmo with rfl | rfl
      · simp
        exact fin m' e0 e1 (fun e => absurd e (by decide))
      · simp
        split
        · exact fin _ (by omega) (by omega) (fun e => by omega)
        · exact fin _ (by omega) (by omega) (fun e => by omega)
    simp at fin2
    refine fin2 _ ?_ ?_ <;> split <;> omega
  simp
  rcases (show fs = 0 ∨ fs = 1 by omega) with rfl | rfl
  · simp
    exact rest 0 h4 (by omega) (by omega) (by omega) (hb4.mono (by omega)) o14
  · simp
    refine take_wp hb4 (by decide) (by decide) (by omega) fun u h5 u0 u1 hb5 o5 => ?_
    rcases (show u = 0 ∨ u = 1 by omega) with rfl | rfl
    · simp
      refine take_wp hb5 (by decide) (by decide) (by omega) fun u h6 u0 u1 hb6 o6 => ?_
      simp
      exact rest _ h6 (by omega) (by omega) (by omega) (hb6.mono (by omega)) ((o14.trans o5).trans o6)
    · simp
      refine take_wp hb5 (by decide) (by decide) (by omega) fun u h6 u0 u1 hb6 o6 => ?_
      simp
      exact rest _ h6 (by omega) (by omega) (by omega) (hb6.mono (by omega)) ((o14.trans o5).trans o6)
theorem zip_mem : ∀ {l : List Val} {v : Val}, v ∈ zipF l l → ∃ x ∈ l, v = .tup [x, x]
  | [], v, h => by cases h
  | x :: l, v, h => by
    rcases List.mem_cons.mp h with q | q
    · exact ⟨x, List.mem_cons_self, q⟩
    · obtain ⟨y, hy, e⟩ := zip_mem q
      exact ⟨y, List.mem_cons_of_mem _ hy, e⟩
theorem zip_len : ∀ {l m : List Val}, (zipF l m).length ≤ l.length
  | [], _ => by simp [zipF]
  | x :: l, [] => by simp [zipF]
  | x :: l, y :: m => by have := zip_len (l := l) (m := m); simp [zipF]; omega
theorem bols_true {α : Type} : ∀ (l : List α), bolsOf (l.map fun _ => Val.bl true) = some (l.map fun _ => true) := fun l => bolsOf_mapf (fun _ => true) l
mutual
theorem like_refl : ∀ (n : Nat) (v : Val) (h : MH), okD n v = true → r__law_like (n + 1) [v, v] h = .ok (.bl true) h
  | n, .non, h, _ => wp_eq (runF_wp (by simp [b__law_like, isiTV]))
  | n, .bl b, h, _ => wp_eq (runF_wp (by simp [b__law_like, isiTV]))
  | n, .int i, h, _ => wp_eq (runF_wp (by simp [b__law_like, isiTV]))
  | n, .str s, h, hv => wp_eq (runF_wp (by have := (okD_str hv).1; simp [b__law_like, isiTV, this]))
  | n + 1, .tup l, h, hv => wp_eq (runF_wp (by
      obtain ⟨hl, hx⟩ := okD_tup hv
      simp [b__law_like, isiTV, okWipe, notOwn, wipeM]
      rw [lc_map (fun _ => .bl true) (fun _ => true) _ _ (by have := zip_len (l := l) (m := l); simp; omega) (fun v hv => ?_)]
      · simp [bols_true]
      · obtain ⟨x, hxl, rfl⟩ := zip_mem hv
        have ih := likes_refl n l h hx x hxl
        simp [ih]))
  | n + 1, .lst l, h, hv => wp_eq (runF_wp (by
      obtain ⟨hl, hx⟩ := okD_lst hv
      simp [b__law_like, isiTV, okWipe, notOwn, wipeM]
      rw [lc_map (fun _ => .bl true) (fun _ => true) _ _ (by have := zip_len (l := l) (m := l); simp; omega) (fun v hv => ?_)]
      · simp [bols_true]
      · obtain ⟨x, hxl, rfl⟩ := zip_mem hv
        have ih := likes_refl n l h hx x hxl
        simp [ih]))
  | 0, .tup l, h, hv => by simp [okD] at hv
  | 0, .lst l, h, hv => by simp [okD] at hv
  | n, .ref _, h, hv => by cases n <;> simp [okD] at hv
  | n, .exc _ _, h, hv => by cases n <;> simp [okD] at hv
  | n, .ktp _, h, hv => by cases n <;> simp [okD] at hv
theorem likes_refl : ∀ (n : Nat) (l : List Val) (h : MH), (∀ x ∈ l, okD n x = true) → ∀ x ∈ l, r__law_like (n + 1) [x, x] h = .ok (.bl true) h
  | n, [], h, _ => fun x hx => by cases hx
  | n, y :: l, h, hy => fun x hx => by
    rcases List.mem_cons.mp hx with q | q
    · rw [q]; exact like_refl n y h (hy y List.mem_cons_self)
    · exact likes_refl n l h (fun z hz => hy z (List.mem_cons_of_mem _ hz)) x q
end
theorem like_same {v : Val} {h : MH} (hv : okD 5 v = true) : m__law_like [v, v] h = .ok (.bl true) h := like_refl 5 v h hv
end Mi
/-! Sh2: draws of k07 .. k13. -/
namespace Mi
open PySem L2 PyProof.Rows
def b__law_folded_B : MS := (sSeq (sSetO 2 (mCall listF (mCons (mSl (mV 0) mNoP (mP (mV 1))) mNil)))
  (sSeq (sFor (mEnum (mSl (mV 0) (mP (mV 1)) (mP (mC (.int 63))))) (gTupM 2 (gsCons (gSet 3) (gsCons (gSet 4) gsNil)))
  (sOwnPut 2 (mBin opAdd (mBin opIx (mO 2) (mBin opMod (mV 3) (mV 1))) (mBin opMul (mV 4) (mBin opAdd (mV 3) (mC (.int 2))))) (mBin opMod (mV 3) (mV 1))))
  (sRetO 2)))
def m__law_folded_B : MF := runF 5 b__law_folded_B
def b__law_text_B : MS := (sRet (mTx joinV (mC (.str [])) (mMap Val.lst (mLc [2] (mRange1 (mV 1)) (.nm 2) mYes (mBin opIx (mFn 0 m__law_signs mNil) (mFn 2 m__law_take (mCons (mV 0) (mCons (mC (.int 94)) mNil))))))))
def m__law_text_B : MF := runF 3 b__law_text_B
def b__law_key : MS := (sSeq (sAsgG (mTup (mCons (mC (.str tx_c3fcd3d7)) (mCons (mFn 2 m__law_take (mCons (mV 0) (mCons (mC (.int 2)) mNil))) mNil))) (gTupM 2 (gsCons (gSet 3) (gsCons (gSet 4) gsNil))))
  (sSeq (sSet 1 (mMap Val.lst (mLc [7] (mRange1 (mBin opAdd (mC (.int 1)) (mFn 2 m__law_take (mCons (mV 0) (mCons (mC (.int 8)) mNil))))) (.nm 7) mYes (mFn 2 m__law_take (mCons (mV 0) (mCons (mC (.int 26)) mNil))))))
  (sSeq (sPar2O 5 6 (mFn 2 m__law_take (mCons (mV 0) (mCons (mCall (fn1 lenV) (mCons (mV 1) mNil)) mNil))) (mCall listF (mCons (mV 1) mNil)))
  (sSeq (sOwnPut 6 (mBin opMod (mBin opAdd (mBin opAdd (mBin opIx (mV 1) (mV 5)) (mC (.int 1))) (mFn 2 m__law_take (mCons (mV 0) (mCons (mC (.int 25)) mNil)))) (mC (.int 26))) (mV 5))
  (sSeq (sFrz 6) (sSeq (sSet 2 (mMap Val.lst (mLc [8] (mIter (mTup (mCons (mV 1) (mCons (mV 6) mNil)))) (.nm 8) mYes (mTx joinV (mC (.str [])) (mMap Val.lst (mLc [7] (mIter (mV 8)) (.nm 7) mYes (mBin opIx (mV 3) (mV 7))))))))
  (sRet (mTup (mCons (mBin opIx (mV 2) (mV 4)) (mCons (mBin opIx (mV 2) (mBin opSub (mC (.int 1)) (mV 4))) (mCons (mFn 2 m__law_take (mCons (mV 0) (mCons (mBin opIx (mMap Val.lst (mLst (mCons (mC (.int 10)) (mCons (mC (.int 1000)) mNil)))) (mFn 2 m__law_take (mCons (mV 0) (mCons (mC (.int 2)) mNil)))) mNil))) mNil)))))))))))
def m__law_key : MF := runF 9 b__law_key
def b__law_piece_1 : MS := (sRet (mTup (mCons (mFn 1 m__law_key (mCons (mV 0) mNil)) (mCons (mV 7) (mCons (mV 5) (mCons (mV 6) (mCons (mV 2) (mCons (mFn 2 m__law_text_B (mCons (mV 0) (mCons (mV 1) mNil))) mNil))))))))
def b__law_piece_2 : MS := (sSeq (sSet 1 (mCall (fn2 min2V) (mCons (mBin opSub (mC (.int 400)) (mV 7)) (mCons (mCall (fn2 max2V) (mCons (mV 1) (mCons (mCall (fn1 intV) (mCons (mBin opGt (mV 7) (mC (.int 0))) mNil)) mNil))) mNil))))
  (sSeq (sSet 2 (mIf (mAsB (mBin opEq (mV 7) (mC (.int 0)))) (mFn 2 m__law_text_B (mCons (mV 0) (mCons (mFn 2 m__law_take (mCons (mV 0) (mCons (mC (.int 13)) mNil))) mNil))) (mC (.str []))))
  b__law_piece_1))
def b__law_piece_3 : MS := (sSeq (sSet 1 (mFn 2 m__law_take (mCons (mV 0) (mCons (mBin opIx (mMap Val.lst (mLst (mCons (mC (.int 61)) (mCons (mC (.int 401)) mNil)))) (mCall (fn1 intV) (mCons (mV 3) mNil))) mNil))))
  (sSeq (sIf (mAsB (mBin opEq (mV 5) (mC (.int 1)))) (sSet 1 (mBin opMul (mC (.int 4)) (mCall (fn2 max2V) (mCons (mC (.int 1)) (mCons (mBin opDiv (mV 1) (mC (.int 4))) mNil))))) sSkip)
  b__law_piece_2))
def b__law_piece : MS := (sSeq (sPar3 3 4 5 (mCons (mBin opEq (mFn 2 m__law_take (mCons (mV 0) (mCons (mC (.int 8)) mNil))) (mC (.int 0))) (mCons (mFn 2 m__law_take (mCons (mV 0) (mCons (mC (.int 3)) mNil))) (mCons (mFn 2 m__law_take (mCons (mV 0) (mCons (mC (.int 2)) mNil))) mNil))))
  (sSeq (sPar2 6 7 (mCons (mCall (fn1 intV) (mCons (mBin opEq (mFn 2 m__law_take (mCons (mV 0) (mCons (mC (.int 6)) mNil))) (mC (.int 0))) mNil)) (mCons (mC (.int 0)) mNil)))
  (sSeq (sIf (mAsB (mBin opEq (mV 4) (mC (.int 0)))) (sSet 7 (mBin opMul (mC (.int 4)) (mFn 2 m__law_take (mCons (mV 0) (mCons (mBin opIx (mMap Val.lst (mLst (mCons (mC (.int 12)) (mCons (mC (.int 100)) mNil)))) (mCall (fn1 intV) (mCons (mV 3) mNil))) mNil))))) sSkip)
  b__law_piece_3)))
def m__law_piece : MF := runF 8 b__law_piece
theorem foldedB_ex {ns : List Int} {m : Nat} (hn : ns.length ≤ 63) (hm : 1 ≤ m) (hm2 : m ≤ 63) :
    ∃ ms : List Int, ms.length ≤ 63 ∧ m__law_folded_B [.lst (ns.map Val.int), .int (m : Nat)] [] = .ok (.lst (ms.map Val.int)) [] := by
  suffices w : @Res.wp Val (m__law_folded_B [.lst (ns.map Val.int), .int (m : Nat)] []) ⟨fun v h => h = [] ∧ ∃ ms : List Int, ms.length ≤ 63 ∧ v = .lst (ms.map Val.int)⟩ noX by
    obtain ⟨v, h, e, rfl, ms, h1, rfl⟩ := wp_ex w
    exact ⟨ms, h1, e⟩
  refine runF_wp ?_
  simp [b__law_folded_B, cut_to, cut_from, cut_mid]
  refine for_wp _ (foldI ns m) ?_ ?_ _ _ _ ?_
  · rintro v l σ h ⟨rfl, ms, s3, s4, rfl, hl, hne, hv⟩
    obtain ⟨i, c, rfl, hi⟩ := hv v List.mem_cons_self
    have hm' := hne (by simp)
    have hmod : (i : Int) % (m : Int) = ((i % m : Nat) : Int) := by omega
    have hlt : i % m < ms.length := by
      have := Nat.mod_lt i (show m > 0 by omega)
      omega
    obtain ⟨d, hd⟩ : ∃ d, ms[i % m]? = some d := ⟨_, List.getElem?_eq_getElem hlt⟩
    have p1 : ((i : Int) + 2).natAbs < 18446744073709551616 := by omega
    have p2 : (0 : Int) < m := by omega
    simp [p2, hmod, atI_nn, hd, p1, ixN_nn hlt, -Int.natCast_emod, show 0 < m by omega]
    refine ⟨rfl, ms.set (i % m) (d + c * ((i : Int) + 2)), _, _, by rw [List.map_set], by rw [List.length_set]; exact hl, fun z => hne (by simp), fun v hv' => ?_⟩
    exact hv v (List.mem_cons_of_mem _ hv')
  · rintro σ h ⟨rfl, ms, s3, s4, rfl, hl, _, _⟩
    simp
    exact ⟨ms, by omega, rfl⟩
  · refine ⟨rfl, ns.take m, .unset, .unset, by rw [List.map_take], by simp, fun z => ?_, fun v hv => ?_⟩
    · by_cases q : m ≤ ns.length
      · exact q
      · exact absurd (by rw [List.drop_eq_nil_of_le (by simp; omega)]; simp [enumF]) z
    · obtain ⟨i, w, e1, e2, e3⟩ := enumF_mem hv
      have e4 := List.mem_of_mem_take e2
      obtain ⟨c, _, rfl⟩ := List.mem_map.mp (List.mem_of_mem_drop e4)
      refine ⟨i, c, e1, ?_⟩
      simp at e3
      omega
theorem signs_eq {h : MH} : m__law_signs [] h = .ok (.str SG) h := wp_eq (runF_wp (by simp [b__law_signs]))
theorem textB_wp {h : MH} {n c : Nat} {m : Int} {Q : Kt Val} {X : Kx} (hb : Box h n c) (hm : m ≤ 1000000) (hm0 : 0 ≤ m) (hc : c ≤ 4000000000)
    (k : ∀ t h', Sg t → (t.length : Int) = m → Box h' n (c + m.toNat) → Onl n h h' → Q.run (.str t) h') : (m__law_text_B [.ref n, .int m] h).wp := by
  refine runF_wp ?_
  have hl : (rangeL 0 m).length = m.toNat := by simp [rangeL]
  simp [b__law_text_B, okWipe, notOwn, wipeM]
  refine ch_go ⟨by omega, by omega⟩ ?_
  simp [okWipe, notOwn, wipeM]
  refine lc_draw (n := n) (d := 1) (C := c) (fun y => ∃ c, y = .str [c] ∧ c ∈ SG) (by simp) (by omega) hb (fun v hv h1 c1 hc1 hb1 => ?_) fun ys h' hy hp hb' o => ?_
  · simp [signs_eq]
    rw [hl] at hc1
    refine take_wp hb1 (by decide) (by decide) (by omega) fun u h2 u0 u1 hb2 o2 => ?_
    obtain ⟨d, hd, hd2⟩ := SG_get u0 u1
    simp [SG_len2, hd]
    exact ⟨hd2, hb2, o2⟩
  · obtain ⟨t, rfl, ht, hp⟩ := chars_of hp
    rw [hy, hl] at ht
    simp
    refine ch_go (by omega) ?_
    rw [hl, Nat.mul_one] at hb'
    exact k _ _ hp (by omega) hb' o
theorem ints_of {P : Int → Prop} : ∀ {ys : List Val}, (∀ y ∈ ys, ∃ c, y = .int c ∧ P c) → ∃ t : List Int, ys = t.map Val.int ∧ t.length = ys.length ∧ ∀ c ∈ t, P c
  | [], _ => ⟨[], rfl, rfl, fun c hc => by cases hc⟩
  | y :: ys, h => by
    obtain ⟨c, rfl, hc⟩ := h y List.mem_cons_self
    obtain ⟨t, rfl, hl, ht⟩ := ints_of fun y hy => h y (List.mem_cons_of_mem _ hy)
    exact ⟨c :: t, rfl, by simp, fun d hd => by
      rcases List.mem_cons.mp hd with q | q
      · rw [q]; exact hc
      · exact ht d q⟩
/-- a word of letters by their numbers -/
def wordOf (l : List Int) : Tx := l.map fun i => LT.getD i.toNat 0
def ltV' : Val → Val
  | .int i => .str [LT.getD i.toNat 0]
  | _ => .non
def wdV : Val → Val
  | .lst l => .str (l.map fun v => match v with | .int i => LT.getD i.toNat 0 | _ => 0)
  | _ => .non
theorem LT_mem : ∀ k, k < 26 → LT.getD k 0 ∈ LT := by decide +kernel
theorem wordOf_nm {l : List Int} (h : ∀ i ∈ l, 0 ≤ i ∧ i < 26) (h1 : 1 ≤ l.length) (h8 : l.length ≤ 8) : Nm (wordOf l) := by
  refine ⟨by simpa [wordOf] using h1, by simpa [wordOf] using h8, fun c hc => ?_⟩
  obtain ⟨i, hi, rfl⟩ := List.mem_map.mp hc
  have := h i hi
  exact LT_mem _ (by omega)
theorem join_word {σ : Env} {h : MH} {l : List Int} (hv : ∀ i ∈ l, 0 ≤ i ∧ i < 26) (hl : l.length ≤ 8) (h3 : σ[3]? = some (.val (.str LT))) (h37 : 7 < σ.length) :
    lcL (.nm 7) mYes (mBin opIx (mV 3) (mV 7)) (l.map Val.int) [] σ h = .ok ((wordOf l).map fun c => .str [c]) h := by
  rw [lc_map ltV' (fun _ => true) _ _ (by simp; omega) fun v hv' => ?_]
  · simp [wordOf, ltV', Function.comp_def]
  · obtain ⟨i, hi, rfl⟩ := List.mem_map.mp hv'
    obtain ⟨i0, i1⟩ := hv i hi
    have e3 : (σ.set 7 (.val (.int i)))[3]? = some (.val (.str LT)) := by rw [List.getElem?_set_ne (by decide)]; exact h3
    have e7 : (σ.set 7 (.val (.int i)))[7]? = some (.val (.int i)) := List.getElem?_set_self h37
    have e8 : L2.atI LT i = some (LT.getD i.toNat 0) := by rw [atI_of LT i0]; exact LT_at _ (by omega)
    simp [h37, e3, e7, LT_len2, e8, ltV']
theorem keyB_wp {h : MH} {n c : Nat} {Q : Kt Val} {X : Kx} (hb : Box h n c) (hc : c ≤ 3000000000)
    (k : ∀ (a b : Tx) (i : Int) h', Nm a → Nm b → a ≠ b → 0 ≤ i → i < 1000 → Box h' n (c + 20) → Onl n h h' → Q.run (.tup [.str a, .str b, .int i]) h') : (m__law_key [.ref n] h).wp := by
  refine runF_wp ?_
  simp [b__law_key]
  refine take_wp hb (by decide) (by decide) (by omega) fun tn h1 tn0 tn1 hb1 o1 => ?_
  simp
  refine take_wp hb1 (by decide) (by decide) (by omega) fun u h2 u0 u1 hb2 o2 => ?_
  simp
  refine ch_go ⟨by omega, by omega⟩ ?_
  simp [okWipe, notOwn, wipeM]
  have hl : (rangeL 0 (1 + u)).length = (1 + u).toNat := by simp [rangeL]
  refine lc_draw (n := n) (d := 1) (C := c + 2) (fun y => ∃ i, y = .int i ∧ (0 ≤ i ∧ i < 26)) (by simp) (by omega) hb2 (fun v hv h1 c1 hc1 hb1 => ?_) fun ys h3 hy hp hb3 o3 => ?_
  · simp
    exact take_wp hb1 (by decide) (by decide) (by omega) fun u h2 u0 u1 hb2 o2 => ⟨⟨u, rfl, u0, u1⟩, hb2, o2⟩
  · obtain ⟨l, rfl, el, hp⟩ := ints_of hp
    rw [hy, hl] at el
    simp
    rw [hl, Nat.mul_one] at hb3
    refine take_wp hb3 (by omega) (by omega) (by omega) fun A h4 A0 A1 hb4 o4 => ?_
    obtain ⟨A, rfl⟩ := Int.eq_ofNat_of_zero_le A0
    have hA : A < l.length := by omega
    obtain ⟨x, hx⟩ : ∃ x, l[A]? = some x := ⟨_, List.getElem?_eq_getElem hA⟩
    obtain ⟨x0, x1⟩ := hp x (List.mem_of_getElem? hx)
    simp [atI_nn, hx]
    refine take_wp hb4 (by decide) (by decide) (by omega) fun d h5 d0 d1 hb5 o5 => ?_
    have em : (List.map Val.int l).set A (.int ((x + 1 + d) % 26)) = (l.set A ((x + 1 + d) % 26)).map Val.int := by rw [List.map_set]
    simp [ixN_nn hA, okWipe, notOwn, wipeM]
    have y0 : 0 ≤ (x + 1 + d) % 26 := Int.emod_nonneg _ (by decide)
    have y1 : (x + 1 + d) % 26 < 26 := Int.emod_lt_of_pos _ (by decide)
    have yn : (x + 1 + d) % 26 ≠ x := by omega
    generalize (x + 1 + d) % 26 = y at em y0 y1 yn
    rw [em]
    have hp2 : ∀ c ∈ l.set A y, 0 ≤ c ∧ c < 26 := fun c hc => by
      rcases List.mem_or_eq_of_mem_set hc with q | q
      · exact hp c q
      · rw [q]; exact ⟨y0, y1⟩
    rw [lc_map wdV (fun _ => true) _ _ (by simp) (fun v hv => ?_)]
    · have w1 : wdV (.lst (l.map Val.int)) = .str (wordOf l) := by simp [wdV, wordOf, Function.comp_def]
      have w2 : wdV (.lst ((l.set A y).map Val.int)) = .str (wordOf (l.set A y)) := by simp only [wdV, wordOf, List.map_map, Function.comp_def]
      have w3 : wdV (.lst ((l.map Val.int).set A (.int y))) = .str (wordOf (l.set A y)) := by rw [em]; exact w2
      have nm1 : Nm (wordOf l) := wordOf_nm hp (by omega) (by omega)
      have nm2 : Nm (wordOf (l.set A y)) := wordOf_nm hp2 (by simp; omega) (by simp; omega)
      have ne : wordOf l ≠ wordOf (l.set A y) := fun e => by
        have e2 := congrArg (fun t => t[A]?) e
        have r1 : (wordOf l)[A]? = some (LT.getD x.toNat 0) := by simp only [wordOf, List.getElem?_map, hx, Option.map_some]
        have r2 : (wordOf (l.set A y))[A]? = some (LT.getD y.toNat 0) := by simp only [wordOf, List.getElem?_map, List.getElem?_set_self hA, Option.map_some]
        simp only [r1, r2, Option.some.injEq] at e2
        have := LT_inj _ (by omega) _ (by omega) e2
        omega
      have key : ∀ (a b : Tx), Nm a → Nm b → a ≠ b → ∀ m : Int, 0 ≤ m → m < 1000 → ∀ h', Box h' n (c + 20) → Onl n h h' → Q.run (.tup [.str a, .str b, .int m]) h' := fun a b na nb ne m m0 m1 h' hb' o' => k a b m h' na nb ne m0 m1 hb' o'
      have oo := (((o1.trans o2).trans o3).trans o4).trans o5
      rcases (show tn = 0 ∨ tn = 1 by omega) with rfl | rfl
      · simp [w1, w2]
        refine take_wp hb5 (by decide) (by decide) (by omega) fun z h6 z0 z1 hb6 o6 => ?_
        rcases (show z = 0 ∨ z = 1 by omega) with rfl | rfl
        · simp
          exact take_wp hb6 (by decide) (by decide) (by omega) fun m h7 m0 m1 hb7 o7 => by simpa [w3] using key _ _ nm1 nm2 ne m m0 (by omega) h7 (hb7.mono (by omega)) ((oo.trans o6).trans o7)
        · simp
          exact take_wp hb6 (by decide) (by decide) (by omega) fun m h7 m0 m1 hb7 o7 => by simpa [w3] using key _ _ nm1 nm2 ne m m0 (by omega) h7 (hb7.mono (by omega)) ((oo.trans o6).trans o7)
      · simp [w1, w2]
        refine take_wp hb5 (by decide) (by decide) (by omega) fun z h6 z0 z1 hb6 o6 => ?_
        rcases (show z = 0 ∨ z = 1 by omega) with rfl | rfl
        · simp
          exact take_wp hb6 (by decide) (by decide) (by omega) fun m h7 m0 m1 hb7 o7 => by simpa [w3] using key _ _ nm2 nm1 (Ne.symm ne) m m0 (by omega) h7 (hb7.mono (by omega)) ((oo.trans o6).trans o7)
        · simp
          exact take_wp hb6 (by decide) (by decide) (by omega) fun m h7 m0 m1 hb7 o7 => by simpa [w3] using key _ _ nm2 nm1 (Ne.symm ne) m m0 (by omega) h7 (hb7.mono (by omega)) ((oo.trans o6).trans o7)
    · have : ∃ z : List Int, v = .lst (z.map Val.int) ∧ (∀ c ∈ z, 0 ≤ c ∧ c < 26) ∧ z.length ≤ 8 := by
        rcases List.mem_cons.mp hv with q | q
        · exact ⟨l, q, hp, by omega⟩
        · exact ⟨l.set A y, List.mem_singleton.mp q, hp2, by simp; omega⟩
      obtain ⟨z, rfl, hz, hzl⟩ := this
      simp [okWipe, notOwn, wipeM]
      rw [join_word hz hzl rfl (by simp)]
      have hz2 : (wordOf z).length = z.length := by simp [wordOf]
      simp
      refine ch_go (by omega) ?_
      simp [wdV, wordOf, Function.comp_def]

theorem pieceB_1 {h : MH} {n c : Nat} {K : KS} {at_ mo fi m : Int} {hd : Tx} {s3 s4 : Slot} (hb : Box h n c) (hc : c ≤ 2500000000) (ha : 0 ≤ at_) (ha4 : at_ % 4 = 0) (hmo : mo = 0 ∨ mo = 1) (hfi : fi = 0 ∨ fi = 1) (hm0 : 0 ≤ m) (ht : at_ + m ≤ 400) (h1 : mo = 1 → 4 ≤ m ∧ m % 4 = 0) (h0 : at_ ≠ 0 → 1 ≤ m) (hs : Sg hd) (hl : hd.length ≤ 12) (hz : at_ ≠ 0 → hd = [])
    (k : ∀ (p : Pc) h', p.Ok → Box h' n (c + 450) → Onl n h h' → K.rt p.val h') : (b__law_piece_1 [.val (.ref n), .val (.int m), .val (.str hd), s3, s4, .val (.int mo), .val (.int fi), .val (.int at_)] h).wp := by
  simp [b__law_piece_1]
  refine keyB_wp hb (by omega) fun a b i h2 na nb ne i0 i1 hb2 o2 => ?_
  simp
  refine textB_wp hb2 (by omega) hm0 (by omega) fun t h3 st tl hb3 o3 => ?_
  simp
  exact k ⟨a, b, i, at_, mo, fi, hd, t⟩ _ ⟨na, nb, ne, i0, i1, ha, ha4, hmo, hfi, hs, hl, hz, st, by simp only; omega, fun e => by have := h1 e; simp only; omega, fun e => by simp only; omega⟩ (hb3.mono (by omega)) (o2.trans o3)
theorem pieceB_2 {h : MH} {n c : Nat} {K : KS} {at_ mo fi m : Int} {s2 s3 s4 : Slot} (hb : Box h n c) (hc : c ≤ 2400000000) (ha : 0 ≤ at_) (hat : at_ ≤ 396) (ha4 : at_ % 4 = 0) (hmo : mo = 0 ∨ mo = 1) (hfi : fi = 0 ∨ fi = 1) (hm0 : 0 ≤ m) (hm : m ≤ 400) (h1 : mo = 1 → 4 ≤ m ∧ m % 4 = 0)
    (k : ∀ (p : Pc) h', p.Ok → Box h' n (c + 500) → Onl n h h' → K.rt p.val h') : (b__law_piece_2 [.val (.ref n), .val (.int m), s2, s3, s4, .val (.int mo), .val (.int fi), .val (.int at_)] h).wp := by
  have fin : ∀ (m' : Int) (hd : Tx) (h' : MH), 0 ≤ m' → at_ + m' ≤ 400 → (mo = 1 → 4 ≤ m' ∧ m' % 4 = 0) → (at_ ≠ 0 → 1 ≤ m') → Sg hd → hd.length ≤ 12 → (at_ ≠ 0 → hd = []) → Box h' n (c + 13) → Onl n h h' → (b__law_piece_1 [.val (.ref n), .val (.int m'), .val (.str hd), s3, s4, .val (.int mo), .val (.int fi), .val (.int at_)] h').wp := fun m' hd h' e0 e1 e2 e3 e4 e5 e6 hb' o' =>
    pieceB_1 hb' (by omega) ha ha4 hmo hfi e0 e1 e2 e3 e4 e5 e6 fun p h2 ok hb2 o2 => k p h2 ok (hb2.mono (by omega)) (o'.trans o2)
  obtain ⟨M, hM⟩ : ∃ M : Int, M = (if (if (if 0 < at_ then 1 else 0) > m then (if 0 < at_ then 1 else 0) else m) < 400 - at_ then (if (if 0 < at_ then 1 else 0) > m then (if 0 < at_ then 1 else 0) else m) else 400 - at_) := ⟨_, rfl⟩
  by_cases q : 0 < at_
  · have q' : ¬ at_ = 0 := by omega
    simp [b__law_piece_2, q, q']
    refine fin _ [] h ?_ ?_ ?_ ?_ Sg.nil (by simp) (fun _ => rfl) (hb.mono (by omega)) Onl.refl
    all_goals (repeat' split) <;> omega
  · have q' : at_ = 0 := by omega
    subst q'
    simp [b__law_piece_2]
    refine take_wp hb (by decide) (by decide) (by omega) fun u h2 u0 u1 hb2 o2 => ?_
    simp
    refine textB_wp hb2 (by omega) u0 (by omega) fun t h3 st tl hb3 o3 => ?_
    simp
    refine fin _ t h3 ?_ ?_ ?_ (fun z => absurd rfl z) st (by omega) (fun z => absurd rfl z) (hb3.mono (by omega)) (o2.trans o3)
    all_goals (repeat' split) <;> omega
theorem pieceB_3 {h : MH} {n c : Nat} {K : KS} {at_ mo fi : Int} {g : Bool} {s1 s2 s4 : Slot} (hb : Box h n c) (hc : c ≤ 2300000000) (ha : 0 ≤ at_) (hat : at_ ≤ 396) (ha4 : at_ % 4 = 0) (hmo : mo = 0 ∨ mo = 1) (hfi : fi = 0 ∨ fi = 1)
    (k : ∀ (p : Pc) h', p.Ok → Box h' n (c + 510) → Onl n h h' → K.rt p.val h') : (b__law_piece_3 [.val (.ref n), s1, s2, .val (.bl g), s4, .val (.int mo), .val (.int fi), .val (.int at_)] h).wp := by
  have rest : ∀ (m : Int) h', 0 ≤ m → m ≤ 400 → Box h' n (c + 1) → Onl n h h' → (mo = 1 → 4 ≤ m ∧ m % 4 = 0) → (b__law_piece_2 [.val (.ref n), .val (.int m), s2, .val (.bl g), s4, .val (.int mo), .val (.int fi), .val (.int at_)] h').wp := fun m h' m0 m1 hb' o' e =>
    pieceB_2 hb' (by omega) ha hat ha4 hmo hfi m0 m1 e fun p h2 ok hb2 o2 => k p h2 ok (hb2.mono (by omega)) (o'.trans o2)
  have step : ∀ (u : Int) h', 0 ≤ u → u ≤ 400 → Box h' n (c + 1) → Onl n h h' → (sSeq (sIf (mAsB (mBin opEq (mV 5) (mC (.int 1)))) (sSet 1 (mBin opMul (mC (.int 4)) (mCall (fn2 max2V) (mCons (mC (.int 1)) (mCons (mBin opDiv (mV 1) (mC (.int 4))) mNil))))) sSkip) b__law_piece_2 [.val (.ref n), .val (.int u), s2, .val (.bl g), s4, .val (.int mo), .val (.int fi), .val (.int at_)] h').wp := fun u h' u0 u1 hb' o' => by
    rcases hmo with rfl | rfl
    · simp
      exact rest u h' u0 u1 hb' o' (fun z => absurd z (by decide))
    · simp
      refine rest _ h' ?_ ?_ hb' o' (fun _ => ?_) <;> (repeat' split) <;> omega
  cases g with
  | true =>
    simp [b__law_piece_3]
    refine take_wp hb (by decide) (by decide) (by omega) fun u h2 u0 u1 hb2 o2 => ?_
    have := step u h2 u0 (by omega) hb2 o2
    simpa using this
  | false =>
    simp [b__law_piece_3]
    refine take_wp hb (by decide) (by decide) (by omega) fun u h2 u0 u1 hb2 o2 => ?_
    have := step u h2 u0 (by omega) hb2 o2
    simpa using this
theorem pieceB_wp {h : MH} {n c : Nat} {Q : Kt Val} {X : Kx} (hb : Box h n c) (hc : c ≤ 2000000000)
    (k : ∀ (p : Pc) h', p.Ok → Box h' n (c + 520) → Onl n h h' → Q.run p.val h') : (m__law_piece [.ref n] h).wp := by
  refine runF_wp ?_
  simp [b__law_piece]
  refine take_wp hb (by decide) (by decide) (by omega) fun g h1 g0 g1 hb1 o1 => ?_
  simp
  refine take_wp hb1 (by decide) (by decide) (by omega) fun be h2 be0 be1 hb2 o2 => ?_
  simp
  refine take_wp hb2 (by decide) (by decide) (by omega) fun mo h3 mo0 mo1 hb3 o3 => ?_
  simp
  refine take_wp hb3 (by decide) (by decide) (by omega) fun fi h4 fi0 fi1 hb4 o4 => ?_
  have oo := ((o1.trans o2).trans o3).trans o4
  simp
  refine ch_of (fun q => ?_) fun q => ?_
  · by_cases qg : g = 0
    · simp [qg]
      refine take_wp hb4 (by decide) (by decide) (by omega) fun u h5 u0 u1 hb5 o5 => ?_
      simp
      refine pieceB_3 hb5 (by omega) (by omega) (by omega) (by omega) (by omega) (by split <;> simp) fun p h' ok hb' o' => k p h' ok (hb'.mono (by omega)) ((oo.trans o5).trans o')
    · simp [qg]
      refine take_wp hb4 (by decide) (by decide) (by omega) fun u h5 u0 u1 hb5 o5 => ?_
      simp
      refine pieceB_3 hb5 (by omega) (by omega) (by omega) (by omega) (by omega) (by split <;> simp) fun p h' ok hb' o' => k p h' ok (hb'.mono (by omega)) ((oo.trans o5).trans o')
  · simp
    refine pieceB_3 hb4 (by omega) (by omega) (by omega) (by omega) (by omega) (by split <;> simp) fun p h' ok hb' o' => k p h' ok (hb'.mono (by omega)) (oo.trans o')
end Mi
/-! ShC: cutting.py. -/
namespace Mi
open PySem L2 PyProof.Rows
def b_signs_in : MS := (sRet (mBin opMul (mBin opDiv (mBin opSub (mBin opSub (mV 0) (mC (.int 6))) (mCall (fn1 lenV) (mCons (mV 1) mNil))) (mC (.int 4))) (mC (.int 4))))
def m_signs_in : MF := runF 2 b_signs_in
def b_part_of : MS := (sSeq (sAsgG (mV 0) (gTupM 6 (gsCons (gSet 3) (gsCons (gSet 4) (gsCons (gSet 5) (gsCons (gSet 6) (gsCons (gSet 7) (gsCons (gSet 8) gsNil))))))))
  (sSeq (sIf (mAsB (mBin opLt (mV 2) (mFn 1 m_end_of (mCons (mV 0) mNil)))) (sSet 5 (mC (.int 1))) sSkip)
  (sRet (mTup (mCons (mV 3) (mCons (mV 1) (mCons (mV 5) (mCons (mV 6) (mCons (mIf (mAsB (mBin opEq (mV 1) (mC (.int 0)))) (mV 7) (mC (.str []))) (mCons (mSl (mV 8) (mP (mBin opSub (mV 1) (mV 4))) (mP (mBin opSub (mV 2) (mV 4)))) mNil))))))))))
def m_part_of : MF := runF 9 b_part_of
def b_cut_1 : MS := (sSeq (sSet 4 (mBin opAdd (mBin opIx (mV 3) (mC (.int 1))) (mFn 2 m_signs_in (mCons (mV 1) (mCons (mBin opIx (mV 3) (mC (.int 4))) mNil)))))
  (sSeq (sOwn fApp 2 (mCons (mFn 3 m_part_of (mCons (mV 3) (mCons (mBin opIx (mV 3) (mC (.int 1))) (mCons (mV 4) mNil)))) mNil))
  (sSet 3 (mFn 3 m_part_of (mCons (mV 3) (mCons (mV 4) (mCons (mFn 1 m_end_of (mCons (mV 3) mNil)) mNil)))))))
def b_cut_2 : MS := (sRet (mBin opAdd (mO 2) (mMap Val.lst (mLst (mCons (mV 3) mNil)))))
def b_cut : MS := (sSeq (sIf (mAsB (mBin opLe (mFn 1 m_size_of (mCons (mV 0) mNil)) (mV 1))) (sRet (mMap Val.lst (mLst (mCons (mV 0) mNil)))) sSkip)
  (sSeq (sIf (mAsB (mBin opEq (mBin opIx (mV 0) (mC (.int 3))) (mC (.int 1)))) (sRaise "Firm") sSkip)
  (sSeq (sIf (mAsB (mBin opLt (mFn 2 m_signs_in (mCons (mV 1) (mCons (mBin opIx (mV 0) (mC (.int 4))) mNil))) (mC (.int 4)))) (sRaise "TooNarrow") sSkip)
  (sSeq (sSetO 2 (mLst mNil))
  (sSeq (sSet 3 (mV 0))
  (sSeq (sWhile (mAsB (mBin opGt (mFn 1 m_size_of (mCons (mV 3) mNil)) (mV 1))) b_cut_1)
  b_cut_2))))))
def m_cut : MF := runF 5 b_cut
def b_cut_all : MS := (sSeq (sSetO 2 (mLst mNil))
  (sSeq (sFor (mIter (mV 0)) (gSet 3)
  (sOwn fExt 2 (mCons (mFn 2 m_cut (mCons (mV 3) (mCons (mV 1) mNil))) mNil)))
  (sRetO 2)))
def m_cut_all : MF := runF 4 b_cut_all
def b_cut_along : MS := (sSeq (sSet 2 (mMap Val.lst (mLst (mCons (mV 0) mNil))))
  (sSeq (sFor (mIter (mV 1)) (gSet 3)
  (sSet 2 (mFn 2 m_cut_all (mCons (mV 2) (mCons (mV 3) mNil)))))
  (sRet (mV 2))))
def m_cut_along : MF := runF 4 b_cut_along
def b_parts_at : MS := (sSeq (sIf (mAsB (mBin opLe (mFn 1 m_size_of (mCons (mV 0) mNil)) (mV 1))) (sRet (mC (.int 1))) sSkip)
  (sSeq (sIf (mAsB (mBin opLt (mFn 2 m_signs_in (mCons (mV 1) (mCons (mBin opIx (mV 0) (mC (.int 4))) mNil))) (mC (.int 4)))) (sRet (mC .non)) sSkip)
  (sSeq (sSet 2 (mBin opSub (mCall (fn1 lenV) (mCons (mBin opIx (mV 0) (mC (.int 5))) mNil)) (mFn 2 m_signs_in (mCons (mV 1) (mCons (mBin opIx (mV 0) (mC (.int 4))) mNil)))))
  (sSeq (sSet 3 (mC (.int 2)))
  (sSeq (sWhile (mAsB (mBin opGt (mBin opAdd (mV 2) (mC (.int 6))) (mV 1))) (sSeq (sAug (fun i j => i - j) 2 (mFn 2 m_signs_in (mCons (mV 1) (mCons (mC (.str [])) mNil))))
  (sAug (fun i j => i + j) 3 (mC (.int 1)))))
  (sRet (mV 3)))))))
def m_parts_at : MF := runF 4 b_parts_at
def b_least_width : MS := (sSeq (sSet 2 (mC (.int 0)))
  (sSeq (sSet 3 (mFn 2 m_parts_at (mCons (mV 0) (mCons (mV 2) mNil))))
  (sSeq (sWhile (mOr (mAsB (mBin opIsN (mV 3) (mC .non))) (mAsB (mBin opGt (mV 3) (mV 1)))) (sSeq (sAug (fun i j => i + j) 2 (mC (.int 1)))
  (sSet 3 (mFn 2 m_parts_at (mCons (mV 0) (mCons (mV 2) mNil))))))
  (sRet (mV 2)))))
def m_least_width : MF := runF 4 b_least_width
/-! ### parts -/
def Pc.part (p : Pc) (b e : Int) : Pc := ⟨p.snd, p.ask, p.num, b, if e < p.end_ then 1 else p.more, p.firm, if b = 0 then p.head else [], (p.words.drop (b - p.at_).toNat).take ((e - p.at_).toNat - (b - p.at_).toNat)⟩
section
variable {h : MH} {p : Pc} {b e w : Int}
theorem Pc.part_eq (h1 : p.at_ ≤ b) (h2 : p.at_ ≤ e) (hw : p.words.length ≤ 16777216) : m_part_of [p.val, .int b, .int e] h = .ok (p.part b e).val h := wp_eq (runF_wp (by
  have ee := Pc.end_eq (p := p) (h := h) hw
  have c := cut_mid (xs := p.words) (i := b - p.at_) (j := e - p.at_) (by omega) (by omega)
  simp only [Pc.val, Pc.key] at ee
  by_cases q1 : e < p.end_ <;> by_cases q2 : b = 0 <;> simp [b_part_of, Pc.val, Pc.key, ee, q1, q2, hw, Pc.part, c] <;> (try subst q2) <;> simp_all))
/-- how many signs go into a part -/
def sgn (w : Int) (k : Nat) : Int := (w - 6 - k) / 4 * 4
theorem signs_in_eq {t : Tx} (ht : t.length ≤ 16777216) : m_signs_in [.int w, .str t] h = .ok (.int (sgn w t.length)) h := wp_eq (runF_wp (by
  simp [b_signs_in, ht, sgn]))
end
theorem exc_eq {α : Type} {r : Res α} {c : String} {f : Option Val} {h : MH} (w : @Res.wp α r ⟨fun _ _ => False⟩ ⟨fun c' f' h' => c' = c ∧ f' = f ∧ h' = h⟩) : r = .exc c f h := by
  cases r with
  | ok v' h' => exact w.elim
  | exc c' f' h' => obtain ⟨rfl, rfl, rfl⟩ := w; rfl
  | bad => exact w.elim
/-- what is left behind the first part -/
def Pc.fst (p : Pc) (w : Int) : Pc := p.part p.at_ (p.at_ + sgn w p.head.length)
def Pc.rst (p : Pc) (w : Int) : Pc := p.part (p.at_ + sgn w p.head.length) p.end_
def Pc.cutL : Nat → Pc → Int → List Pc
  | 0, p, _ => [p]
  | n + 1, p, w => if (p.size : Int) ≤ w then [p] else p.fst w :: Pc.cutL n (p.rst w) w
def Pc.cuts (p : Pc) (w : Int) : List Pc := Pc.cutL p.words.length p w
/-- what a piece must be for the counting -/
structure Pc.Sz (p : Pc) : Prop where
  at0 : 0 ≤ p.at_
  hd : p.head.length ≤ 1000
  wd : p.words.length ≤ 1000
theorem Pc.Ok.sz {p : Pc} (o : p.Ok) : p.Sz := ⟨o.at0, by have := o.hdl; omega, by have := o.wl; omega⟩
theorem sgn_le {w : Int} {k : Nat} : sgn w k ≤ w - 6 - k := by unfold sgn; omega
theorem sgn_mono {w : Int} {j k : Nat} (h : j ≤ k) : sgn w k ≤ sgn w j := by unfold sgn; omega
theorem sgn4 {w : Int} {k : Nat} : sgn w k % 4 = 0 := by unfold sgn; omega
theorem Pc.rst_sz {p : Pc} {w : Int} (s : p.Sz) (h4 : 4 ≤ sgn w p.head.length) (hs : w < p.size) : (p.rst w).Sz ∧ (p.rst w).words.length + (sgn w p.head.length).toNat = p.words.length ∧ (p.rst w).head = [] := by
  have := s.at0; have := s.hd; have := s.wd
  have hl := sgn_le (w := w) (k := p.head.length)
  have hs' : w < 6 + p.head.length + p.words.length := by simpa [Pc.size] using hs
  have e : (p.rst w).words.length + (sgn w p.head.length).toNat = p.words.length := by
    simp only [Pc.rst, Pc.part, Pc.end_, List.length_take, List.length_drop]
    omega
  have e2 : (p.rst w).head = [] := by
    simp only [Pc.rst, Pc.part]
    rw [if_neg (by omega)]
  refine ⟨⟨?_, by rw [e2]; simp, by omega⟩, e, e2⟩
  simp only [Pc.rst, Pc.part]
  omega
def cutI (p : Pc) (w : Int) (h0 : MH) (n : Nat) (σ : Env) (h : MH) : Prop := h = h0 ∧ ∃ (done : List Pc) (q : Pc) (s4 : Slot), σ = [.val p.val, .val (.int w), .own (done.map Pc.val), .val q.val, s4] ∧ q.Sz ∧ 4 ≤ sgn w q.head.length ∧ q.words.length ≤ n ∧ n ≤ 1000 ∧ done.length + n ≤ 1000 ∧ done ++ Pc.cutL n q w = p.cuts w
theorem map_val_snoc (l : List Pc) (p : Pc) : l.map Pc.val ++ [p.val] = (l ++ [p]).map Pc.val := by simp
theorem Pc.ix1 {p : Pc} {h : MH} : opIx p.val (.int 1) h = .ok (.int p.at_) h := by simp [Pc.val, lift]
theorem Pc.ix3 {p : Pc} {h : MH} : opIx p.val (.int 3) h = .ok (.int p.firm) h := by simp [Pc.val, lift]
theorem Pc.ix4 {p : Pc} {h : MH} : opIx p.val (.int 4) h = .ok (.str p.head) h := by simp [Pc.val, lift]
theorem Pc.ix5 {p : Pc} {h : MH} : opIx p.val (.int 5) h = .ok (.str p.words) h := by simp [Pc.val, lift]
theorem Pc.ix0 {p : Pc} {h : MH} : opIx p.val (.int 0) h = .ok p.key h := by simp [Pc.val, lift]
theorem Pc.ix2 {p : Pc} {h : MH} : opIx p.val (.int 2) h = .ok (.int p.more) h := by simp [Pc.val, lift]
theorem cut_ok {p : Pc} {w : Int} {h : MH} (s : p.Sz) (hf : p.firm ≠ 1) (h4 : 4 ≤ sgn w p.head.length) : m_cut [p.val, .int w] h = .ok (.lst ((p.cuts w).map Pc.val)) h := wp_eq (runF_wp (by
  have := s.hd; have := s.wd
  have e1 := Pc.size_eq (p := p) (h := h) (by omega) (by omega)
  by_cases q : (p.size : Int) ≤ w
  · have ec : p.cuts w = [p] := by
      unfold Pc.cuts
      cases p.words.length with
      | zero => rfl
      | succ n => unfold Pc.cutL; rw [if_pos q]
    simp [b_cut, e1, q, ec]
  · have e3 : m_signs_in [.int w, .str p.head] h = .ok (.int (sgn w p.head.length)) h := signs_in_eq (by omega)
    simp [b_cut, e1, q, -opIx, Pc.ix3, Pc.ix4, hf, e3, show ¬ sgn w p.head.length < 4 by omega]
    refine while_wp (cutI p w h) p.words.length (by omega) ⟨rfl, [], p, _, rfl, s, h4, Nat.le_refl _, by omega, by simp; omega, rfl⟩ ?_
    rintro n σ h' ⟨rfl, done, q, s4, rfl, sq, q4, ql, n1, dl, ed⟩
    have := sq.hd; have := sq.wd; have := sq.at0
    have z1 := Pc.size_eq (p := q) (h := h') (by omega) (by omega)
    simp [z1]
    refine ch_of (fun zz => ?_) fun zz => ?_
    · have z2 : m_signs_in [.int w, .str q.head] h' = .ok (.int (sgn w q.head.length)) h' := signs_in_eq (by omega)
      have hq : q.size = 6 + q.head.length + q.words.length := rfl
      have hl := sgn_le (w := w) (k := q.head.length)
      have z3 : m_part_of [q.val, .int q.at_, .int (q.at_ + sgn w q.head.length)] h' = .ok (q.fst w).val h' := Pc.part_eq (by omega) (by omega) (by omega)
      have z4 : m_end_of [q.val] h' = .ok (.int q.end_) h' := Pc.end_eq (by omega)
      have hend : q.at_ + sgn w q.head.length ≤ q.end_ := by unfold Pc.end_; omega
      have z5 : m_part_of [q.val, .int (q.at_ + sgn w q.head.length), .int q.end_] h' = .ok (q.rst w).val h' := Pc.part_eq (by omega) (by unfold Pc.end_; omega) (by omega)
      simp [b_cut_1, -opIx, Pc.ix1, Pc.ix4, z2, z3, z4, z5, show done.length < 16777216 by omega]
      obtain ⟨r1, r2, r3⟩ := Pc.rst_sz sq q4 (by omega)
      refine ⟨n - 1, by omega, rfl, done ++ [q.fst w], q.rst w, _, by rw [map_val_snoc], r1, by rw [r3]; have := sgn_mono (w := w) (j := 0) (k := q.head.length) (by omega); simpa using (by omega : 4 ≤ sgn w 0), by omega, by omega, by simp; omega, ?_⟩
      rw [← ed]
      obtain ⟨m, rfl⟩ : ∃ m, n = m + 1 := ⟨n - 1, by omega⟩
      conv => rhs; unfold Pc.cutL
      rw [if_neg (by omega)]
      simp
    · simp [b_cut_2]
      have e5 : Pc.cutL n q w = [q] := by
        cases n with
        | zero => rfl
        | succ n => unfold Pc.cutL; rw [if_pos (by omega)]
      rw [e5] at ed
      refine ch_go (by omega) ?_
      rw [← ed]
      simp))
theorem cut_firm {p : Pc} {w : Int} {h : MH} (s : p.Sz) (hs : w < p.size) (hf : p.firm = 1) : m_cut [p.val, .int w] h = .exc "Firm" none h := exc_eq (runF_wp (by
  have := s.hd; have := s.wd
  have e1 := Pc.size_eq (p := p) (h := h) (by omega) (by omega)
  simp [b_cut, e1, -opIx, Pc.ix3, hf, show ¬ (p.size : Int) ≤ w by omega]))
theorem cut_narrow {p : Pc} {w : Int} {h : MH} (s : p.Sz) (hs : w < p.size) (hf : p.firm ≠ 1) (h4 : sgn w p.head.length < 4) : m_cut [p.val, .int w] h = .exc "TooNarrow" none h := exc_eq (runF_wp (by
  have := s.hd; have := s.wd
  have e1 := Pc.size_eq (p := p) (h := h) (by omega) (by omega)
  have e3 : m_signs_in [.int w, .str p.head] h = .ok (.int (sgn w p.head.length)) h := signs_in_eq (by omega)
  simp [b_cut, e1, -opIx, Pc.ix3, Pc.ix4, hf, e3, h4, show ¬ (p.size : Int) ≤ w by omega]))
theorem cut_whole {p : Pc} {w : Int} {h : MH} (s : p.Sz) (hs : (p.size : Int) ≤ w) : m_cut [p.val, .int w] h = .ok (.lst [p.val]) h := wp_eq (runF_wp (by
  have := s.hd; have := s.wd
  have e1 := Pc.size_eq (p := p) (h := h) (by omega) (by omega)
  simp [b_cut, e1, hs]))
/-! ### how many parts -/
def loopL : Nat → Int → Int → Nat
  | 0, _, _ => 0
  | n + 1, l, w => if w < l + 6 then 1 + loopL n (l - sgn w 0) w else 0
theorem loopL_stop {n : Nat} {l w : Int} (h : ¬ w < l + 6) : loopL n l w = 0 := by
  cases n with
  | zero => rfl
  | succ n => unfold loopL; rw [if_neg h]
theorem cutL_len : ∀ (n : Nat) (q : Pc) (w : Int), q.Sz → q.head = [] → q.words.length ≤ n → 4 ≤ sgn w 0 → (Pc.cutL n q w).length = 1 + loopL n q.words.length w
  | 0, q, w, s, hh, hl, h4 => by
    have := sgn_le (w := w) (k := 0)
    rw [loopL_stop (by omega)]; rfl
  | n + 1, q, w, s, hh, hl, h4 => by
    have hq : q.size = 6 + q.words.length := by simp [Pc.size, hh]
    unfold Pc.cutL loopL
    by_cases z : (q.size : Int) ≤ w
    · rw [if_pos z, if_neg (by omega)]; rfl
    · have e : q.head.length = 0 := by rw [hh]; rfl
      obtain ⟨r1, r2, r3⟩ := Pc.rst_sz (w := w) s (by rw [e]; exact h4) (by omega)
      rw [e] at r2
      rw [if_neg z, if_pos (by omega), List.length_cons, cutL_len n _ w r1 r3 (by omega) h4, show ((q.rst w).words.length : Int) = q.words.length - sgn w 0 by omega]
      omega
/-- of how many parts the cut consists; nought where none goes -/
def Pc.pN (p : Pc) (w : Int) : Nat := if (p.size : Int) ≤ w then 1 else if sgn w p.head.length < 4 then 0 else (p.cuts w).length
theorem Pc.pN_eq {p : Pc} {w : Int} (s : p.Sz) (h1 : w < p.size) (h4 : 4 ≤ sgn w p.head.length) : p.pN w = 2 + loopL (p.words.length - 1) (p.words.length - sgn w p.head.length) w := by
  have hl := sgn_le (w := w) (k := p.head.length)
  have hm := sgn_mono (w := w) (j := 0) (k := p.head.length) (Nat.zero_le _)
  have hs : p.size = 6 + p.head.length + p.words.length := rfl
  unfold Pc.pN
  rw [if_neg (by omega), if_neg (by omega)]
  unfold Pc.cuts
  obtain ⟨m, hm2⟩ : ∃ m, p.words.length = m + 1 := ⟨p.words.length - 1, by omega⟩
  obtain ⟨r1, r2, r3⟩ := Pc.rst_sz (w := w) s h4 h1
  rw [hm2]
  unfold Pc.cutL
  rw [if_neg (by omega), List.length_cons, cutL_len m _ w r1 r3 (by omega) (by omega), show ((p.rst w).words.length : Int) = ((m + 1 : Nat) : Int) - sgn w p.head.length by omega]
  simp only [Nat.add_sub_cancel]
  omega
theorem Pc.pN_0 {p : Pc} {w : Int} (h1 : w < p.size) (h4 : sgn w p.head.length < 4) : p.pN w = 0 := by
  unfold Pc.pN; rw [if_neg (by omega), if_pos h4]
theorem Pc.pN_1 {p : Pc} {w : Int} (h1 : (p.size : Int) ≤ w) : p.pN w = 1 := by
  unfold Pc.pN; rw [if_pos h1]
theorem Pc.pN_len {p : Pc} {w : Int} (s : p.Sz) (h4 : 4 ≤ sgn w p.head.length) : (p.cuts w).length = p.pN w := by
  unfold Pc.pN
  by_cases z : (p.size : Int) ≤ w
  · rw [if_pos z]
    unfold Pc.cuts
    cases p.words.length with
    | zero => rfl
    | succ n => unfold Pc.cutL; rw [if_pos z]; rfl
  · rw [if_neg z, if_neg (by omega)]
def ptI (p : Pc) (w : Int) (h0 : MH) (n : Nat) (σ : Env) (h : MH) : Prop := h = h0 ∧ ∃ (l : Int) (m : Nat), σ = [.val p.val, .val (.int w), .val (.int l), .val (.int (m : Nat))] ∧ l ≤ n ∧ n ≤ 1000 ∧ m + loopL n l w = p.pN w
theorem parts_at_eq {p : Pc} {w : Int} {h : MH} (s : p.Sz) : m_parts_at [p.val, .int w] h = .ok (if p.pN w = 0 then .non else .int (p.pN w)) h := wp_eq (runF_wp (by
  have := s.hd; have := s.wd
  have e1 := Pc.size_eq (p := p) (h := h) (by omega) (by omega)
  have hs : p.size = 6 + p.head.length + p.words.length := rfl
  by_cases z : (p.size : Int) ≤ w
  · simp [b_parts_at, e1, z, Pc.pN_1 z]
  · have e3 : m_signs_in [.int w, .str p.head] h = .ok (.int (sgn w p.head.length)) h := signs_in_eq (by omega)
    by_cases q : sgn w p.head.length < 4
    · simp [b_parts_at, e1, z, -opIx, Pc.ix4, e3, q, Pc.pN_0 (by omega) q]
    · have hl := sgn_le (w := w) (k := p.head.length)
      have hm := sgn_mono (w := w) (j := 0) (k := p.head.length) (Nat.zero_le _)
      have ep := Pc.pN_eq (w := w) s (by omega) (by omega)
      have e4 : m_signs_in [.int w, .str []] h = .ok (.int (sgn w 0)) h := signs_in_eq (by simp)
      rw [if_neg (by omega)]
      simp [b_parts_at, e1, z, -opIx, Pc.ix4, Pc.ix5, e3, q, show List.length p.words ≤ 16777216 by omega]
      refine while_wp (ptI p w h) (p.words.length - 1) (by omega) ⟨rfl, _, 2, rfl, by omega, by omega, ep.symm⟩ ?_
      rintro n σ h' ⟨rfl, l, m, rfl, l1, n1, em⟩
      simp
      refine ch_of (fun zz => ?_) fun zz => ?_
      · simp [e4]
        obtain ⟨n, rfl⟩ : ∃ k, n = k + 1 := ⟨n - 1, by omega⟩
        refine ⟨n, by omega, rfl, l - sgn w 0, m + 1, by simp, by omega, by omega, ?_⟩
        rw [← em]
        conv => rhs; unfold loopL
        rw [if_pos zz]
        omega
      · simp
        rw [loopL_stop zz] at em
        omega))
theorem least_ex {P : Nat → Prop} : (∃ n, P n) → ∃ n, P n ∧ ∀ m, m < n → ¬ P m := fun ⟨n, hn⟩ => by
  induction n using Nat.strongRecOn with
  | _ n ih =>
    by_cases z : ∃ m, m < n ∧ P m
    · obtain ⟨m, h1, h2⟩ := z
      exact ih m h1 h2
    · exact ⟨n, hn, fun m h1 h2 => z ⟨m, h1, h2⟩⟩
/-- the least width -/
def Pc.IsL (p : Pc) (many : Int) (L : Nat) : Prop := 0 < p.pN L ∧ (p.pN L : Int) ≤ many ∧ ∀ w : Nat, w < L → ¬ (0 < p.pN w ∧ (p.pN w : Int) ≤ many)
theorem Pc.exL {p : Pc} {many : Int} (h : 1 ≤ many) : ∃ L, p.IsL many L ∧ L ≤ p.size := by
  have ex : ∃ L : Nat, 0 < p.pN L ∧ (p.pN L : Int) ≤ many := ⟨p.size, by rw [Pc.pN_1 (by omega)]; decide, by rw [Pc.pN_1 (by omega)]; omega⟩
  obtain ⟨L, hL, hm⟩ := least_ex ex
  refine ⟨L, ⟨hL.1, hL.2, hm⟩, ?_⟩
  rcases Nat.lt_or_ge p.size L with q | q
  · exact absurd ⟨by rw [Pc.pN_1 (by omega)]; decide, by rw [Pc.pN_1 (by omega)]; omega⟩ (hm _ q)
  · exact q
def lwI (p : Pc) (many : Int) (L : Nat) (h0 : MH) (n : Nat) (σ : Env) (h : MH) : Prop := h = h0 ∧ ∃ (w : Nat), σ = [.val p.val, .val (.int many), .val (.int (w : Nat)), .val (if p.pN w = 0 then .non else .int (p.pN w))] ∧ w + n = L
theorem least_width_eq {p : Pc} {many : Int} {L : Nat} {h : MH} (s : p.Sz) (hL : p.IsL many L) (hl : L < 1000000) : m_least_width [p.val, .int many] h = .ok (.int (L : Nat)) h := wp_eq (runF_wp (by
  have e0 : m_parts_at [p.val, .int 0] h = .ok (if p.pN 0 = 0 then .non else .int (p.pN 0)) h := parts_at_eq s
  simp [b_least_width, e0]
  refine while_wp (lwI p many L h) L (by omega) ⟨rfl, 0, rfl, by omega⟩ ?_
  rintro n σ h' ⟨rfl, w, rfl, ew⟩
  have e1 : m_parts_at [p.val, .int ((w : Int) + 1)] h' = .ok (if p.pN ((w : Int) + 1) = 0 then .non else .int (p.pN ((w : Int) + 1))) h' := parts_at_eq s
  have next : n ≠ 0 → ∃ m, m < n ∧ lwI p many L h' m [.val p.val, .val (.int many), .val (.int ((w : Int) + 1)), .val (if p.pN ((w : Int) + 1) = 0 then .non else .int (p.pN ((w : Int) + 1)))] h' := fun hn => ⟨n - 1, by omega, rfl, w + 1, by simp, by omega⟩
  by_cases z : p.pN w = 0
  · have hn : n ≠ 0 := fun hn => by
      have : w = L := by omega
      have := hL.1
      subst w
      omega
    simp [z, e1]
    exact next hn
  · by_cases q : many < (p.pN w : Int)
    · have hn : n ≠ 0 := fun hn => by
        have : w = L := by omega
        have := hL.2.1
        subst w
        omega
      simp [z, q, e1]
      exact next hn
    · have : ¬ w < L := fun hw => hL.2.2 w hw ⟨by omega, by omega⟩
      have e : w = L := by omega
      subst e
      simp [z, q]))
/-! ### what the cuttings tell -/
def resOf (s : Sum String (List Pc)) (h : MH) : Res Val := match s with
  | .inl c => .exc c none h
  | .inr l => .ok (.lst (l.map Pc.val)) h
def Pc.cutR (p : Pc) (w : Int) : Sum String (List Pc) := if (p.size : Int) ≤ w then .inr [p] else if p.firm = 1 then .inl "Firm" else if sgn w p.head.length < 4 then .inl "TooNarrow" else .inr (p.cuts w)
theorem cut_R {p : Pc} {w : Int} {h : MH} (s : p.Sz) : m_cut [p.val, .int w] h = resOf (p.cutR w) h := by
  unfold Pc.cutR
  by_cases z : (p.size : Int) ≤ w
  · rw [if_pos z, cut_whole s z]; rfl
  · rw [if_neg z]
    by_cases f : p.firm = 1
    · rw [if_pos f, cut_firm s (by omega) f]; rfl
    · rw [if_neg f]
      by_cases q : sgn w p.head.length < 4
      · rw [if_pos q, cut_narrow s (by omega) f q]; rfl
      · rw [if_neg q, cut_ok s f (by omega)]; rfl
/-- the places that pieces take, one at least each -/
def wt (l : List Pc) : Nat := (l.map fun p => max 1 p.words.length).sum
theorem wt_nil : wt [] = 0 := rfl
theorem wt_cons {p : Pc} {l : List Pc} : wt (p :: l) = max 1 p.words.length + wt l := by simp [wt]
theorem wt_app {l m : List Pc} : wt (l ++ m) = wt l + wt m := by simp [wt]
theorem wt_len : ∀ l : List Pc, l.length ≤ wt l
  | [] => Nat.le_refl _
  | p :: l => by have := wt_len l; rw [wt_cons, List.length_cons]; omega
theorem Pc.fst_sz {p : Pc} {w : Int} (s : p.Sz) (h4 : 4 ≤ sgn w p.head.length) (hs : w < p.size) : (p.fst w).Sz ∧ ((p.fst w).words.length : Int) = sgn w p.head.length := by
  have := s.at0; have := s.hd; have := s.wd
  have hl := sgn_le (w := w) (k := p.head.length)
  have hs' : w < 6 + p.head.length + p.words.length := by simpa [Pc.size] using hs
  have e : ((p.fst w).words.length : Int) = sgn w p.head.length := by
    simp only [Pc.fst, Pc.part, List.length_take, List.length_drop]
    omega
  refine ⟨⟨s.at0, ?_, by omega⟩, e⟩
  simp only [Pc.fst, Pc.part]
  split
  · exact s.hd
  · simp
theorem cutL_sz : ∀ (n : Nat) (q : Pc) (w : Int), q.Sz → 4 ≤ sgn w q.head.length → (∀ p ∈ Pc.cutL n q w, p.Sz) ∧ wt (Pc.cutL n q w) = max 1 q.words.length
  | 0, q, w, s, h4 => ⟨fun p hp => by rw [List.mem_singleton.mp hp]; exact s, by simp [Pc.cutL, wt]⟩
  | n + 1, q, w, s, h4 => by
    unfold Pc.cutL
    by_cases z : (q.size : Int) ≤ w
    · rw [if_pos z]
      exact ⟨fun p hp => by rw [List.mem_singleton.mp hp]; exact s, by simp [wt]⟩
    · rw [if_neg z]
      obtain ⟨r1, r2, r3⟩ := Pc.rst_sz (w := w) s h4 (by omega)
      obtain ⟨f1, f2⟩ := Pc.fst_sz (w := w) s h4 (by omega)
      have hl := sgn_le (w := w) (k := q.head.length)
      have hq : q.size = 6 + q.head.length + q.words.length := rfl
      have hm := sgn_mono (w := w) (j := 0) (k := q.head.length) (Nat.zero_le _)
      obtain ⟨i1, i2⟩ := cutL_sz n (q.rst w) w r1 (by rw [r3]; simpa using (by omega : 4 ≤ sgn w 0))
      refine ⟨fun p hp => ?_, ?_⟩
      · rcases List.mem_cons.mp hp with e | e
        · rw [e]; exact f1
        · exact i1 p e
      · rw [wt_cons, i2]
        omega
theorem cutR_sz {p : Pc} {w : Int} {l : List Pc} (s : p.Sz) (h : p.cutR w = .inr l) : (∀ q ∈ l, q.Sz) ∧ wt l = max 1 p.words.length := by
  unfold Pc.cutR at h
  split at h
  · cases h
    exact ⟨fun q hq => by rw [List.mem_singleton.mp hq]; exact s, by simp [wt]⟩
  · split at h
    · cases h
    · split at h
      · cases h
      · cases h
        exact cutL_sz _ p w s (by omega)
def cutAll : List Pc → Int → Sum String (List Pc)
  | [], _ => .inr []
  | p :: l, w => match p.cutR w with
    | .inl c => .inl c
    | .inr a => match cutAll l w with
      | .inl c => .inl c
      | .inr b => .inr (a ++ b)
theorem cutAll_cons {p : Pc} {l : List Pc} {w : Int} : cutAll (p :: l) w = (match p.cutR w with
    | .inl c => .inl c
    | .inr a => match cutAll l w with
      | .inl c => .inl c
      | .inr b => .inr (a ++ b)) := rfl
theorem cutAll_sz : ∀ {l : List Pc} {w : Int} {m : List Pc}, (∀ q ∈ l, q.Sz) → cutAll l w = .inr m → (∀ q ∈ m, q.Sz) ∧ wt m = wt l
  | [], w, m, _, h => by cases h; exact ⟨fun q hq => (by cases hq), rfl⟩
  | p :: l, w, m, s, h => by
    unfold cutAll at h
    cases e : p.cutR w with
    | inl c => rw [e] at h; cases h
    | inr a =>
      rw [e] at h
      cases e2 : cutAll l w with
      | inl c => rw [e2] at h; cases h
      | inr b =>
        rw [e2] at h
        cases h
        obtain ⟨i1, i2⟩ := cutR_sz (s p List.mem_cons_self) e
        obtain ⟨j1, j2⟩ := cutAll_sz (fun q hq => s q (List.mem_cons_of_mem _ hq)) e2
        refine ⟨fun q hq => (List.mem_append.mp hq).elim (i1 q) (j1 q), ?_⟩
        rw [wt_app, wt_cons, i2, j2]
theorem wp_res {α : Type} {r R : Res α} (w : @Res.wp α r ⟨fun v h => Res.ok v h = R⟩ ⟨fun c f h => Res.exc c f h = R⟩) : r = R := by
  cases r with
  | ok v h => exact w
  | exc c f h => exact w
  | bad => exact w.elim
def cAllI (l0 : List Pc) (w : Int) (h0 : MH) (l : List Val) (σ : Env) (h : MH) : Prop := h = h0 ∧ ∃ (done rest : List Pc) (s3 : Slot), σ = [.val (.lst (l0.map Pc.val)), .val (.int w), .own (done.map Pc.val), s3] ∧ l = rest.map Pc.val ∧ (∀ q ∈ rest, q.Sz) ∧ wt done + wt rest ≤ 1000000 ∧
  cutAll l0 w = (match cutAll rest w with
    | .inl c => .inl c
    | .inr b => .inr (done ++ b))
theorem cut_all_R {l : List Pc} {w : Int} {h : MH} (s : ∀ q ∈ l, q.Sz) (hl : wt l ≤ 1000000) : m_cut_all [.lst (l.map Pc.val), .int w] h = resOf (cutAll l w) h := wp_res (runF_wp (by
  simp [b_cut_all]
  refine for_wp _ (cAllI l w h) ?_ ?_ _ _ _ ?_
  · rintro v r σ h' ⟨rfl, done, rest, s3, rfl, e, hr, hw, hc⟩
    cases rest with
    | nil => cases e
    | cons p rest =>
      cases e
      have ec : m_cut [p.val, .int w] h' = resOf (p.cutR w) h' := cut_R (hr p List.mem_cons_self)
      cases e2 : p.cutR w with
      | inl c =>
        rw [e2] at ec
        have ec : m_cut [p.val, .int w] h' = .exc c none h' := ec
        simp [ec]
        rw [cutAll_cons (p := p), e2] at hc
        rw [hc]
        rfl
      | inr a =>
        rw [e2] at ec
        have ec : m_cut [p.val, .int w] h' = .ok (.lst (a.map Pc.val)) h' := ec
        obtain ⟨i1, i2⟩ := cutR_sz (hr p List.mem_cons_self) e2
        have w1 := wt_len done
        have w2 := wt_len a
        rw [wt_cons] at hw
        simp [ec, show done.length + a.length ≤ 16777216 by omega]
        refine ⟨rfl, done ++ a, rest, _, by rw [List.map_append], rfl, fun q hq => hr q (List.mem_cons_of_mem _ hq), by rw [wt_app]; omega, ?_⟩
        rw [hc]
        rw [cutAll_cons (p := p), e2]
        simp only
        cases cutAll rest w with
        | inl c => rfl
        | inr b => simp
  · rintro σ h' ⟨rfl, done, rest, s3, rfl, e, hr, hw, hc⟩
    cases rest with
    | nil =>
      simp
      rw [hc]
      simp [cutAll, resOf]
    | cons p rest => cases e
  · refine ⟨rfl, [], l, _, rfl, rfl, s, by rw [wt_nil]; omega, ?_⟩
    cases cutAll l w <;> simp))
def cutAlong : List Pc → List Int → Sum String (List Pc)
  | l, [] => .inr l
  | l, w :: ws => match cutAll l w with
    | .inl c => .inl c
    | .inr m => cutAlong m ws
theorem cutAlong_cons {l : List Pc} {w : Int} {ws : List Int} : cutAlong l (w :: ws) = (match cutAll l w with
    | .inl c => .inl c
    | .inr m => cutAlong m ws) := rfl
def cAlI (v0 : Val) (v1 : Val) (R : Sum String (List Pc)) (h0 : MH) (l : List Val) (σ : Env) (h : MH) : Prop := h = h0 ∧ ∃ (ps : List Pc) (ws : List Int) (s3 : Slot), σ = [.val v0, .val v1, .val (.lst (ps.map Pc.val)), s3] ∧ l = ws.map Val.int ∧ (∀ q ∈ ps, q.Sz) ∧ wt ps ≤ 1000000 ∧ cutAlong ps ws = R
theorem cut_along_R {p : Pc} {ws : List Int} {h : MH} (s : p.Sz) : m_cut_along [p.val, .lst (ws.map Val.int)] h = resOf (cutAlong [p] ws) h := wp_res (runF_wp (by
  have := s.wd
  simp [b_cut_along]
  refine for_wp _ (cAlI p.val (.lst (ws.map Val.int)) (cutAlong [p] ws) h) ?_ ?_ _ _ _ ?_
  · rintro v r σ h' ⟨rfl, ps, ws2, s3, rfl, e, hr, hw, hc⟩
    cases ws2 with
    | nil => cases e
    | cons w ws2 =>
      cases e
      have ec : m_cut_all [.lst (ps.map Pc.val), .int w] h' = resOf (cutAll ps w) h' := cut_all_R hr hw
      rw [cutAlong_cons (l := ps)] at hc
      cases e2 : cutAll ps w with
      | inl c =>
        rw [e2] at ec hc
        have ec : m_cut_all [.lst (ps.map Pc.val), .int w] h' = .exc c none h' := ec
        simp [ec]
        rw [← hc]
        rfl
      | inr m =>
        rw [e2] at ec hc
        have ec : m_cut_all [.lst (ps.map Pc.val), .int w] h' = .ok (.lst (m.map Pc.val)) h' := ec
        obtain ⟨i1, i2⟩ := cutAll_sz hr e2
        simp [ec]
        exact ⟨rfl, m, ws2, _, rfl, rfl, i1, by omega, hc⟩
  · rintro σ h' ⟨rfl, ps, ws2, s3, rfl, e, hr, hw, hc⟩
    cases ws2 with
    | nil =>
      simp
      rw [← hc]
      rfl
    | cons w ws2 => cases e
  · exact ⟨rfl, [p], ws, _, rfl, rfl, fun q hq => by rw [List.mem_singleton.mp hq]; exact s, by simp [wt]; omega, rfl⟩))
end Mi
/-! ShK: a piece's parts by place and length. -/
namespace Mi
open PySem L2 PyProof.Rows
theorem ix_last {l : List Val} {v : Val} {h : MH} : opIx (.lst (l ++ [v])) (.int (-1)) h = .ok v h := by
  have e : atI (l ++ [v]) (-1) = some v := by
    unfold L2.atI L2.ixN
    simp
    rw [if_pos (by omega), show (-1 + ((l.length : Int) + 1)).toNat = l.length by omega]
    simp
  simp [lift, e]
theorem ix_first {l : List Val} {v : Val} {h : MH} : opIx (.lst (v :: l)) (.int 0) h = .ok v h := by
  simp [lift]
theorem cut_init {α : Type} {l : List α} {v : α} : cutL (l ++ [v]) none (some (-1)) = l := by
  unfold cutL HT.sIx
  simp
  rw [show (-1 + ((l.length : Int) + 1)).toNat = l.length by omega]
  simp
/-- the words of a part -/
def wrdV : Val → Val
  | .tup [_, _, _, _, _, .str w] => .str w
  | v => v
theorem wrdV_e {q : Pc} : wrdV q.val = .str q.words := rfl
def Seg (p : Pc) : Int → List Pc → Int → Prop
  | a, [], b => a = b
  | a, q :: l, b => q.key = p.key ∧ q.firm = 0 ∧ q.at_ = a ∧ q.Ok ∧ Seg p q.end_ l b
theorem Seg.app {p : Pc} {m : List Pc} {b c : Int} : ∀ {l : List Pc} {a : Int}, Seg p a l b → Seg p b m c → Seg p a (l ++ m) c
  | [], a, h1, h2 => by cases h1; exact h2
  | q :: l, a, h1, h2 => ⟨h1.1, h1.2.1, h1.2.2.1, h1.2.2.2.1, h1.2.2.2.2.app h2⟩
theorem Seg.ok {p : Pc} {b : Int} : ∀ {l : List Pc} {a : Int}, Seg p a l b → ∀ q ∈ l, q.Ok
  | [], a, _, q, hq => by cases hq
  | r :: l, a, h1, q, hq => by
    rcases List.mem_cons.mp hq with e | e
    · rw [e]; exact h1.2.2.2.1
    · exact h1.2.2.2.2.ok q e
/-- the parts l, and q at last, are p -/
structure Cut (p : Pc) (l : List Pc) (q : Pc) : Prop where
  seg : Seg p p.at_ (l ++ [q]) p.end_
  mores : ∀ r ∈ l, r.more = 1
  more : q.more = p.more
  head : ∀ r m, l ++ [q] = r :: m → r.head = p.head
  words : ((l ++ [q]).map Pc.words).flatten = p.words
  len : l.length ≤ 1000
/-- k signs from the j-th on -/
def Pc.sub (p : Pc) (j k : Nat) (m : Int) : Pc := ⟨p.snd, p.ask, p.num, p.at_ + j, m, 0, if j = 0 then p.head else [], (p.words.drop j).take k⟩
theorem Pc.sub_len {p : Pc} {j k : Nat} {m : Int} (h : j + k ≤ p.words.length) : (Pc.sub p j k m).words.length = k := by
  simp only [Pc.sub, List.length_take, List.length_drop]; omega
theorem Pc.sub_size {p : Pc} {j k : Nat} {m : Int} (h : j + k ≤ p.words.length) : (Pc.sub p j k m).size = 6 + (if j = 0 then p.head.length else 0) + k := by
  have := Pc.sub_len (m := m) h
  simp only [Pc.size, this]
  simp only [Pc.sub]
  split <;> simp
theorem Pc.sub_end {p : Pc} {j k : Nat} {m : Int} (h : j + k ≤ p.words.length) : (Pc.sub p j k m).end_ = p.at_ + ((j + k : Nat) : Int) := by
  have := Pc.sub_len (m := m) h
  simp only [Pc.end_, this]
  simp only [Pc.sub]
  omega
theorem Pc.sub_ok {p : Pc} {j k : Nat} {m : Int} (o : p.Ok) (h : j + k ≤ p.words.length) (h4 : j % 4 = 0) (hm : m = 0 ∨ m = 1) (h1 : m = 1 → 4 ≤ k ∧ k % 4 = 0) (h0 : m = 0 → p.at_ + j = 0 ∨ 1 ≤ k) : (Pc.sub p j k m).Ok := by
  have hl := Pc.sub_len (m := m) h
  have := o.at0; have := o.at4; have := o.tot; have := o.hdl
  refine ⟨o.nm1, o.nm2, o.ne, o.num0, o.num1, ?_, ?_, hm, Or.inl rfl, ?_, ?_, ?_, ?_, ?_, ?_, ?_⟩
  · show 0 ≤ p.at_ + (j : Int); omega
  · show (p.at_ + (j : Int)) % 4 = 0; omega
  · show Sg (if j = 0 then p.head else [])
    split
    · exact o.hd
    · exact Sg.nil
  · show (if j = 0 then p.head else []).length ≤ 12
    split
    · exact o.hdl
    · simp
  · show p.at_ + (j : Int) ≠ 0 → (if j = 0 then p.head else []) = []
    intro z
    split
    · rename_i e; exact o.hd0 (by omega)
    · rfl
  · exact (o.wd.drop j).take k
  · rw [hl]; show p.at_ + (j : Int) + k ≤ 400; omega
  · rw [hl]; exact h1
  · rw [hl]; exact h0
def CutAt (p : Pc) (w : Int) (n j : Nat) (L : List Pc) : Prop := ∃ l q, L = l ++ [q] ∧ Seg p (p.at_ + j) (l ++ [q]) p.end_ ∧ (∀ r ∈ l, r.more = 1) ∧ q.more = p.more ∧ (∀ r m, l ++ [q] = r :: m → r.head = (if j = 0 then p.head else [])) ∧ ((l ++ [q]).map Pc.words).flatten = p.words.drop j ∧ l.length ≤ n ∧ (∀ r ∈ l ++ [q], (r.size : Int) ≤ w) ∧ ∀ r ∈ l, w < r.size + 4
theorem last_ok {p : Pc} {j : Nat} (o : p.Ok) (h : j ≤ p.words.length) (h4 : j % 4 = 0) (h0 : p.more = 1 ∨ p.at_ + j = 0 ∨ j < p.words.length) (h1 : p.more = 1 → j < p.words.length) : (Pc.sub p j (p.words.length - j) p.more).Ok :=
  Pc.sub_ok o (by omega) h4 o.mr (fun z => by have := o.m1 z; have := h1 z; omega) (fun z => by omega)
theorem last_cut {p : Pc} {w : Int} {n j : Nat} (o : p.Ok) (h : j ≤ p.words.length) (h4 : j % 4 = 0) (h0 : p.more = 1 ∨ p.at_ + j = 0 ∨ j < p.words.length) (h1 : p.more = 1 → j < p.words.length) (hs : ((Pc.sub p j (p.words.length - j) p.more).size : Int) ≤ w) : CutAt p w n j [Pc.sub p j (p.words.length - j) p.more] := by
  refine ⟨[], Pc.sub p j (p.words.length - j) p.more, rfl, ⟨rfl, rfl, rfl, last_ok o h h4 h0 h1, ?_⟩, fun r hr => (by cases hr), rfl, fun r m e => ?_, ?_, Nat.zero_le _, fun r hr => ?_, fun r hr => (by cases hr)⟩
  · show (Pc.sub p j (p.words.length - j) p.more).end_ = p.end_
    rw [Pc.sub_end (by omega)]
    show p.at_ + ((j + (p.words.length - j) : Nat) : Int) = p.at_ + p.words.length
    omega
  · cases e; rfl
  · simp only [Pc.sub, List.nil_append, List.map_cons, List.map_nil, List.flatten_cons, List.flatten_nil, List.append_nil]
    exact List.take_of_length_le (by simp)
  · rw [List.mem_singleton.mp hr]; exact hs
theorem cutL_cut (p : Pc) (w : Int) (o : p.Ok) (hf : p.firm = 0) (hw : 4 ≤ sgn w p.head.length) : ∀ (n j : Nat), j ≤ p.words.length → p.words.length ≤ n + j → j % 4 = 0 → (p.more = 1 ∨ p.at_ + j = 0 ∨ j < p.words.length) → (p.more = 1 → j < p.words.length) →
    CutAt p w n j (Pc.cutL n (Pc.sub p j (p.words.length - j) p.more) w) := by
  have hl := sgn_le (w := w) (k := p.head.length)
  have o0 := o.at0
  intro n
  induction n with
  | zero =>
    intro j h1 h2 h4 h5 h6
    refine last_cut o h1 h4 h5 h6 ?_
    rw [Pc.sub_size (by omega)]
    split <;> omega
  | succ n ih =>
    intro j h1 h2 h4 h5 h6
    unfold Pc.cutL
    by_cases z : ((Pc.sub p j (p.words.length - j) p.more).size : Int) ≤ w
    · rw [if_pos z]
      exact last_cut o h1 h4 h5 h6 z
    · rw [if_neg z]
      have ehl : (Pc.sub p j (p.words.length - j) p.more).head.length = if j = 0 then p.head.length else 0 := by
        simp only [Pc.sub]; split <;> simp
      have ez := Pc.sub_size (p := p) (j := j) (k := p.words.length - j) (m := p.more) (by omega)
      have en := Pc.sub_end (p := p) (j := j) (k := p.words.length - j) (m := p.more) (by omega)
      obtain ⟨H, eH⟩ : ∃ H, H = (if j = 0 then p.head.length else 0) := ⟨_, rfl⟩
      rw [← eH] at ehl ez
      have hH : H ≤ p.head.length := by rw [eH]; split <;> omega
      have hm := sgn_mono (w := w) hH
      have hl2 := sgn_le (w := w) (k := H)
      have hg4 := sgn4 (w := w) (k := H)
      obtain ⟨G, eG⟩ : ∃ G : Nat, sgn w H = G := ⟨(sgn w H).toNat, by omega⟩
      have e1 : (Pc.sub p j (p.words.length - j) p.more).fst w = Pc.sub p j G 1 := by
        unfold Pc.fst
        rw [ehl, eG]
        simp only [Pc.part, en]
        simp only [Pc.sub, Pc.mk.injEq, true_and]
        refine ⟨if_pos (by omega), ?_, ?_⟩
        · change (if p.at_ + (j : Int) = 0 then (if j = 0 then p.head else []) else []) = (if j = 0 then p.head else [])
          by_cases q1 : p.at_ + (j : Int) = 0
          · rw [if_pos q1]
          · rw [if_neg q1]
            by_cases q2 : j = 0
            · rw [if_pos q2]; exact (o.hd0 (by omega)).symm
            · rw [if_neg q2]
        · rw [show (p.at_ + (j : Int) - (p.at_ + (j : Int))).toNat = 0 by omega, show (p.at_ + (j : Int) + (G : Int) - (p.at_ + (j : Int))).toNat - 0 = G by omega, List.drop_zero, List.take_take]
          congr 1
          omega
      have e2 : (Pc.sub p j (p.words.length - j) p.more).rst w = Pc.sub p (j + G) (p.words.length - (j + G)) p.more := by
        unfold Pc.rst
        rw [ehl, eG]
        simp only [Pc.part, en]
        simp only [Pc.sub, Pc.mk.injEq, true_and]
        refine ⟨by omega, if_neg (by omega), ?_, ?_⟩
        · change (if p.at_ + (j : Int) + (G : Int) = 0 then (if j = 0 then p.head else []) else []) = (if j + G = 0 then p.head else [])
          rw [if_neg (show ¬ (p.at_ + (j : Int) + (G : Int) = 0) by omega), if_neg (show ¬ (j + G = 0) by omega)]
        · rw [show (p.at_ + (j : Int) + (G : Int) - (p.at_ + (j : Int))).toNat = G by omega, List.drop_take, List.drop_drop, List.take_take]
          congr 1
          omega
      rw [e1, e2]
      obtain ⟨l, q, el, i1, i2, i3, i4, i5, i6, i7, i8⟩ := ih (j + G) (by omega) (by omega) (by omega) (by omega) (by omega)
      have es := Pc.sub_size (p := p) (j := j) (k := G) (m := 1) (by omega)
      rw [← eH] at es
      refine ⟨Pc.sub p j G 1 :: l, q, by rw [el]; rfl, ⟨rfl, rfl, rfl, Pc.sub_ok o (by omega) h4 (Or.inr rfl) (fun _ => by omega) (fun z => by omega), ?_⟩, ?_, i3, ?_, ?_, ?_, ?_, ?_⟩
      · rw [Pc.sub_end (by omega)]; exact i1
      · intro r hr
        rcases List.mem_cons.mp hr with e | e
        · rw [e]; rfl
        · exact i2 r e
      · intro r m e; cases e; rfl
      · show (Pc.sub p j G 1).words ++ ((l ++ [q]).map Pc.words).flatten = _
        rw [i5]
        simp only [Pc.sub]
        rw [← List.drop_drop, List.take_append_drop]
      · simp; omega
      · intro r hr
        rcases List.mem_cons.mp hr with e | e
        · rw [e, es]; omega
        · exact i7 r e
      · intro r hr
        rcases List.mem_cons.mp hr with e | e
        · rw [e, es]; unfold sgn at eG; omega
        · exact i8 r e
/-- what cut tells -/
theorem cut_cut {p : Pc} {w : Int} (o : p.Ok) (hf : p.firm = 0) (hw : 4 ≤ sgn w p.head.length) : ∃ l q, Cut p l q ∧ (∀ r ∈ l ++ [q], (r.size : Int) ≤ w) ∧ (∀ r ∈ l, w < r.size + 4) ∧ p.cuts w = l ++ [q] := by
  have e : Pc.sub p 0 (p.words.length - 0) p.more = p := by
    cases p
    simp_all [Pc.sub]
  obtain ⟨l, q, el, i1, i2, i3, i4, i5, i6, i7, i8⟩ := cutL_cut p w o hf hw p.words.length 0 (by omega) (by omega) (by omega) (by rcases o.mr with z | z; (have := o.m0 z; omega); exact Or.inl z) (fun z => by have := o.m1 z; omega)
  rw [e] at el
  exact ⟨l, q, ⟨by simpa using i1, i2, i3, i4, i5, by have := o.wl; omega⟩, i7, i8, el⟩
/-- as few parts as that -/
theorem cut_few0 {w : Int} {q : Pc} : ∀ (l : List Pc) (n : Nat) (k : Int), (∀ r ∈ l, (r.words.length : Int) ≤ sgn w 0) → (q.words.length : Int) + 6 ≤ w → k ≤ (((l ++ [q]).map Pc.words).flatten.length : Int) → loopL n k w ≤ l.length
  | [], n, k, h1, h2, h3 => by
    simp at h3
    rw [loopL_stop (by omega)]; exact Nat.zero_le _
  | r :: l, n, k, h1, h2, h3 => by
    cases n with
    | zero => exact Nat.zero_le _
    | succ n =>
      unfold loopL
      split
      · have := cut_few0 l n (k - sgn w 0) (fun r hr => h1 r (List.mem_cons_of_mem _ hr)) h2 (by
          have := h1 r List.mem_cons_self
          simp at h3 ⊢
          omega)
        rw [List.length_cons]
        omega
      · exact Nat.zero_le _
theorem Seg.head0 {p : Pc} {b : Int} : ∀ {l : List Pc} {a : Int}, 0 < a → Seg p a l b → ∀ q ∈ l, q.head = []
  | [], a, _, _, q, hq => by cases hq
  | r :: l, a, h0, h1, q, hq => by
    rcases List.mem_cons.mp hq with e | e
    · rw [e]; exact h1.2.2.2.1.hd0 (by have := h1.2.2.1; omega)
    · exact Seg.head0 (by have := h1.2.2.1; simp only [Pc.end_]; omega) h1.2.2.2.2 q e
theorem cut_few {p q : Pc} {l : List Pc} {w : Int} (o : p.Ok) (hw : 4 ≤ sgn w p.head.length) (c : Cut p l q) (hs : ∀ r ∈ l ++ [q], (r.size : Int) ≤ w) : p.pN w ≤ l.length + 1 := by
  by_cases z : (p.size : Int) ≤ w
  · rw [Pc.pN_1 z]; omega
  · rw [Pc.pN_eq o.sz (by omega) hw]
    have hp : p.size = 6 + p.head.length + p.words.length := rfl
    cases l with
    | nil =>
      exfalso
      have h1 := hs q (by simp)
      have h2 := c.head q [] rfl
      have h3 := c.words
      simp at h3
      simp only [Pc.size, h2, h3] at h1
      omega
    | cons r l =>
      have hr := hs r (by simp)
      have ehd := c.head r (l ++ [q]) rfl
      have om := c.seg.2.2.2.1
      have mm := om.m1 (c.mores r List.mem_cons_self)
      have hr2 : r.size = 6 + r.head.length + r.words.length := rfl
      rw [ehd] at hr2
      have z0 : 0 < r.end_ := by have := om.at0; simp only [Pc.end_]; omega
      have h0 := Seg.head0 z0 c.seg.2.2.2.2
      have hok := Seg.ok c.seg.2.2.2.2
      have hq := hs q (by simp)
      have hq2 : q.size = 6 + q.head.length + q.words.length := rfl
      rw [h0 q (by simp)] at hq2
      simp at hq2
      have := cut_few0 (w := w) (q := q) l (p.words.length - 1) (p.words.length - sgn w p.head.length) (fun t ht => by
        have k1 := hs t (by simp [ht])
        have k2 : t.size = 6 + t.head.length + t.words.length := rfl
        rw [h0 t (by simp [ht])] at k2
        have k3 := (hok t (by simp [ht])).m1 (c.mores t (List.mem_cons_of_mem _ ht))
        simp at k2
        unfold sgn
        omega) (by omega) (by
        have hwd := congrArg List.length c.words
        simp at hwd
        have : (r.words.length : Int) ≤ sgn w p.head.length := by unfold sgn; omega
        simp
        omega)
      simp
      omega
theorem cutL_step (p : Pc) (w : Int) (o : p.Ok) (hw : 4 ≤ sgn w p.head.length) (n j : Nat) (h1 : j ≤ p.words.length) (z : w < (Pc.sub p j (p.words.length - j) p.more).size) : ∃ G : Nat, sgn w (if j = 0 then p.head.length else 0) = G ∧ 4 ≤ G ∧ G % 4 = 0 ∧ j + G < p.words.length ∧ Pc.cutL (n + 1) (Pc.sub p j (p.words.length - j) p.more) w = Pc.sub p j G 1 :: Pc.cutL n (Pc.sub p (j + G) (p.words.length - (j + G)) p.more) w := by
  have hl := sgn_le (w := w) (k := p.head.length)
  have o0 := o.at0
  have ehl : (Pc.sub p j (p.words.length - j) p.more).head.length = if j = 0 then p.head.length else 0 := by
    simp only [Pc.sub]; split <;> simp
  have ez := Pc.sub_size (p := p) (j := j) (k := p.words.length - j) (m := p.more) (by omega)
  have en := Pc.sub_end (p := p) (j := j) (k := p.words.length - j) (m := p.more) (by omega)
  obtain ⟨H, eH⟩ : ∃ H, H = (if j = 0 then p.head.length else 0) := ⟨_, rfl⟩
  rw [← eH] at ehl ez
  have hH : H ≤ p.head.length := by rw [eH]; split <;> omega
  have hm := sgn_mono (w := w) hH
  have hl2 := sgn_le (w := w) (k := H)
  have hg4 := sgn4 (w := w) (k := H)
  obtain ⟨G, eG⟩ : ∃ G : Nat, sgn w H = G := ⟨(sgn w H).toNat, by omega⟩
  refine ⟨G, by rw [← eH]; exact eG, by omega, by omega, by omega, ?_⟩
  conv => lhs; unfold Pc.cutL
  rw [if_neg (by omega)]
  have e1 : (Pc.sub p j (p.words.length - j) p.more).fst w = Pc.sub p j G 1 := by
    unfold Pc.fst
    rw [ehl, eG]
    simp only [Pc.part, en]
    simp only [Pc.sub, Pc.mk.injEq, true_and]
    refine ⟨if_pos (by omega), ?_, ?_⟩
    · change (if p.at_ + (j : Int) = 0 then (if j = 0 then p.head else []) else []) = (if j = 0 then p.head else [])
      by_cases q1 : p.at_ + (j : Int) = 0
      · rw [if_pos q1]
      · rw [if_neg q1]
        by_cases q2 : j = 0
        · rw [if_pos q2]; exact (o.hd0 (by omega)).symm
        · rw [if_neg q2]
    · rw [show (p.at_ + (j : Int) - (p.at_ + (j : Int))).toNat = 0 by omega, show (p.at_ + (j : Int) + (G : Int) - (p.at_ + (j : Int))).toNat - 0 = G by omega, List.drop_zero, List.take_take]
      congr 1
      omega
  have e2 : (Pc.sub p j (p.words.length - j) p.more).rst w = Pc.sub p (j + G) (p.words.length - (j + G)) p.more := by
    unfold Pc.rst
    rw [ehl, eG]
    simp only [Pc.part, en]
    simp only [Pc.sub, Pc.mk.injEq, true_and]
    refine ⟨by omega, if_neg (by omega), ?_, ?_⟩
    · change (if p.at_ + (j : Int) + (G : Int) = 0 then (if j = 0 then p.head else []) else []) = (if j + G = 0 then p.head else [])
      rw [if_neg (show ¬ (p.at_ + (j : Int) + (G : Int) = 0) by omega), if_neg (show ¬ (j + G = 0) by omega)]
    · rw [show (p.at_ + (j : Int) + (G : Int) - (p.at_ + (j : Int))).toNat = G by omega, List.drop_take, List.drop_drop, List.take_take]
      congr 1
      omega
  rw [e1, e2]
theorem Box_appL {h l : MH} {b c : Nat} (hb : Box h b c) : Box (h ++ l) b c := by
  obtain ⟨x, y, z, e, r⟩ := hb
  exact ⟨x, y, z, by rw [List.getElem?_append_left (List.getElem?_eq_some_iff.mp e).1]; exact e, r⟩
/-- all that stood stands -/
def App (h h' : MH) : Prop := h.length ≤ h'.length ∧ ∀ k, k < h.length → h'[k]? = h[k]?
theorem App.refl {h : MH} : App h h := ⟨Nat.le_refl _, fun _ _ => rfl⟩
theorem App.trans {h h' h2 : MH} (a : App h h') (b : App h' h2) : App h h2 := ⟨Nat.le_trans a.1 b.1, fun k hk => (b.2 k (Nat.lt_of_lt_of_le hk a.1)).trans (a.2 k hk)⟩
theorem App.app {h l : MH} : App h (h ++ l) := ⟨by simp, fun k hk => by rw [List.getElem?_append_left hk]⟩
theorem App.set {h h' : MH} {n : Nat} {o : MObj} (a : App h h') (hn : h.length ≤ n) : App h (h'.set n o) := ⟨by simpa using a.1, fun k hk => by rw [List.getElem?_set_ne (by omega)]; exact a.2 k hk⟩
theorem App.get {h h' : MH} {k : Nat} {o : MObj} (x : App h h') (e : h[k]? = some o) : h'[k]? = some o := by
  rw [x.2 k (List.getElem?_eq_some_iff.mp e).1]; exact e
theorem App.box {h h' : MH} {b c : Nat} (x : App h h') (hb : Box h b c) : Box h' b c := by
  obtain ⟨p, q, r, e, rest⟩ := hb
  exact ⟨p, q, r, x.get e, rest⟩
end Mi
-- Sh: Sh0 Sh2 ShR
namespace K58
open PySem L2 PyProof.Rows Mi
def top (i : Nat) : Stmt := PySem.Challenge.pw_cutletters_k58_what_is_a_make_of_an_end.main.body.getD i (.Pass ⟨0, 0, 0, 0⟩)
abbrev st__law_folded : Stmt := top 16
abbrev st__law_box : Stmt := top 14
abbrev st__law_take : Stmt := top 15
abbrev st__law_room : Stmt := top 20
abbrev st__law_end : Stmt := top 21
abbrev st__law_same : Stmt := top 22
abbrev st__law_number : Stmt := top 23
abbrev st__law_is_room : Stmt := top 24
abbrev st__law_is_end : Stmt := top 25
abbrev st_is_word : Stmt := top 9
abbrev st_is_between : Stmt := top 8
abbrev st_is_make : Stmt := top 10
abbrev st_is_end : Stmt := top 12
abbrev st__law_asked : Stmt := top 28
abbrev st__law_thing : Stmt := top 26
abbrev st__law_spoilt : Stmt := top 27
abbrev st_law : Stmt := top 29
def b__law_room : MS := (sSeq (sPar2 1 2 (mCons (mBin opIx (mMap Val.lst (mLst (mCons (mC (.str [115, 116, 114, 105, 99, 116])) (mCons (mC (.str [101, 97, 114, 108, 121])) mNil)))) (mFn 2 m__law_take (mCons (mV 0) (mCons (mC (.int 2)) mNil)))) (mCons (mBin opIx (mMap Val.lst (mLst (mCons (mC (.str [110, 101, 119])) (mCons (mC (.str [111, 108, 100])) (mCons (mC (.str [103, 114, 101, 97, 116])) mNil))))) (mFn 2 m__law_take (mCons (mV 0) (mCons (mC (.int 3)) mNil)))) mNil)))
  (sSeq (sPar2 3 4 (mCons (mBin opAdd (mC (.int 1)) (mFn 2 m__law_take (mCons (mV 0) (mCons (mBin opIx (mMap Val.lst (mLst (mCons (mC (.int 60)) (mCons (mC (.int 9)) mNil)))) (mFn 2 m__law_take (mCons (mV 0) (mCons (mC (.int 2)) mNil)))) mNil)))) (mCons (mFn 2 m__law_take (mCons (mV 0) (mCons (mBin opIx (mMap Val.lst (mLst (mCons (mC (.int 201)) (mCons (mC (.int 9)) (mCons (mC (.int 1)) mNil))))) (mFn 2 m__law_take (mCons (mV 0) (mCons (mC (.int 3)) mNil)))) mNil))) mNil)))
  (sSeq (sPar2 5 6 (mCons (mBin opAdd (mC (.int 24)) (mFn 2 m__law_take (mCons (mV 0) (mCons (mBin opIx (mMap Val.lst (mLst (mCons (mC (.int 3977)) (mCons (mC (.int 300)) mNil)))) (mFn 2 m__law_take (mCons (mV 0) (mCons (mC (.int 2)) mNil)))) mNil)))) (mCons (mBin opAdd (mC (.int 1)) (mFn 2 m__law_take (mCons (mV 0) (mCons (mBin opIx (mMap Val.lst (mLst (mCons (mC (.int 20)) (mCons (mC (.int 4)) mNil)))) (mFn 2 m__law_take (mCons (mV 0) (mCons (mC (.int 2)) mNil)))) mNil)))) mNil)))
  (sRet (mTup (mCons (mV 1) (mCons (mV 3) (mCons (mV 4) (mCons (mV 5) (mCons (mV 6) (mCons (mV 2) mNil)))))))))))
def m__law_room : MF := runF 7 b__law_room
def b__law_end : MS := (sSeq (sPar2 1 2 (mCons (mFn 1 m__law_room (mCons (mV 0) mNil)) (mCons (mBin opAdd (mC (.int 1)) (mFn 2 m__law_take (mCons (mV 0) (mCons (mBin opIx (mMap Val.lst (mLst (mCons (mC (.int 999)) (mCons (mC (.int 4)) (mCons (mC (.int 20)) mNil))))) (mFn 2 m__law_take (mCons (mV 0) (mCons (mC (.int 3)) mNil)))) mNil)))) mNil)))
  (sSeq (sPar2 3 4 (mCons (mFn 2 m__law_take (mCons (mV 0) (mCons (mBin opIx (mMap Val.lst (mLst (mCons (mC (.int 501)) (mCons (mC (.int 9)) (mCons (mC (.int 1)) mNil))))) (mFn 2 m__law_take (mCons (mV 0) (mCons (mC (.int 3)) mNil)))) mNil))) (mCons (mBin opAdd (mC (.int 24)) (mFn 2 m__law_take (mCons (mV 0) (mCons (mBin opIx (mMap Val.lst (mLst (mCons (mC (.int 377)) (mCons (mC (.int 60)) mNil)))) (mFn 2 m__law_take (mCons (mV 0) (mCons (mC (.int 2)) mNil)))) mNil)))) mNil)))
  (sSeq (sPar3 5 6 7 (mCons (mBin opAdd (mC (.int 1)) (mFn 2 m__law_take (mCons (mV 0) (mCons (mC (.int 5)) mNil)))) (mCons (mBin opAdd (mC (.int 1)) (mFn 2 m__law_take (mCons (mV 0) (mCons (mC (.int 60)) mNil)))) (mCons (mFn 2 m__law_take (mCons (mV 0) (mCons (mBin opIx (mMap Val.lst (mLst (mCons (mC (.int 501)) (mCons (mC (.int 20)) mNil)))) (mFn 2 m__law_take (mCons (mV 0) (mCons (mC (.int 2)) mNil)))) mNil))) mNil))))
  (sRet (mTup (mCons (mV 1) (mCons (mV 2) (mCons (mV 3) (mCons (mV 4) (mCons (mV 5) (mCons (mV 6) (mCons (mV 7) mNil))))))))))))
def m__law_end : MF := runF 8 b__law_end
def b__law_same (rec : MF) : MS := (sSeq (sIf (mTruth (mIsiT ["list", "tuple"] (mV 1))) (sSeq (sIf (mOr (mAsB (mBin opNe (mIsi "list" (mV 0)) (mIsi "list" (mV 1)))) (mAsB (mBin opNe (mIsi "tuple" (mV 0)) (mIsi "tuple" (mV 1))))) (sRet (mC (.bl false))) sSkip)
  (sRet (mAndV (mBin opEq (mCall (fn1 lenV) (mCons (mV 0) mNil)) (mCall (fn1 lenV) (mCons (mV 1) mNil))) (mCall (fn1 allV) (mCons (mMap Val.lst (mLc [2, 3] (mZip (mV 0) (mV 1)) (.tp [(.nm 2), (.nm 3)]) mYes (mFn 2 rec (mCons (mV 2) (mCons (mV 3) mNil))))) mNil))))) sSkip)
  (sSeq (sIf (mOr (mAsB (mBin opIsN (mV 1) (mC .non))) (mTruth (mIsi "str" (mV 1)))) (sRet (mBin opEq (mV 0) (mV 1))) sSkip)
  (sRet (mAndV (mIsi "int" (mV 0)) (mAndV (mBin opEq (mIsi "bool" (mV 0)) (mIsi "bool" (mV 1))) (mBin opEq (mV 0) (mV 1)))))))
def r__law_same : Nat → MF
  | 0 => fun _ _ => .bad
  | n + 1 => runF 4 (b__law_same (r__law_same n))
def m__law_same : MF := r__law_same 6
def b__law_is_room : MS := (sSeq (sIf (mOr (mNot (mTruth (mIsi "tuple" (mV 0)))) (mAsB (mBin opNe (mCall (fn1 lenV) (mCons (mV 0) mNil)) (mC (.int 6))))) (sRet (mC (.bl false))) sSkip)
  (sSeq (sIf (mOr (mNot (mTruth (mIsi "str" (mBin opIx (mV 0) (mC (.int 0)))))) (mNot (mTruth (mIsi "str" (mBin opIx (mV 0) (mC (.int 5))))))) (sRet (mC (.bl false))) sSkip)
  (sSeq (sIf (mOr (mAsB (mBin opNotIn (mBin opIx (mV 0) (mC (.int 0))) (mTup (mCons (mC (.str [115, 116, 114, 105, 99, 116])) (mCons (mC (.str [101, 97, 114, 108, 121])) mNil))))) (mAsB (mBin opNotIn (mBin opIx (mV 0) (mC (.int 5))) (mTup (mCons (mC (.str [110, 101, 119])) (mCons (mC (.str [111, 108, 100])) (mCons (mC (.str [103, 114, 101, 97, 116])) mNil))))))) (sRet (mC (.bl false))) sSkip)
  (sSeq (sSet 1 (mMap Val.lst (mLst (mCons (mTup (mCons (mC (.int 1)) (mCons (mC (.int 60)) mNil))) (mCons (mTup (mCons (mC (.int 0)) (mCons (mC (.int 200)) mNil))) (mCons (mTup (mCons (mC (.int 24)) (mCons (mC (.int 4000)) mNil))) (mCons (mTup (mCons (mC (.int 1)) (mCons (mC (.int 20)) mNil))) mNil)))))))
  (sRet (mCall (fn1 allV) (mCons (mMap Val.lst (mLc [2, 3] (mZip (mSl (mV 0) (mP (mC (.int 1))) (mP (mC (.int 5)))) (mV 1)) (.tp [(.nm 2), (.nm 3)]) mYes (mFn 3 m_is_between (mCons (mV 2) (mCons (mBin opIx (mV 3) (mC (.int 0))) (mCons (mBin opIx (mV 3) (mC (.int 1))) mNil)))))) mNil)))))))
def m__law_is_room : MF := runF 4 b__law_is_room
def b__law_is_end : MS := (sSeq (sIf (mOr (mNot (mTruth (mIsi "tuple" (mV 0)))) (mOr (mAsB (mBin opNe (mCall (fn1 lenV) (mCons (mV 0) mNil)) (mC (.int 7)))) (mNot (mTruth (mFn 1 m__law_is_room (mCons (mBin opIx (mV 0) (mC (.int 0))) mNil)))))) (sRet (mC (.bl false))) sSkip)
  (sSeq (sSet 1 (mMap Val.lst (mLst (mCons (mTup (mCons (mC (.int 1)) (mCons (mC (.int 999)) mNil))) (mCons (mTup (mCons (mC (.int 0)) (mCons (mC (.int 500)) mNil))) (mCons (mTup (mCons (mC (.int 24)) (mCons (mC (.int 400)) mNil))) (mCons (mTup (mCons (mC (.int 1)) (mCons (mC (.int 5)) mNil))) (mCons (mTup (mCons (mC (.int 1)) (mCons (mC (.int 60)) mNil))) (mCons (mTup (mCons (mC (.int 0)) (mCons (mC (.int 500)) mNil))) mNil)))))))))
  (sRet (mCall (fn1 allV) (mCons (mMap Val.lst (mLc [2, 3] (mZip (mSl (mV 0) (mP (mC (.int 1))) mNoP) (mV 1)) (.tp [(.nm 2), (.nm 3)]) mYes (mFn 3 m_is_between (mCons (mV 2) (mCons (mBin opIx (mV 3) (mC (.int 0))) (mCons (mBin opIx (mV 3) (mC (.int 1))) mNil)))))) mNil)))))
def m__law_is_end : MF := runF 4 b__law_is_end
def b_is_end : MS := (sSeq (sIf (mOr (mNot (mTruth (mIsi "tuple" (mV 0)))) (mOr (mAsB (mBin opNe (mCall (fn1 lenV) (mCons (mV 0) mNil)) (mC (.int 7)))) (mNot (mTruth (mFn 1 m_is_make (mCons (mBin opIx (mV 0) (mC (.int 0))) mNil)))))) (sRet (mC (.bl false))) sSkip)
  (sSeq (sSet 1 (mTup (mCons (mTup (mCons (mC (.int 1)) (mCons (mC (.int 999)) mNil))) (mCons (mTup (mCons (mC (.int 0)) (mCons (mC (.int 500)) mNil))) (mCons (mTup (mCons (mC (.int 24)) (mCons (mC (.int 400)) mNil))) (mCons (mTup (mCons (mC (.int 1)) (mCons (mC (.int 5)) mNil))) (mCons (mTup (mCons (mC (.int 1)) (mCons (mC (.int 60)) mNil))) (mCons (mTup (mCons (mC (.int 0)) (mCons (mC (.int 500)) mNil))) mNil))))))))
  (sRet (mCall (fn1 allV) (mCons (mMap Val.lst (mLc [2, 3] (mZip (mSl (mV 0) (mP (mC (.int 1))) mNoP) (mV 1)) (.tp [(.nm 2), (.nm 3)]) mYes (mFn 3 m_is_between (mCons (mV 2) (mCons (mBin opIx (mV 3) (mC (.int 0))) (mCons (mBin opIx (mV 3) (mC (.int 1))) mNil)))))) mNil)))))
def m_is_end : MF := runF 4 b_is_end
def b__law_asked : MS := (sSeq (sFor (mRange1 (mC (.int 2))) (gSet 1)
  (sIf (mOr (mNot (mTruth (mFn 2 m__law_same (mCons (mFn 1 m_is_end (mCons (mV 0) mNil)) (mCons (mFn 1 m__law_is_end (mCons (mV 0) mNil)) mNil))))) (mNot (mTruth (mFn 2 m__law_same (mCons (mFn 1 m_is_make (mCons (mV 0) mNil)) (mCons (mFn 1 m__law_is_room (mCons (mV 0) mNil)) mNil)))))) (sRet (mC (.bl false))) sSkip))
  (sSeq (sIf (mAnd (mTruth (mIsi "tuple" (mV 0))) (mAsB (mBin opGt (mCall (fn1 lenV) (mCons (mV 0) mNil)) (mC (.int 0))))) (sRet (mFn 2 m__law_same (mCons (mFn 1 m_is_make (mCons (mBin opIx (mV 0) (mC (.int 0))) mNil)) (mCons (mFn 1 m__law_is_room (mCons (mBin opIx (mV 0) (mC (.int 0))) mNil)) mNil)))) sSkip)
  (sRet (mC (.bl true)))))
def m__law_asked : MF := runF 2 b__law_asked
def b__law_thing : MS := (sSeq (sPar2 2 3 (mCons (mFn 2 m__law_take (mCons (mV 0) (mCons (mC (.int 8)) mNil))) (mCons (mFn 2 m__law_take (mCons (mV 0) (mCons (mC (.int 3)) mNil))) mNil)))
  (sSeq (sIf (mAnd (mTruth (mIsi "int" (mV 1))) (mAnd (mNot (mTruth (mIsi "bool" (mV 1)))) (mAsB (mBin opLt (mV 2) (mC (.int 5)))))) (sSeq (sSet 4 (mMap Val.lst (mLst (mCons (mC (.int 0)) (mCons (mC (.int 1)) (mCons (mC (.int 5)) (mCons (mC (.int 6)) (mCons (mC (.int 20)) (mCons (mC (.int 21)) (mCons (mC (.int 23)) (mCons (mC (.int 24)) (mCons (mC (.int 60)) (mCons (mC (.int 61)) (mCons (mC (.int 200)) (mCons (mC (.int 201)) (mCons (mC (.int 400)) (mCons (mC (.int 401)) (mCons (mC (.int 500)) (mCons (mC (.int 501)) (mCons (mC (.int 999)) (mCons (mC (.int 1000)) (mCons (mC (.int 4000)) (mCons (mC (.int 4001)) mNil)))))))))))))))))))))))
  (sRet (mBin opIx (mMap Val.lst (mLst (mCons (mBin opSub (mV 1) (mC (.int 1))) (mCons (mBin opAdd (mV 1) (mC (.int 1))) (mCons (mBin opSub (mC (.int 0)) (mV 1)) (mCons (mBin opAdd (mBin opMul (mV 1) (mC (.int 1000))) (mC (.int 7))) (mCons (mBin opIx (mV 4) (mFn 2 m__law_take (mCons (mV 0) (mCons (mC (.int 20)) mNil)))) mNil))))))) (mV 2)))) sSkip)
  (sSeq (sIf (mAnd (mTruth (mIsi "str" (mV 1))) (mAsB (mBin opLt (mV 2) (mC (.int 5))))) (sRet (mBin opIx (mMap Val.lst (mLst (mCons (mC (.str [110, 101, 119])) (mCons (mC (.str [111, 108, 100])) (mCons (mC (.str [103, 114, 101, 97, 116])) (mCons (mC (.str [115, 116, 114, 105, 99, 116])) (mCons (mC (.str [101, 97, 114, 108, 121])) (mCons (mC (.str [])) (mCons (mBin opAdd (mV 1) (mC (.str [115]))) (mCons (mSl (mV 1) mNoP (mP (mNeg (mC (.int 1))))) (mCons (mTx0 upperV (mV 1)) mNil))))))))))) (mFn 2 m__law_take (mCons (mV 0) (mCons (mC (.int 9)) mNil))))) sSkip)
  (sSeq (sIf (mAnd (mTruth (mIsi "tuple" (mV 1))) (mAsB (mBin opLt (mV 2) (mC (.int 3))))) (sRet (mBin opIx (mMap Val.lst (mLst (mCons (mMap Val.lst (mCall listF (mCons (mV 1) mNil))) (mCons (mSl (mV 1) (mP (mC (.int 1))) mNoP) (mCons (mBin opAdd (mV 1) (mSl (mV 1) mNoP (mP (mC (.int 1))))) mNil))))) (mV 2))) sSkip)
  (sRet (mBin opIx (mMap Val.lst (mLst (mCons (mC .non) (mCons (mC (.bl true)) (mCons (mC (.bl false)) (mCons (mC (.str [49])) (mCons (mC (.tup [])) (mCons (mMap Val.lst (mLst mNil)) (mCons (mTup (mCons (mC (.int 1)) mNil)) (mCons (mTup (mCons (mC (.str [115, 116, 114, 105, 99, 116])) mNil)) (mCons (mNeg (mC (.int 1))) mNil))))))))))) (mBin opMod (mBin opAdd (mV 2) (mBin opMul (mC (.int 3)) (mV 3))) (mC (.int 9)))))))))
def m__law_thing : MF := runF 5 b__law_thing
def b__law_spoilt_1 (rec : MF) : MS := (sRet (mBin opAdd (mBin opAdd (mSl (mV 1) mNoP (mP (mV 3))) (mTup (mCons (mFn 2 m__law_thing (mCons (mV 0) (mCons (mBin opIx (mV 1) (mV 3)) mNil))) mNil))) (mSl (mV 1) (mP (mBin opAdd (mV 3) (mC (.int 1)))) mNoP)))
def b__law_spoilt_2 (rec : MF) : MS := (sSeq (sIf (mAsB (mBin opEq (mV 2) (mC (.int 2)))) (sSeq (sSet 4 (mFn 2 m__law_take (mCons (mV 0) (mCons (mCall (fn1 lenV) (mCons (mV 1) mNil)) mNil))))
  (sSeq (sPar2 5 6 (mCons (mCall (fn2 min2V) (mCons (mV 3) (mCons (mV 4) mNil))) (mCons (mCall (fn2 max2V) (mCons (mV 3) (mCons (mV 4) mNil))) mNil)))
  (sIf (mAsB (mBin opLt (mV 5) (mV 6))) (sRet (mBin opAdd (mBin opAdd (mBin opAdd (mBin opAdd (mSl (mV 1) mNoP (mP (mV 5))) (mTup (mCons (mBin opIx (mV 1) (mV 6)) mNil))) (mSl (mV 1) (mP (mBin opAdd (mV 5) (mC (.int 1)))) (mP (mV 6)))) (mTup (mCons (mBin opIx (mV 1) (mV 5)) mNil))) (mSl (mV 1) (mP (mBin opAdd (mV 6) (mC (.int 1)))) mNoP))) sSkip))) sSkip)
  (b__law_spoilt_1 rec))
def b__law_spoilt_3 (rec : MF) : MS := (sSeq (sIf (mAsB (mBin opEq (mV 2) (mC (.int 1)))) (sRet (mBin opAdd (mBin opAdd (mSl (mV 1) mNoP (mP (mV 3))) (mTup (mCons (mBin opIx (mV 1) (mV 3)) mNil))) (mSl (mV 1) (mP (mV 3)) mNoP))) sSkip)
  (b__law_spoilt_2 rec))
def b__law_spoilt_4 (rec : MF) : MS := (sSeq (sIf (mAsB (mBin opEq (mV 2) (mC (.int 0)))) (sRet (mBin opAdd (mSl (mV 1) mNoP (mP (mV 3))) (mSl (mV 1) (mP (mBin opAdd (mV 3) (mC (.int 1)))) mNoP))) sSkip)
  (b__law_spoilt_3 rec))
def b__law_spoilt (rec : MF) : MS := (sSeq (sPar2 2 3 (mCons (mFn 2 m__law_take (mCons (mV 0) (mCons (mC (.int 6)) mNil))) (mCons (mFn 2 m__law_take (mCons (mV 0) (mCons (mCall (fn1 lenV) (mCons (mV 1) mNil)) mNil))) mNil)))
  (sSeq (sIf (mAnd (mTruth (mIsi "tuple" (mBin opIx (mV 1) (mC (.int 0))))) (mAnd (mAsB (mBin opGt (mCall (fn1 lenV) (mCons (mBin opIx (mV 1) (mC (.int 0))) mNil)) (mC (.int 0)))) (mAsB (mBin opEq (mFn 2 m__law_take (mCons (mV 0) (mCons (mC (.int 3)) mNil))) (mC (.int 0)))))) (sRet (mBin opAdd (mTup (mCons (mFn 2 rec (mCons (mV 0) (mCons (mBin opIx (mV 1) (mC (.int 0))) mNil))) mNil)) (mSl (mV 1) (mP (mC (.int 1))) mNoP))) sSkip)
  (b__law_spoilt_4 rec)))
def r__law_spoilt : Nat → MF
  | 0 => fun _ _ => .bad
  | n + 1 => runF 7 (b__law_spoilt (r__law_spoilt n))
def m__law_spoilt : MF := r__law_spoilt 6
def b_law_1 : MS := (sIf (mNot (mTruth (mFn 1 m__law_asked (mCons (mV 6) mNil)))) (sRet (mC (.bl false))) sSkip)
def b_law_2 : MS := (sSeq (sSet 6 (mFn 2 m__law_spoilt (mCons (mV 3) (mCons (mV 4) mNil))))
  (sSeq (sIf (mAnd (mAsB (mBin opEq (mFn 2 m__law_take (mCons (mV 3) (mCons (mC (.int 3)) mNil))) (mC (.int 0)))) (mAnd (mTruth (mIsi "tuple" (mV 6))) (mAsB (mBin opGt (mCall (fn1 lenV) (mCons (mV 6) mNil)) (mC (.int 0)))))) (sSet 6 (mFn 2 m__law_spoilt (mCons (mV 3) (mCons (mV 6) mNil)))) sSkip)
  b_law_1))
def b_law_3 : MS := (sIf (mNot (mTruth (mFn 1 m__law_asked (mCons (mV 6) mNil)))) (sRet (mC (.bl false))) sSkip)
def b_law_4 : MS := (sFor (mIter (mTup (mCons (mC .non) (mCons (mC (.bl true)) (mCons (mC (.int 7)) (mCons (mC (.str [101, 110, 100])) (mCons (mC (.tup [])) (mCons (mMap Val.lst (mLst mNil)) (mCons (mMap Val.lst (mCall listF (mCons (mV 4) mNil))) (mCons (mTup (mCons (mV 4) mNil)) (mCons (mBin opIx (mV 4) (mC (.int 0))) (mCons (mTup (mCons (mC (.tup [])) (mCons (mC (.int 1)) (mCons (mC (.int 1)) (mCons (mC (.int 24)) (mCons (mC (.int 1)) (mCons (mC (.int 1)) (mCons (mC (.int 0)) mNil)))))))) mNil)))))))))))) (gSet 6)
  b_law_3)
def b_law_5 : MS := (sSeq (sSet 3 (mFn 2 m__law_box (mCons (mV 1) (mCons (mV 2) mNil))))
  (sSeq (sSet 4 (mFn 1 m__law_end (mCons (mV 3) mNil)))
  (sSeq (sIf (mOr (mNot (mTruth (mFn 1 m__law_asked (mCons (mV 4) mNil)))) (mAsB (mBin opNotB (mFn 1 m_is_end (mCons (mV 4) mNil)) (mC (.bl true))))) (sRet (mC (.bl false))) sSkip)
  (sSeq (sFor (mRange1 (mC (.int 10))) (gSet 5)
  b_law_2)
  b_law_4))))
def b_law_6 : MS := (sRet (mC (.bl true)))
def b_law : MS := (sSeq (sSet 1 (mFn 2 m__law_folded_B (mCons (mV 0) (mCons (mC (.int 6)) mNil))))
  (sSeq (sFor (mRange1 (mCall (fn2 max2V) (mCons (mC (.int 2)) (mCons (mCall (fn1 lenV) (mCons (mV 1) mNil)) mNil)))) (gSet 2)
  b_law_5)
  b_law_6))
def m_law : MF := runF 7 b_law
structure Txt (K : PySem.W.Frag) (mg : Str → Option Value) (cn : String → Addr) : Prop where
  z_abs : mg "abs" = none
  z_all : mg "all" = none
  z_bool : mg "bool" = none
  z_divmod : mg "divmod" = none
  z_enumerate : mg "enumerate" = none
  z_int : mg "int" = none
  z_isinstance : mg "isinstance" = none
  z_len : mg "len" = none
  z_list : mg "list" = none
  z_max : mg "max" = none
  z_min : mg "min" = none
  z_range : mg "range" = none
  z_str : mg "str" = none
  z_tuple : mg "tuple" = none
  z_zip : mg "zip" = none
  g_LEAST_ROOM : ∃ t : Tok, mg "LEAST_ROOM" = some (.int 24 t)
  g_MOST_HALVES : ∃ t : Tok, mg "MOST_HALVES" = some (.int 20 t)
  g_MOST_HOLD : ∃ t : Tok, mg "MOST_HOLD" = some (.int 60 t)
  g_MOST_REST : ∃ t : Tok, mg "MOST_REST" = some (.int 200 t)
  g_MOST_ROOM : ∃ t : Tok, mg "MOST_ROOM" = some (.int 4000 t)
  g_RULES : ∃ a, mg "RULES" = some (.ref a) ∧ KT K a [.str "strict", .str "early"]
  g_WAYS : ∃ a, mg "WAYS" = some (.ref a) ∧ KT K a [.str "new", .str "old", .str "great"]
section
variable {P : Program} {w : World} {K : PySem.W.Frag} {mg : Str → Option Value} {base : Heap} {cn : String → Addr}
theorem sc__law_folded : FnScope ["_law_script", "_law_many", "_law_cells", "_law_k", "_law_cell"] ["_law_script", "_law_many"] (defScope st__law_folded) := ⟨rfl, rfl, rfl, by decide +kernel, rfl, by decide +kernel, by decide +kernel⟩
theorem ok__law_folded {fa : Addr} {fd : FuncData} (F : Fun K "_law_folded" "_law_folded" st__law_folded fa fd) (T : Txt K mg cn)  : FnG P w K mg base (L2.CX P w) 1 fa fd ["_law_script", "_law_many"] (spM K cn 2 m__law_folded_B) :=
  okM F sc__law_folded fun cdv A outer s H E hr =>
  (b_cons (s_setO 2 sc__law_folded.nd (f_list T.z_list (t_cons (EM.t (e_slice (EM.t (e_var 0)) p_none (p_some (EM.t (e_var 1))))) t_nil)))
  (b_cons (s_for hpM rfl (i_enum T.z_enumerate (e_slice (EM.t (e_var 0)) (p_some (EM.t (e_var 1))) (p_some (EM.t e_int)))) (g_tup rfl (g_cons (g_name 3 sc__law_folded.nd) (g_cons (g_name 4 sc__law_folded.nd) g_nil))) (b_one (s_ownPut 2 (e_add (EM.t (e_ix (e_own 2) (EM.t (e_mod (EM.t (e_var 3)) (EM.t (e_var 1)))))) (EM.t (e_mul (EM.t (e_var 4)) (EM.t (e_add (EM.t (e_var 3)) (EM.t e_int)))))) (e_mod (EM.t (e_var 3)) (EM.t (e_var 1))))))
  (b_one (s_retO 2))))
theorem sc__law_box : FnScope ["_law_script", "_law_k", "_law_cell"] ["_law_script", "_law_k"] (defScope st__law_box) := ⟨rfl, rfl, rfl, by decide +kernel, rfl, by decide +kernel, by decide +kernel⟩
theorem ok__law_box {fa : Addr} {fd : FuncData} (F : Fun K "_law_box" "_law_box" st__law_box fa fd) (T : Txt K mg cn)  : FnG P w K mg base (L2.CX P w) 1 fa fd ["_law_script", "_law_k"] (spM K cn 2 m__law_box) :=
  okM F sc__law_box fun cdv A outer s H E hr =>
  (b_cons (s_set 2 sc__law_box.nd e_int)
  (b_cons (s_if (t_cmp c_lt (EM.t (e_var 1)) (EM.t (e_bc b_len T.z_len bo_len (t_cons (EM.t (e_var 0)) t_nil))) rfl) (b_one (s_set 2 sc__law_box.nd (e_ix (EM.t (e_var 0)) (EM.t (e_var 1))))) b_nil)
  (b_one (s_ret (EF.r (f_lst (a_cons (e_mul (EM.t (e_bc b_abs T.z_abs bo_abs (t_cons (EM.t (e_var 2)) t_nil))) (EM.t (e_bt b_int T.z_int bo_int (t_cons (EM.t (e_cmpM c_ge (EM.t (e_bc b_abs T.z_abs bo_abs (t_cons (EM.t (e_var 2)) t_nil))) (EM.t (e_pow (EM.t e_int) (EM.t e_int))) rfl)) t_nil)))) (a_cons (e_mod (EM.t (e_add (EM.t (e_var 2)) (EM.t (e_mul (EM.t (e_mul (EM.t e_int) (EM.t (e_var 1)))) (EM.t (e_var 1)))))) (EM.t e_int)) (a_cons e_int a_nil)))))))))
theorem sc__law_take : FnScope ["_law_box_here", "_law_many", "_law_once", "_law_found"] ["_law_box_here", "_law_many"] (defScope st__law_take) := ⟨rfl, rfl, rfl, by decide +kernel, rfl, by decide +kernel, by decide +kernel⟩
theorem ok__law_take {fa : Addr} {fd : FuncData} (F : Fun K "_law_take" "_law_take" st__law_take fa fd) (T : Txt K mg cn)  : FnG P w K mg base (L2.CX P w) 1 fa fd ["_law_box_here", "_law_many"] (spM K cn 2 m__law_take) :=
  okM F sc__law_take fun cdv A outer s H E hr =>
  (b_cons (s_if (t_cmp c_gt (EM.t (e_ix (EM.t (e_var 0)) (EM.t e_int))) (EM.t e_int) rfl) (b_cons (s_asg (e_bc b_divmod T.z_divmod bo_divmod (t_cons (EM.t (e_ix (EM.t (e_var 0)) (EM.t e_int))) (t_cons (EM.t (e_var 1)) t_nil))) (g_tup rfl (g_cons (g_subR (e_var 0) e_int) (g_cons (g_name 3 sc__law_take.nd) g_nil))))
  (b_one (s_ret (e_var 3)))) b_nil)
  (b_cons (s_asg (e_add (EM.t (e_ix (EM.t (e_var 0)) (EM.t e_int))) (EM.t e_int)) (g_subR (e_var 0) e_int))
  (b_cons (s_set 2 sc__law_take.nd (e_mod (EM.t (e_pow (EM.t (e_add (EM.t (e_ix (EM.t (e_var 0)) (EM.t e_int))) (EM.t (e_mul (EM.t e_int) (EM.t (e_ix (EM.t (e_var 0)) (EM.t e_int))))))) (EM.t e_int))) (EM.t e_int)))
  (b_one (s_ret (e_mod (EM.t (e_div (EM.t (e_mod (EM.t (e_add (EM.t (e_mul (EM.t (e_var 2)) (EM.t e_int))) (EM.t (e_mul (EM.t (e_mul (EM.t (e_ix (EM.t (e_var 0)) (EM.t e_int))) (EM.t (e_ix (EM.t (e_var 0)) (EM.t e_int))))) (EM.t e_int))))) (EM.t e_int))) (EM.t e_int))) (EM.t (e_var 1))))))))
theorem sc__law_room : FnScope ["_law_box_here", "_law_rule", "_law_way", "_law_hold", "_law_rest", "_law_most", "_law_count"] ["_law_box_here"] (defScope st__law_room) := ⟨rfl, rfl, rfl, by decide +kernel, rfl, by decide +kernel, by decide +kernel⟩
theorem ok__law_room {fa : Addr} {fd : FuncData} (F : Fun K "_law_room" "_law_room" st__law_room fa fd) (T : Txt K mg cn) (D__law_take : DefM P w K mg base cn (1) "_law_take" 2 m__law_take) : FnG P w K mg base (L2.CX P w) 2 fa fd ["_law_box_here"] (spM K cn 1 m__law_room) :=
  okM F sc__law_room fun cdv A outer s H E hr =>
  (b_cons (s_par2 1 2 rfl sc__law_room.nd (a_cons (e_ix (EM.t (EF.v (f_lst (a_cons (e_str (by first | rfl | decide +kernel)) (a_cons (e_str (by first | rfl | decide +kernel)) a_nil))))) (EM.t (e_call D__law_take hr hxM (a_cons (e_var 0) (a_cons e_int a_nil))))) (a_cons (e_ix (EM.t (EF.v (f_lst (a_cons (e_str (by first | rfl | decide +kernel)) (a_cons (e_str (by first | rfl | decide +kernel)) (a_cons (e_str (by first | rfl | decide +kernel)) a_nil)))))) (EM.t (e_call D__law_take hr hxM (a_cons (e_var 0) (a_cons e_int a_nil))))) a_nil)))
  (b_cons (s_par2 3 4 rfl sc__law_room.nd (a_cons (e_add (EM.t e_int) (EM.t (e_call D__law_take hr hxM (a_cons (e_var 0) (a_cons (e_ix (EM.t (EF.v (f_lst (a_cons e_int (a_cons e_int a_nil))))) (EM.t (e_call D__law_take hr hxM (a_cons (e_var 0) (a_cons e_int a_nil))))) a_nil))))) (a_cons (e_call D__law_take hr hxM (a_cons (e_var 0) (a_cons (e_ix (EM.t (EF.v (f_lst (a_cons e_int (a_cons e_int (a_cons e_int a_nil)))))) (EM.t (e_call D__law_take hr hxM (a_cons (e_var 0) (a_cons e_int a_nil))))) a_nil))) a_nil)))
  (b_cons (s_par2 5 6 rfl sc__law_room.nd (a_cons (e_add (EM.t e_int) (EM.t (e_call D__law_take hr hxM (a_cons (e_var 0) (a_cons (e_ix (EM.t (EF.v (f_lst (a_cons e_int (a_cons e_int a_nil))))) (EM.t (e_call D__law_take hr hxM (a_cons (e_var 0) (a_cons e_int a_nil))))) a_nil))))) (a_cons (e_add (EM.t e_int) (EM.t (e_call D__law_take hr hxM (a_cons (e_var 0) (a_cons (e_ix (EM.t (EF.v (f_lst (a_cons e_int (a_cons e_int a_nil))))) (EM.t (e_call D__law_take hr hxM (a_cons (e_var 0) (a_cons e_int a_nil))))) a_nil))))) a_nil)))
  (b_one (s_ret (e_tup (a_cons (e_var 1) (a_cons (e_var 3) (a_cons (e_var 4) (a_cons (e_var 5) (a_cons (e_var 6) (a_cons (e_var 2) a_nil))))))))))))
theorem sc__law_end : FnScope ["_law_box_here", "_law_room_here", "_law_many", "_law_rest", "_law_most", "_law_tries", "_law_wait", "_law_again"] ["_law_box_here"] (defScope st__law_end) := ⟨rfl, rfl, rfl, by decide +kernel, rfl, by decide +kernel, by decide +kernel⟩
theorem ok__law_end {fa : Addr} {fd : FuncData} (F : Fun K "_law_end" "_law_end" st__law_end fa fd) (T : Txt K mg cn) (D__law_take : DefM P w K mg base cn (2) "_law_take" 2 m__law_take) (D__law_room : DefM P w K mg base cn (2) "_law_room" 1 m__law_room) : FnG P w K mg base (L2.CX P w) 3 fa fd ["_law_box_here"] (spM K cn 1 m__law_end) :=
  okM F sc__law_end fun cdv A outer s H E hr =>
  (b_cons (s_par2 1 2 rfl sc__law_end.nd (a_cons (e_call D__law_room hr hxM (a_cons (e_var 0) a_nil)) (a_cons (e_add (EM.t e_int) (EM.t (e_call D__law_take hr hxM (a_cons (e_var 0) (a_cons (e_ix (EM.t (EF.v (f_lst (a_cons e_int (a_cons e_int (a_cons e_int a_nil)))))) (EM.t (e_call D__law_take hr hxM (a_cons (e_var 0) (a_cons e_int a_nil))))) a_nil))))) a_nil)))
  (b_cons (s_par2 3 4 rfl sc__law_end.nd (a_cons (e_call D__law_take hr hxM (a_cons (e_var 0) (a_cons (e_ix (EM.t (EF.v (f_lst (a_cons e_int (a_cons e_int (a_cons e_int a_nil)))))) (EM.t (e_call D__law_take hr hxM (a_cons (e_var 0) (a_cons e_int a_nil))))) a_nil))) (a_cons (e_add (EM.t e_int) (EM.t (e_call D__law_take hr hxM (a_cons (e_var 0) (a_cons (e_ix (EM.t (EF.v (f_lst (a_cons e_int (a_cons e_int a_nil))))) (EM.t (e_call D__law_take hr hxM (a_cons (e_var 0) (a_cons e_int a_nil))))) a_nil))))) a_nil)))
  (b_cons (s_par3 5 6 7 rfl sc__law_end.nd (a_cons (e_add (EM.t e_int) (EM.t (e_call D__law_take hr hxM (a_cons (e_var 0) (a_cons e_int a_nil))))) (a_cons (e_add (EM.t e_int) (EM.t (e_call D__law_take hr hxM (a_cons (e_var 0) (a_cons e_int a_nil))))) (a_cons (e_call D__law_take hr hxM (a_cons (e_var 0) (a_cons (e_ix (EM.t (EF.v (f_lst (a_cons e_int (a_cons e_int a_nil))))) (EM.t (e_call D__law_take hr hxM (a_cons (e_var 0) (a_cons e_int a_nil))))) a_nil))) a_nil))))
  (b_one (s_ret (e_tup (a_cons (e_var 1) (a_cons (e_var 2) (a_cons (e_var 3) (a_cons (e_var 4) (a_cons (e_var 5) (a_cons (e_var 6) (a_cons (e_var 7) a_nil)))))))))))))
theorem sc__law_same : FnScope ["_law_found", "_law_due", "_law_one", "_law_other"] ["_law_found", "_law_due"] (defScope st__law_same) := ⟨rfl, rfl, rfl, by decide +kernel, rfl, by decide +kernel, by decide +kernel⟩
theorem ok__law_same {fa : Addr} {fd : FuncData} {k : Nat} {rec : MF} (F : Fun K "_law_same" "_law_same" st__law_same fa fd) (T : Txt K mg cn) (D_self : DefM P w K mg base cn k "_law_same" 2 rec)  : FnG P w K mg base (L2.CX P w) (k + 1) fa fd ["_law_found", "_law_due"] (spM K cn 2 (runF 4 (b__law_same rec))) :=
  okM F sc__law_same fun cdv A outer s H E hr =>
  (b_cons (s_if (t_truth (EM.t (e_isi2 (e_var 1) T.z_isinstance T.z_list T.z_tuple bo_list bo_tuple))) (b_cons (s_if (TW.t (w_or (t_cmp (c_ne hr.units) (EM.t (e_isi (EM.t (e_var 0)) T.z_list T.z_isinstance bo_list bo_isinstance)) (EM.t (e_isi (EM.t (e_var 1)) T.z_list T.z_isinstance bo_list bo_isinstance)) rfl) (w_or1 (t_cmp (c_ne hr.units) (EM.t (e_isi (EM.t (e_var 0)) T.z_tuple T.z_isinstance bo_tuple bo_isinstance)) (EM.t (e_isi (EM.t (e_var 1)) T.z_tuple T.z_isinstance bo_tuple bo_isinstance)) rfl)))) (b_one (s_ret e_bl)) b_nil)
  (b_one (s_ret (e_and (e_cmpM (c_eq hr.units) (EM.t (e_bc b_len T.z_len bo_len (t_cons (EM.t (e_var 0)) t_nil))) (EM.t (e_bc b_len T.z_len bo_len (t_cons (EM.t (e_var 1)) t_nil))) rfl) (e_one (e_bc (b_all rfl) T.z_all bo_all (t_cons (EM.t (EF.v (f_lc (own := [("_law_one", 2), ("_law_other", 3)]) rfl sc__law_same.nd (i_zip T.z_zip (e_var 0) (e_var 1)) (blkOk_by (Eq.refl true)) (by decide) (fun _ _ _ _ _ => (n_tup rfl (n_cons (n_name 2 sc__law_same.nd) (n_cons (n_name 3 sc__law_same.nd) n_nil)))) (fun _ _ _ _ _ => ts_nil) (fun _ _ _ _ _ => (e_call D_self hr passN (a_cons (e_var 2) (a_cons (e_var 3) a_nil))))))) t_nil))))))) b_nil)
  (b_cons (s_if (TW.t (w_or (t_cmp c_isN (EM.t (e_var 1)) (EM.t e_non) rfl) (w_or1 (t_truth (EM.t (e_isi (EM.t (e_var 1)) T.z_str T.z_isinstance bo_str bo_isinstance)))))) (b_one (s_ret (e_cmpM (c_eq hr.units) (EM.t (e_var 0)) (EM.t (e_var 1)) rfl))) b_nil)
  (b_one (s_ret (e_and (e_isi (EM.t (e_var 0)) T.z_int T.z_isinstance bo_int bo_isinstance) (e_and (e_cmpM (c_eq hr.units) (EM.t (e_isi (EM.t (e_var 0)) T.z_bool T.z_isinstance bo_bool bo_isinstance)) (EM.t (e_isi (EM.t (e_var 1)) T.z_bool T.z_isinstance bo_bool bo_isinstance)) rfl) (e_one (e_cmpM (c_eq hr.units) (EM.t (e_var 0)) (EM.t (e_var 1)) rfl))))))))
theorem sc__law_number : FnScope ["_law_thing_here", "_law_least", "_law_most"] ["_law_thing_here", "_law_least", "_law_most"] (defScope st__law_number) := ⟨rfl, rfl, rfl, by decide +kernel, rfl, by decide +kernel, by decide +kernel⟩
theorem ok__law_number {fa : Addr} {fd : FuncData} (F : Fun K "_law_number" "_law_number" st__law_number fa fd) (T : Txt K mg cn)  : FnG P w K mg base (L2.CX P w) 1 fa fd ["_law_thing_here", "_law_least", "_law_most"] (spM K cn 3 m_is_between) :=
  okM F sc__law_number fun cdv A outer s H E hr =>
  (b_one (s_ret (e_and (e_isi (EM.t (e_var 0)) T.z_int T.z_isinstance bo_int bo_isinstance) (e_and (e_not (e_isi (EM.t (e_var 0)) T.z_bool T.z_isinstance bo_bool bo_isinstance)) (e_one (e_chain c_le c_le (EM.t (e_var 1)) (EM.t (e_var 0)) (EM.t (e_var 2))))))))
theorem sc__law_is_room : FnScope ["_law_thing_here", "_law_bounds", "_law_one", "_law_bound"] ["_law_thing_here"] (defScope st__law_is_room) := ⟨rfl, rfl, rfl, by decide +kernel, rfl, by decide +kernel, by decide +kernel⟩
theorem ok__law_is_room {fa : Addr} {fd : FuncData} (F : Fun K "_law_is_room" "_law_is_room" st__law_is_room fa fd) (T : Txt K mg cn) (D__law_number : DefM P w K mg base cn (1) "_law_number" 3 m_is_between) : FnG P w K mg base (L2.CX P w) 2 fa fd ["_law_thing_here"] (spM K cn 1 m__law_is_room) :=
  okM F sc__law_is_room fun cdv A outer s H E hr =>
  (b_cons (s_if (TW.t (w_or (t_not (t_truth (EM.t (e_isi (EM.t (e_var 0)) T.z_tuple T.z_isinstance bo_tuple bo_isinstance)))) (w_or1 (t_cmp (c_ne hr.units) (EM.t (e_bc b_len T.z_len bo_len (t_cons (EM.t (e_var 0)) t_nil))) (EM.t e_int) rfl)))) (b_one (s_ret e_bl)) b_nil)
  (b_cons (s_if (TW.t (w_or (t_not (t_truth (EM.t (e_isi (EM.t (e_ix (EM.t (e_var 0)) (EM.t e_int))) T.z_str T.z_isinstance bo_str bo_isinstance)))) (w_or1 (t_not (t_truth (EM.t (e_isi (EM.t (e_ix (EM.t (e_var 0)) (EM.t e_int))) T.z_str T.z_isinstance bo_str bo_isinstance))))))) (b_one (s_ret e_bl)) b_nil)
  (b_cons (s_if (TW.t (w_or (t_cmp (c_notIn (ru65 hr)) (EM.t (e_ix (EM.t (e_var 0)) (EM.t e_int))) (EM.t (e_tup (a_cons (e_str (by first | rfl | decide +kernel)) (a_cons (e_str (by first | rfl | decide +kernel)) a_nil)))) rfl) (w_or1 (t_cmp (c_notIn (ru65 hr)) (EM.t (e_ix (EM.t (e_var 0)) (EM.t e_int))) (EM.t (e_tup (a_cons (e_str (by first | rfl | decide +kernel)) (a_cons (e_str (by first | rfl | decide +kernel)) (a_cons (e_str (by first | rfl | decide +kernel)) a_nil))))) rfl)))) (b_one (s_ret e_bl)) b_nil)
  (b_cons (s_set 1 sc__law_is_room.nd (EF.v (f_lst (a_cons (e_tup (a_cons e_int (a_cons e_int a_nil))) (a_cons (e_tup (a_cons e_int (a_cons e_int a_nil))) (a_cons (e_tup (a_cons e_int (a_cons e_int a_nil))) (a_cons (e_tup (a_cons e_int (a_cons e_int a_nil))) a_nil)))))))
  (b_one (s_ret (e_bc (b_all rfl) T.z_all bo_all (t_cons (EM.t (EF.v (f_lc (own := [("_law_one", 2), ("_law_bound", 3)]) rfl sc__law_is_room.nd (i_zip T.z_zip (e_slice (EM.t (e_var 0)) (p_some (EM.t e_int)) (p_some (EM.t e_int))) (e_var 1)) (blkOk_by (Eq.refl true)) (by decide) (fun _ _ _ _ _ => (n_tup rfl (n_cons (n_name 2 sc__law_is_room.nd) (n_cons (n_name 3 sc__law_is_room.nd) n_nil)))) (fun _ _ _ _ _ => ts_nil) (fun _ _ _ _ _ => (e_call D__law_number hr passN (a_cons (e_var 2) (a_cons (e_ix (EM.t (e_var 3)) (EM.t e_int)) (a_cons (e_ix (EM.t (e_var 3)) (EM.t e_int)) a_nil)))))))) t_nil))))))))
theorem sc__law_is_end : FnScope ["_law_thing_here", "_law_bounds", "_law_one", "_law_bound"] ["_law_thing_here"] (defScope st__law_is_end) := ⟨rfl, rfl, rfl, by decide +kernel, rfl, by decide +kernel, by decide +kernel⟩
theorem ok__law_is_end {fa : Addr} {fd : FuncData} (F : Fun K "_law_is_end" "_law_is_end" st__law_is_end fa fd) (T : Txt K mg cn) (D__law_is_room : DefM P w K mg base cn (2) "_law_is_room" 1 m__law_is_room) (D__law_number : DefM P w K mg base cn (2) "_law_number" 3 m_is_between) : FnG P w K mg base (L2.CX P w) 3 fa fd ["_law_thing_here"] (spM K cn 1 m__law_is_end) :=
  okM F sc__law_is_end fun cdv A outer s H E hr =>
  (b_cons (s_if (TW.t (w_or (t_not (t_truth (EM.t (e_isi (EM.t (e_var 0)) T.z_tuple T.z_isinstance bo_tuple bo_isinstance)))) (w_or (t_cmp (c_ne hr.units) (EM.t (e_bc b_len T.z_len bo_len (t_cons (EM.t (e_var 0)) t_nil))) (EM.t e_int) rfl) (w_or1 (t_not (t_truth (EM.t (e_call D__law_is_room hr hxM (a_cons (e_ix (EM.t (e_var 0)) (EM.t e_int)) a_nil))))))))) (b_one (s_ret e_bl)) b_nil)
  (b_cons (s_set 1 sc__law_is_end.nd (EF.v (f_lst (a_cons (e_tup (a_cons e_int (a_cons e_int a_nil))) (a_cons (e_tup (a_cons e_int (a_cons e_int a_nil))) (a_cons (e_tup (a_cons e_int (a_cons e_int a_nil))) (a_cons (e_tup (a_cons e_int (a_cons e_int a_nil))) (a_cons (e_tup (a_cons e_int (a_cons e_int a_nil))) (a_cons (e_tup (a_cons e_int (a_cons e_int a_nil))) a_nil)))))))))
  (b_one (s_ret (e_bc (b_all rfl) T.z_all bo_all (t_cons (EM.t (EF.v (f_lc (own := [("_law_one", 2), ("_law_bound", 3)]) rfl sc__law_is_end.nd (i_zip T.z_zip (e_slice (EM.t (e_var 0)) (p_some (EM.t e_int)) p_none) (e_var 1)) (blkOk_by (Eq.refl true)) (by decide) (fun _ _ _ _ _ => (n_tup rfl (n_cons (n_name 2 sc__law_is_end.nd) (n_cons (n_name 3 sc__law_is_end.nd) n_nil)))) (fun _ _ _ _ _ => ts_nil) (fun _ _ _ _ _ => (e_call D__law_number hr passN (a_cons (e_var 2) (a_cons (e_ix (EM.t (e_var 3)) (EM.t e_int)) (a_cons (e_ix (EM.t (e_var 3)) (EM.t e_int)) a_nil)))))))) t_nil))))))
theorem sc_is_word : FnScope ["thing", "words"] ["thing", "words"] (defScope st_is_word) := ⟨rfl, rfl, rfl, by decide +kernel, rfl, by decide +kernel, by decide +kernel⟩
theorem ok_is_word {fa : Addr} {fd : FuncData} (F : Fun K "is_word" "is_word" st_is_word fa fd) (T : Txt K mg cn)  : FnG P w K mg base (L2.CX P w) 1 fa fd ["thing", "words"] (spM K cn 2 m_is_word) :=
  okM F sc_is_word fun cdv A outer s H E hr =>
  (b_one (s_ret (e_and (e_isi (EM.t (e_var 0)) T.z_str T.z_isinstance bo_str bo_isinstance) (e_one (e_cmpM (c_in (ru65 hr)) (EM.t (e_var 0)) (EM.t (e_var 1)) rfl)))))
theorem sc_is_between : FnScope ["thing", "least", "most"] ["thing", "least", "most"] (defScope st_is_between) := ⟨rfl, rfl, rfl, by decide +kernel, rfl, by decide +kernel, by decide +kernel⟩
theorem ok_is_between {fa : Addr} {fd : FuncData} (F : Fun K "is_between" "is_between" st_is_between fa fd) (T : Txt K mg cn)  : FnG P w K mg base (L2.CX P w) 1 fa fd ["thing", "least", "most"] (spM K cn 3 m_is_between) :=
  okM F sc_is_between fun cdv A outer s H E hr =>
  (b_one (s_ret (e_and (e_isi (EM.t (e_var 0)) T.z_int T.z_isinstance bo_int bo_isinstance) (e_and (e_not (e_isi (EM.t (e_var 0)) T.z_bool T.z_isinstance bo_bool bo_isinstance)) (e_one (e_chain c_le c_le (EM.t (e_var 1)) (EM.t (e_var 0)) (EM.t (e_var 2))))))))
theorem sc_is_make : FnScope ["thing", "rule", "hold", "rest", "most", "count", "way"] ["thing"] (defScope st_is_make) := ⟨rfl, rfl, rfl, by decide +kernel, rfl, by decide +kernel, by decide +kernel⟩
theorem ok_is_make {fa : Addr} {fd : FuncData} (F : Fun K "is_make" "is_make" st_is_make fa fd) (T : Txt K mg cn) (D_is_word : DefM P w K mg base cn (1) "is_word" 2 m_is_word) (D_is_between : DefM P w K mg base cn (1) "is_between" 3 m_is_between) : FnG P w K mg base (L2.CX P w) 2 fa fd ["thing"] (spM K cn 1 m_is_make) :=
  okM F sc_is_make fun cdv A outer s H E hr =>
  (b_cons (s_if (TW.t (w_or (t_not (t_truth (EM.t (e_isi (EM.t (e_var 0)) T.z_tuple T.z_isinstance bo_tuple bo_isinstance)))) (w_or1 (t_cmp (c_ne hr.units) (EM.t (e_bc b_len T.z_len bo_len (t_cons (EM.t (e_var 0)) t_nil))) (EM.t e_int) rfl)))) (b_one (s_ret e_bl)) b_nil)
  (b_cons (s_asg (e_var 0) (g_tup rfl (g_cons (g_name 1 sc_is_make.nd) (g_cons (g_name 2 sc_is_make.nd) (g_cons (g_name 3 sc_is_make.nd) (g_cons (g_name 4 sc_is_make.nd) (g_cons (g_name 5 sc_is_make.nd) (g_cons (g_name 6 sc_is_make.nd) g_nil))))))))
  (b_cons (s_if (TW.t (w_or (t_not (t_truth (EM.t (e_call D_is_word hr hxM (a_cons (e_var 1) (a_cons (e_gT T.g_RULES (rvs_str (by first | rfl | decide +kernel) (rvs_str (by first | rfl | decide +kernel) (rvs_nil _ _)))) a_nil)))))) (w_or1 (t_not (t_truth (EM.t (e_call D_is_word hr hxM (a_cons (e_var 6) (a_cons (e_gT T.g_WAYS (rvs_str (by first | rfl | decide +kernel) (rvs_str (by first | rfl | decide +kernel) (rvs_str (by first | rfl | decide +kernel) (rvs_nil _ _))))) a_nil))))))))) (b_one (s_ret e_bl)) b_nil)
  (b_cons (s_if (TW.t (w_or (t_not (t_truth (EM.t (e_call D_is_between hr hxM (a_cons (e_var 2) (a_cons e_int (a_cons (e_gI T.g_MOST_HOLD) a_nil))))))) (w_or1 (t_not (t_truth (EM.t (e_call D_is_between hr hxM (a_cons (e_var 3) (a_cons e_int (a_cons (e_gI T.g_MOST_REST) a_nil)))))))))) (b_one (s_ret e_bl)) b_nil)
  (b_one (s_ret (e_and (e_call D_is_between hr hxM (a_cons (e_var 4) (a_cons (e_gI T.g_LEAST_ROOM) (a_cons (e_gI T.g_MOST_ROOM) a_nil)))) (e_one (e_call D_is_between hr hxM (a_cons (e_var 5) (a_cons e_int (a_cons (e_gI T.g_MOST_HALVES) a_nil))))))))))))
theorem sc_is_end : FnScope ["thing", "bounds", "one", "bound"] ["thing"] (defScope st_is_end) := ⟨rfl, rfl, rfl, by decide +kernel, rfl, by decide +kernel, by decide +kernel⟩
theorem ok_is_end {fa : Addr} {fd : FuncData} (F : Fun K "is_end" "is_end" st_is_end fa fd) (T : Txt K mg cn) (D_is_make : DefM P w K mg base cn (2) "is_make" 1 m_is_make) (D_is_between : DefM P w K mg base cn (2) "is_between" 3 m_is_between) : FnG P w K mg base (L2.CX P w) 3 fa fd ["thing"] (spM K cn 1 m_is_end) :=
  okM F sc_is_end fun cdv A outer s H E hr =>
  (b_cons (s_if (TW.t (w_or (t_not (t_truth (EM.t (e_isi (EM.t (e_var 0)) T.z_tuple T.z_isinstance bo_tuple bo_isinstance)))) (w_or (t_cmp (c_ne hr.units) (EM.t (e_bc b_len T.z_len bo_len (t_cons (EM.t (e_var 0)) t_nil))) (EM.t e_int) rfl) (w_or1 (t_not (t_truth (EM.t (e_call D_is_make hr hxM (a_cons (e_ix (EM.t (e_var 0)) (EM.t e_int)) a_nil))))))))) (b_one (s_ret e_bl)) b_nil)
  (b_cons (s_set 1 sc_is_end.nd (e_tup (a_cons (e_tup (a_cons e_int (a_cons e_int a_nil))) (a_cons (e_tup (a_cons e_int (a_cons e_int a_nil))) (a_cons (e_tup (a_cons e_int (a_cons e_int a_nil))) (a_cons (e_tup (a_cons e_int (a_cons e_int a_nil))) (a_cons (e_tup (a_cons e_int (a_cons e_int a_nil))) (a_cons (e_tup (a_cons e_int (a_cons e_int a_nil))) a_nil))))))))
  (b_one (s_ret (e_bc (b_all rfl) T.z_all bo_all (t_cons (EM.t (EF.v (f_lc (own := [("one", 2), ("bound", 3)]) rfl sc_is_end.nd (i_zip T.z_zip (e_slice (EM.t (e_var 0)) (p_some (EM.t e_int)) p_none) (e_var 1)) (blkOk_by (Eq.refl true)) (by decide) (fun _ _ _ _ _ => (n_tup rfl (n_cons (n_name 2 sc_is_end.nd) (n_cons (n_name 3 sc_is_end.nd) n_nil)))) (fun _ _ _ _ _ => ts_nil) (fun _ _ _ _ _ => (e_call D_is_between hr passN (a_cons (e_var 2) (a_cons (e_ix (EM.t (e_var 3)) (EM.t e_int)) (a_cons (e_ix (EM.t (e_var 3)) (EM.t e_int)) a_nil)))))))) t_nil))))))
theorem sc__law_asked : FnScope ["_law_thing_here", "_law_turn"] ["_law_thing_here"] (defScope st__law_asked) := ⟨rfl, rfl, rfl, by decide +kernel, rfl, by decide +kernel, by decide +kernel⟩
theorem ok__law_asked {fa : Addr} {fd : FuncData} (F : Fun K "_law_asked" "_law_asked" st__law_asked fa fd) (T : Txt K mg cn) (D__law_same : DefM P w K mg base cn (7) "_law_same" 2 m__law_same) (D__law_is_end : DefM P w K mg base cn (7) "_law_is_end" 1 m__law_is_end) (D_is_end : DefM P w K mg base cn (7) "is_end" 1 m_is_end) (D__law_is_room : DefM P w K mg base cn (7) "_law_is_room" 1 m__law_is_room) (D_is_make : DefM P w K mg base cn (7) "is_make" 1 m_is_make) : FnG P w K mg base (L2.CX P w) 8 fa fd ["_law_thing_here"] (spM K cn 1 m__law_asked) :=
  okM F sc__law_asked fun cdv A outer s H E hr =>
  (b_cons (s_for hpM rfl (i_range1 T.z_range (EM.t e_int)) (g_name 1 sc__law_asked.nd) (b_one (s_if (TW.t (w_or (t_not (t_truth (EM.t (e_call D__law_same hr hxM (a_cons (e_call D_is_end hr hxM (a_cons (e_var 0) a_nil)) (a_cons (e_call D__law_is_end hr hxM (a_cons (e_var 0) a_nil)) a_nil)))))) (w_or1 (t_not (t_truth (EM.t (e_call D__law_same hr hxM (a_cons (e_call D_is_make hr hxM (a_cons (e_var 0) a_nil)) (a_cons (e_call D__law_is_room hr hxM (a_cons (e_var 0) a_nil)) a_nil))))))))) (b_one (s_ret e_bl)) b_nil)))
  (b_cons (s_if (TW.t (w_and (t_truth (EM.t (e_isi (EM.t (e_var 0)) T.z_tuple T.z_isinstance bo_tuple bo_isinstance))) (w_and1 (t_cmp c_gt (EM.t (e_bc b_len T.z_len bo_len (t_cons (EM.t (e_var 0)) t_nil))) (EM.t e_int) rfl)))) (b_one (s_ret (e_call D__law_same hr hxM (a_cons (e_call D_is_make hr hxM (a_cons (e_ix (EM.t (e_var 0)) (EM.t e_int)) a_nil)) (a_cons (e_call D__law_is_room hr hxM (a_cons (e_ix (EM.t (e_var 0)) (EM.t e_int)) a_nil)) a_nil))))) b_nil)
  (b_one (s_ret e_bl))))
theorem sc__law_thing : FnScope ["_law_box_here", "_law_part", "_law_way", "_law_few", "_law_bounds"] ["_law_box_here", "_law_part"] (defScope st__law_thing) := ⟨rfl, rfl, rfl, by decide +kernel, rfl, by decide +kernel, by decide +kernel⟩
theorem ok__law_thing {fa : Addr} {fd : FuncData} (F : Fun K "_law_thing" "_law_thing" st__law_thing fa fd) (T : Txt K mg cn) (D__law_take : DefM P w K mg base cn (1) "_law_take" 2 m__law_take) : FnG P w K mg base (L2.CX P w) 2 fa fd ["_law_box_here", "_law_part"] (spM K cn 2 m__law_thing) :=
  okM F sc__law_thing fun cdv A outer s H E hr =>
  (b_cons (s_par2 2 3 rfl sc__law_thing.nd (a_cons (e_call D__law_take hr hxM (a_cons (e_var 0) (a_cons e_int a_nil))) (a_cons (e_call D__law_take hr hxM (a_cons (e_var 0) (a_cons e_int a_nil))) a_nil)))
  (b_cons (s_if (TW.t (w_and (t_truth (EM.t (e_isi (EM.t (e_var 1)) T.z_int T.z_isinstance bo_int bo_isinstance))) (w_and (t_not (t_truth (EM.t (e_isi (EM.t (e_var 1)) T.z_bool T.z_isinstance bo_bool bo_isinstance)))) (w_and1 (t_cmp c_lt (EM.t (e_var 2)) (EM.t e_int) rfl))))) (b_cons (s_set 4 sc__law_thing.nd (EF.v (f_lst (a_cons e_int (a_cons e_int (a_cons e_int (a_cons e_int (a_cons e_int (a_cons e_int (a_cons e_int (a_cons e_int (a_cons e_int (a_cons e_int (a_cons e_int (a_cons e_int (a_cons e_int (a_cons e_int (a_cons e_int (a_cons e_int (a_cons e_int (a_cons e_int (a_cons e_int (a_cons e_int a_nil)))))))))))))))))))))))
  (b_one (s_ret (e_ix (EM.t (EF.v (f_lst (a_cons (e_sub (EM.t (e_var 1)) (EM.t e_int)) (a_cons (e_add (EM.t (e_var 1)) (EM.t e_int)) (a_cons (e_sub (EM.t e_int) (EM.t (e_var 1))) (a_cons (e_add (EM.t (e_mul (EM.t (e_var 1)) (EM.t e_int))) (EM.t e_int)) (a_cons (e_ix (EM.t (e_var 4)) (EM.t (e_call D__law_take hr hxM (a_cons (e_var 0) (a_cons e_int a_nil))))) a_nil)))))))) (EM.t (e_var 2)))))) b_nil)
  (b_cons (s_if (TW.t (w_and (t_truth (EM.t (e_isi (EM.t (e_var 1)) T.z_str T.z_isinstance bo_str bo_isinstance))) (w_and1 (t_cmp c_lt (EM.t (e_var 2)) (EM.t e_int) rfl)))) (b_one (s_ret (e_ix (EM.t (EF.v (f_lst (a_cons (e_str (by first | rfl | decide +kernel)) (a_cons (e_str (by first | rfl | decide +kernel)) (a_cons (e_str (by first | rfl | decide +kernel)) (a_cons (e_str (by first | rfl | decide +kernel)) (a_cons (e_str (by first | rfl | decide +kernel)) (a_cons (e_str (by first | rfl | decide +kernel)) (a_cons (e_add (EM.t (e_var 1)) (EM.t (e_str (by first | rfl | decide +kernel)))) (a_cons (e_slice (EM.t (e_var 1)) p_none (p_some (EM.t (e_neg (EM.t e_int))))) (a_cons (e_upper (e_var 1)) a_nil)))))))))))) (EM.t (e_call D__law_take hr hxM (a_cons (e_var 0) (a_cons e_int a_nil))))))) b_nil)
  (b_cons (s_if (TW.t (w_and (t_truth (EM.t (e_isi (EM.t (e_var 1)) T.z_tuple T.z_isinstance bo_tuple bo_isinstance))) (w_and1 (t_cmp c_lt (EM.t (e_var 2)) (EM.t e_int) rfl)))) (b_one (s_ret (e_ix (EM.t (EF.v (f_lst (a_cons (EF.v (f_list T.z_list (t_cons (EM.t (e_var 1)) t_nil))) (a_cons (e_slice (EM.t (e_var 1)) (p_some (EM.t e_int)) p_none) (a_cons (e_add (EM.t (e_var 1)) (EM.t (e_slice (EM.t (e_var 1)) p_none (p_some (EM.t e_int))))) a_nil)))))) (EM.t (e_var 2))))) b_nil)
  (b_one (s_ret (e_ix (EM.t (EF.v (f_lst (a_cons e_non (a_cons e_bl (a_cons e_bl (a_cons (e_str (by first | rfl | decide +kernel)) (a_cons e_tup0 (a_cons (EF.v (f_lst a_nil)) (a_cons (e_tup (a_cons e_int a_nil)) (a_cons (e_tup (a_cons (e_str (by first | rfl | decide +kernel)) a_nil)) (a_cons (e_neg (EM.t e_int)) a_nil)))))))))))) (EM.t (e_mod (EM.t (e_add (EM.t (e_var 2)) (EM.t (e_mul (EM.t e_int) (EM.t (e_var 3)))))) (EM.t e_int))))))))))
theorem sc__law_spoilt : FnScope ["_law_box_here", "_law_thing_here", "_law_way", "_law_at", "_law_other", "_law_low", "_law_high"] ["_law_box_here", "_law_thing_here"] (defScope st__law_spoilt) := ⟨rfl, rfl, rfl, by decide +kernel, rfl, by decide +kernel, by decide +kernel⟩
theorem ok__law_spoilt {fa : Addr} {fd : FuncData} {k : Nat} {rec : MF} (F : Fun K "_law_spoilt" "_law_spoilt" st__law_spoilt fa fd) (T : Txt K mg cn) (D_self : DefM P w K mg base cn k "_law_spoilt" 2 rec) (D__law_take : DefM P w K mg base cn (k) "_law_take" 2 m__law_take) (D__law_thing : DefM P w K mg base cn (k) "_law_thing" 2 m__law_thing) : FnG P w K mg base (L2.CX P w) (k + 1) fa fd ["_law_box_here", "_law_thing_here"] (spM K cn 2 (runF 7 (b__law_spoilt rec))) :=
  okM F sc__law_spoilt fun cdv A outer s H E hr =>
  (b_cons (s_par2 2 3 rfl sc__law_spoilt.nd (a_cons (e_call D__law_take hr hxM (a_cons (e_var 0) (a_cons e_int a_nil))) (a_cons (e_call D__law_take hr hxM (a_cons (e_var 0) (a_cons (e_bc b_len T.z_len bo_len (t_cons (EM.t (e_var 1)) t_nil)) a_nil))) a_nil)))
  (b_cons (s_if (TW.t (w_and (t_truth (EM.t (e_isi (EM.t (e_ix (EM.t (e_var 1)) (EM.t e_int))) T.z_tuple T.z_isinstance bo_tuple bo_isinstance))) (w_and (t_cmp c_gt (EM.t (e_bc b_len T.z_len bo_len (t_cons (EM.t (e_ix (EM.t (e_var 1)) (EM.t e_int))) t_nil))) (EM.t e_int) rfl) (w_and1 (t_cmp (c_eq hr.units) (EM.t (e_call D__law_take hr hxM (a_cons (e_var 0) (a_cons e_int a_nil)))) (EM.t e_int) rfl))))) (b_one (s_ret (e_add (EM.t (e_tup (a_cons (e_call D_self hr hxM (a_cons (e_var 0) (a_cons (e_ix (EM.t (e_var 1)) (EM.t e_int)) a_nil))) a_nil))) (EM.t (e_slice (EM.t (e_var 1)) (p_some (EM.t e_int)) p_none))))) b_nil)
  (b_cons (s_if (t_cmp (c_eq hr.units) (EM.t (e_var 2)) (EM.t e_int) rfl) (b_one (s_ret (e_add (EM.t (e_slice (EM.t (e_var 1)) p_none (p_some (EM.t (e_var 3))))) (EM.t (e_slice (EM.t (e_var 1)) (p_some (EM.t (e_add (EM.t (e_var 3)) (EM.t e_int)))) p_none))))) b_nil)
  (b_cons (s_if (t_cmp (c_eq hr.units) (EM.t (e_var 2)) (EM.t e_int) rfl) (b_one (s_ret (e_add (EM.t (e_add (EM.t (e_slice (EM.t (e_var 1)) p_none (p_some (EM.t (e_var 3))))) (EM.t (e_tup (a_cons (e_ix (EM.t (e_var 1)) (EM.t (e_var 3))) a_nil))))) (EM.t (e_slice (EM.t (e_var 1)) (p_some (EM.t (e_var 3))) p_none))))) b_nil)
  (b_cons (s_if (t_cmp (c_eq hr.units) (EM.t (e_var 2)) (EM.t e_int) rfl) (b_cons (s_set 4 sc__law_spoilt.nd (e_call D__law_take hr hxM (a_cons (e_var 0) (a_cons (e_bc b_len T.z_len bo_len (t_cons (EM.t (e_var 1)) t_nil)) a_nil))))
  (b_cons (s_par2 5 6 rfl sc__law_spoilt.nd (a_cons (e_bc (b_min2 rfl) T.z_min bo_min (t_cons (EM.t (e_var 3)) (t_cons (EM.t (e_var 4)) t_nil))) (a_cons (e_bc (b_max2 rfl) T.z_max bo_max (t_cons (EM.t (e_var 3)) (t_cons (EM.t (e_var 4)) t_nil))) a_nil)))
  (b_one (s_if (t_cmp c_lt (EM.t (e_var 5)) (EM.t (e_var 6)) rfl) (b_one (s_ret (e_add (EM.t (e_add (EM.t (e_add (EM.t (e_add (EM.t (e_slice (EM.t (e_var 1)) p_none (p_some (EM.t (e_var 5))))) (EM.t (e_tup (a_cons (e_ix (EM.t (e_var 1)) (EM.t (e_var 6))) a_nil))))) (EM.t (e_slice (EM.t (e_var 1)) (p_some (EM.t (e_add (EM.t (e_var 5)) (EM.t e_int)))) (p_some (EM.t (e_var 6))))))) (EM.t (e_tup (a_cons (e_ix (EM.t (e_var 1)) (EM.t (e_var 5))) a_nil))))) (EM.t (e_slice (EM.t (e_var 1)) (p_some (EM.t (e_add (EM.t (e_var 6)) (EM.t e_int)))) p_none))))) b_nil)))) b_nil)
  (b_one (s_ret (e_add (EM.t (e_add (EM.t (e_slice (EM.t (e_var 1)) p_none (p_some (EM.t (e_var 3))))) (EM.t (e_tup (a_cons (e_call D__law_thing hr hxM (a_cons (e_var 0) (a_cons (e_ix (EM.t (e_var 1)) (EM.t (e_var 3))) a_nil))) a_nil))))) (EM.t (e_slice (EM.t (e_var 1)) (p_some (EM.t (e_add (EM.t (e_var 3)) (EM.t e_int)))) p_none))))))))))
theorem sc_law : FnScope ["_law_script", "_law_cells", "_law_k", "_law_box_here", "_law_make", "_law_turn", "_law_thing_here"] ["_law_script"] (defScope st_law) := ⟨rfl, rfl, rfl, by decide +kernel, rfl, by decide +kernel, by decide +kernel⟩
theorem ok_law {fa : Addr} {fd : FuncData} (F : Fun K "law" "law" st_law fa fd) (T : Txt K mg cn) (D__law_folded : DefM P w K mg base cn (9) "_law_folded" 2 m__law_folded_B) (D__law_box : DefM P w K mg base cn (9) "_law_box" 2 m__law_box) (D__law_end : DefM P w K mg base cn (9) "_law_end" 1 m__law_end) (D__law_asked : DefM P w K mg base cn (9) "_law_asked" 1 m__law_asked) (D_is_end : DefM P w K mg base cn (9) "is_end" 1 m_is_end) (D__law_spoilt : DefM P w K mg base cn (9) "_law_spoilt" 2 m__law_spoilt) (D__law_take : DefM P w K mg base cn (9) "_law_take" 2 m__law_take) : FnG P w K mg base (L2.CX P w) 10 fa fd ["_law_script"] (spM K cn 1 m_law) :=
  okM F sc_law fun cdv A outer s H E hr =>
  (b_cons (s_set 1 sc_law.nd (e_call D__law_folded hr hxM (a_cons (e_var 0) (a_cons e_int a_nil))))
  (b_cons (s_for hpM rfl (i_range1 T.z_range (EM.t (e_bc (b_max2 rfl) T.z_max bo_max (t_cons (EM.t e_int) (t_cons (EM.t (e_bc b_len T.z_len bo_len (t_cons (EM.t (e_var 1)) t_nil))) t_nil))))) (g_name 2 sc_law.nd) (b_cons (s_set 3 sc_law.nd (e_call D__law_box hr hxM (a_cons (e_var 1) (a_cons (e_var 2) a_nil))))
  (b_cons (s_set 4 sc_law.nd (e_call D__law_end hr hxM (a_cons (e_var 3) a_nil)))
  (b_cons (s_if (TW.t (w_or (t_not (t_truth (EM.t (e_call D__law_asked hr hxM (a_cons (e_var 4) a_nil))))) (w_or1 (t_cmp c_notB (EM.t (e_call D_is_end hr hxM (a_cons (e_var 4) a_nil))) (EM.t e_bl) rfl)))) (b_one (s_ret e_bl)) b_nil)
  (b_cons (s_for hpM rfl (i_range1 T.z_range (EM.t e_int)) (g_name 5 sc_law.nd) (b_cons (s_set 6 sc_law.nd (e_call D__law_spoilt hr hxM (a_cons (e_var 3) (a_cons (e_var 4) a_nil))))
  (b_cons (s_if (TW.t (w_and (t_cmp (c_eq hr.units) (EM.t (e_call D__law_take hr hxM (a_cons (e_var 3) (a_cons e_int a_nil)))) (EM.t e_int) rfl) (w_and (t_truth (EM.t (e_isi (EM.t (e_var 6)) T.z_tuple T.z_isinstance bo_tuple bo_isinstance))) (w_and1 (t_cmp c_gt (EM.t (e_bc b_len T.z_len bo_len (t_cons (EM.t (e_var 6)) t_nil))) (EM.t e_int) rfl))))) (b_one (s_set 6 sc_law.nd (e_call D__law_spoilt hr hxM (a_cons (e_var 3) (a_cons (e_var 6) a_nil))))) b_nil)
  (b_one (s_if (t_not (t_truth (EM.t (e_call D__law_asked hr hxM (a_cons (e_var 6) a_nil))))) (b_one (s_ret e_bl)) b_nil)))))
  (b_one (s_for hpM rfl (i_seq (e_tup (a_cons e_non (a_cons e_bl (a_cons e_int (a_cons (e_str (by first | rfl | decide +kernel)) (a_cons e_tup0 (a_cons (EF.v (f_lst a_nil)) (a_cons (EF.v (f_list T.z_list (t_cons (EM.t (e_var 4)) t_nil))) (a_cons (e_tup (a_cons (e_var 4) a_nil)) (a_cons (e_ix (EM.t (e_var 4)) (EM.t e_int)) (a_cons (e_tup (a_cons e_tup0 (a_cons e_int (a_cons e_int (a_cons e_int (a_cons e_int (a_cons e_int (a_cons e_int a_nil)))))))) a_nil)))))))))))) (g_name 6 sc_law.nd) (b_one (s_if (t_not (t_truth (EM.t (e_call D__law_asked hr hxM (a_cons (e_var 6) a_nil))))) (b_one (s_ret e_bl)) b_nil)))))))))
  (b_one (s_ret e_bl))))
end
theorem all_mk {l : PySem.W.OpenLaw} {w : World} {K : PySem.W.Frag} {h : Heap} {mg : Str → Option Value} {fa f0 f1 f2 f3 f4 f5 f6 f7 f8 f9 f10 f11 f12 f13 f14 f15 f16 : Addr} (X : K.In h) (G : h.Ns mainGlobals mg) (hfa : mg "law" = some (.ref fa))
    {od0 an0 od1 an1 od2 an2 od3 an3 od4 an4 od5 an5 od6 an6 od7 an7 od8 an8 od9 an9 od10 an10 od11 an11 od12 an12 od13 an13 od14 an14 od15 an15 od16 an16 : Option Addr} {sl0 sl1 sl2 sl3 sl4 sl5 sl6 sl7 sl8 sl9 sl10 sl11 sl12 sl13 sl14 sl15 sl16 : Array (Option Value)} {oc0 kV0 dc0 pm0 cd0 ct0 oc1 kV1 dc1 pm1 cd1 ct1 oc2 kV2 dc2 pm2 cd2 ct2 oc3 kV3 dc3 pm3 cd3 ct3 oc4 kV4 dc4 pm4 cd4 ct4 oc5 kV5 dc5 pm5 cd5 ct5 oc6 kV6 dc6 pm6 cd6 ct6 oc7 kV7 dc7 pm7 cd7 ct7 oc8 kV8 dc8 pm8 cd8 ct8 oc9 kV9 dc9 pm9 cd9 ct9 oc10 kV10 dc10 pm10 cd10 ct10 oc11 kV11 dc11 pm11 cd11 ct11 oc12 kV12 dc12 pm12 cd12 ct12 oc13 kV13 dc13 pm13 cd13 ct13 oc14 kV14 dc14 pm14 cd14 ct14 oc15 kV15 dc15 pm15 cd15 ct15 oc16 kV16 dc16 pm16 cd16 ct16 : Value}
    {t_LEAST_ROOM t_MOST_HALVES t_MOST_HOLD t_MOST_REST t_MOST_ROOM : Tok}
    {ta_RULES : Addr} {to_RULES : Option Addr} {tn_RULES : Nat} {ts_RULES : Array (Option Value)} {tt_RULES_0 tt_RULES_1 : Tok}
    {ta_WAYS : Addr} {to_WAYS : Option Addr} {tn_WAYS : Nat} {ts_WAYS : Array (Option Value)} {tt_WAYS_0 tt_WAYS_1 tt_WAYS_2 : Tok}
    (a0 : PySem.W.nsIn K mainGlobals "_law_folded" = some (some (.ref f0)))
    (l0 : K.lookup f0 = some ⟨oc0, od0, .func (PySem.W.fnOf "_law_folded" "_law_folded" (defArgs st__law_folded) (defBody st__law_folded) (defScope st__law_folded) .none kV0 dc0 pm0 an0 cd0 ct0), sl0⟩)
    (c0 : PySem.W.codeIn K cd0 "_law_folded" = true)
    (k0 : PySem.W.keepIn K (.ref f0) = true)
    (a1 : PySem.W.nsIn K mainGlobals "_law_box" = some (some (.ref f1)))
    (l1 : K.lookup f1 = some ⟨oc1, od1, .func (PySem.W.fnOf "_law_box" "_law_box" (defArgs st__law_box) (defBody st__law_box) (defScope st__law_box) .none kV1 dc1 pm1 an1 cd1 ct1), sl1⟩)
    (c1 : PySem.W.codeIn K cd1 "_law_box" = true)
    (k1 : PySem.W.keepIn K (.ref f1) = true)
    (a2 : PySem.W.nsIn K mainGlobals "_law_take" = some (some (.ref f2)))
    (l2 : K.lookup f2 = some ⟨oc2, od2, .func (PySem.W.fnOf "_law_take" "_law_take" (defArgs st__law_take) (defBody st__law_take) (defScope st__law_take) .none kV2 dc2 pm2 an2 cd2 ct2), sl2⟩)
    (c2 : PySem.W.codeIn K cd2 "_law_take" = true)
    (k2 : PySem.W.keepIn K (.ref f2) = true)
    (a3 : PySem.W.nsIn K mainGlobals "_law_room" = some (some (.ref f3)))
    (l3 : K.lookup f3 = some ⟨oc3, od3, .func (PySem.W.fnOf "_law_room" "_law_room" (defArgs st__law_room) (defBody st__law_room) (defScope st__law_room) .none kV3 dc3 pm3 an3 cd3 ct3), sl3⟩)
    (c3 : PySem.W.codeIn K cd3 "_law_room" = true)
    (k3 : PySem.W.keepIn K (.ref f3) = true)
    (a4 : PySem.W.nsIn K mainGlobals "_law_end" = some (some (.ref f4)))
    (l4 : K.lookup f4 = some ⟨oc4, od4, .func (PySem.W.fnOf "_law_end" "_law_end" (defArgs st__law_end) (defBody st__law_end) (defScope st__law_end) .none kV4 dc4 pm4 an4 cd4 ct4), sl4⟩)
    (c4 : PySem.W.codeIn K cd4 "_law_end" = true)
    (k4 : PySem.W.keepIn K (.ref f4) = true)
    (a5 : PySem.W.nsIn K mainGlobals "_law_same" = some (some (.ref f5)))
    (l5 : K.lookup f5 = some ⟨oc5, od5, .func (PySem.W.fnOf "_law_same" "_law_same" (defArgs st__law_same) (defBody st__law_same) (defScope st__law_same) .none kV5 dc5 pm5 an5 cd5 ct5), sl5⟩)
    (c5 : PySem.W.codeIn K cd5 "_law_same" = true)
    (k5 : PySem.W.keepIn K (.ref f5) = true)
    (a6 : PySem.W.nsIn K mainGlobals "_law_number" = some (some (.ref f6)))
    (l6 : K.lookup f6 = some ⟨oc6, od6, .func (PySem.W.fnOf "_law_number" "_law_number" (defArgs st__law_number) (defBody st__law_number) (defScope st__law_number) .none kV6 dc6 pm6 an6 cd6 ct6), sl6⟩)
    (c6 : PySem.W.codeIn K cd6 "_law_number" = true)
    (k6 : PySem.W.keepIn K (.ref f6) = true)
    (a7 : PySem.W.nsIn K mainGlobals "_law_is_room" = some (some (.ref f7)))
    (l7 : K.lookup f7 = some ⟨oc7, od7, .func (PySem.W.fnOf "_law_is_room" "_law_is_room" (defArgs st__law_is_room) (defBody st__law_is_room) (defScope st__law_is_room) .none kV7 dc7 pm7 an7 cd7 ct7), sl7⟩)
    (c7 : PySem.W.codeIn K cd7 "_law_is_room" = true)
    (k7 : PySem.W.keepIn K (.ref f7) = true)
    (a8 : PySem.W.nsIn K mainGlobals "_law_is_end" = some (some (.ref f8)))
    (l8 : K.lookup f8 = some ⟨oc8, od8, .func (PySem.W.fnOf "_law_is_end" "_law_is_end" (defArgs st__law_is_end) (defBody st__law_is_end) (defScope st__law_is_end) .none kV8 dc8 pm8 an8 cd8 ct8), sl8⟩)
    (c8 : PySem.W.codeIn K cd8 "_law_is_end" = true)
    (k8 : PySem.W.keepIn K (.ref f8) = true)
    (a9 : PySem.W.nsIn K mainGlobals "is_word" = some (some (.ref f9)))
    (l9 : K.lookup f9 = some ⟨oc9, od9, .func (PySem.W.fnOf "is_word" "is_word" (defArgs st_is_word) (defBody st_is_word) (defScope st_is_word) .none kV9 dc9 pm9 an9 cd9 ct9), sl9⟩)
    (c9 : PySem.W.codeIn K cd9 "is_word" = true)
    (k9 : PySem.W.keepIn K (.ref f9) = true)
    (a10 : PySem.W.nsIn K mainGlobals "is_between" = some (some (.ref f10)))
    (l10 : K.lookup f10 = some ⟨oc10, od10, .func (PySem.W.fnOf "is_between" "is_between" (defArgs st_is_between) (defBody st_is_between) (defScope st_is_between) .none kV10 dc10 pm10 an10 cd10 ct10), sl10⟩)
    (c10 : PySem.W.codeIn K cd10 "is_between" = true)
    (k10 : PySem.W.keepIn K (.ref f10) = true)
    (a11 : PySem.W.nsIn K mainGlobals "is_make" = some (some (.ref f11)))
    (l11 : K.lookup f11 = some ⟨oc11, od11, .func (PySem.W.fnOf "is_make" "is_make" (defArgs st_is_make) (defBody st_is_make) (defScope st_is_make) .none kV11 dc11 pm11 an11 cd11 ct11), sl11⟩)
    (c11 : PySem.W.codeIn K cd11 "is_make" = true)
    (k11 : PySem.W.keepIn K (.ref f11) = true)
    (a12 : PySem.W.nsIn K mainGlobals "is_end" = some (some (.ref f12)))
    (l12 : K.lookup f12 = some ⟨oc12, od12, .func (PySem.W.fnOf "is_end" "is_end" (defArgs st_is_end) (defBody st_is_end) (defScope st_is_end) .none kV12 dc12 pm12 an12 cd12 ct12), sl12⟩)
    (c12 : PySem.W.codeIn K cd12 "is_end" = true)
    (k12 : PySem.W.keepIn K (.ref f12) = true)
    (a13 : PySem.W.nsIn K mainGlobals "_law_asked" = some (some (.ref f13)))
    (l13 : K.lookup f13 = some ⟨oc13, od13, .func (PySem.W.fnOf "_law_asked" "_law_asked" (defArgs st__law_asked) (defBody st__law_asked) (defScope st__law_asked) .none kV13 dc13 pm13 an13 cd13 ct13), sl13⟩)
    (c13 : PySem.W.codeIn K cd13 "_law_asked" = true)
    (k13 : PySem.W.keepIn K (.ref f13) = true)
    (a14 : PySem.W.nsIn K mainGlobals "_law_thing" = some (some (.ref f14)))
    (l14 : K.lookup f14 = some ⟨oc14, od14, .func (PySem.W.fnOf "_law_thing" "_law_thing" (defArgs st__law_thing) (defBody st__law_thing) (defScope st__law_thing) .none kV14 dc14 pm14 an14 cd14 ct14), sl14⟩)
    (c14 : PySem.W.codeIn K cd14 "_law_thing" = true)
    (k14 : PySem.W.keepIn K (.ref f14) = true)
    (a15 : PySem.W.nsIn K mainGlobals "_law_spoilt" = some (some (.ref f15)))
    (l15 : K.lookup f15 = some ⟨oc15, od15, .func (PySem.W.fnOf "_law_spoilt" "_law_spoilt" (defArgs st__law_spoilt) (defBody st__law_spoilt) (defScope st__law_spoilt) .none kV15 dc15 pm15 an15 cd15 ct15), sl15⟩)
    (c15 : PySem.W.codeIn K cd15 "_law_spoilt" = true)
    (k15 : PySem.W.keepIn K (.ref f15) = true)
    (a16 : PySem.W.nsIn K mainGlobals "law" = some (some (.ref f16)))
    (l16 : K.lookup f16 = some ⟨oc16, od16, .func (PySem.W.fnOf "law" "law" (defArgs st_law) (defBody st_law) (defScope st_law) .none kV16 dc16 pm16 an16 cd16 ct16), sl16⟩)
    (c16 : PySem.W.codeIn K cd16 "law" = true)
    (k16 : PySem.W.keepIn K (.ref f16) = true)
    (z_abs : PySem.W.nsIn K mainGlobals "abs" = some none)
    (z_all : PySem.W.nsIn K mainGlobals "all" = some none)
    (z_bool : PySem.W.nsIn K mainGlobals "bool" = some none)
    (z_divmod : PySem.W.nsIn K mainGlobals "divmod" = some none)
    (z_enumerate : PySem.W.nsIn K mainGlobals "enumerate" = some none)
    (z_int : PySem.W.nsIn K mainGlobals "int" = some none)
    (z_isinstance : PySem.W.nsIn K mainGlobals "isinstance" = some none)
    (z_len : PySem.W.nsIn K mainGlobals "len" = some none)
    (z_list : PySem.W.nsIn K mainGlobals "list" = some none)
    (z_max : PySem.W.nsIn K mainGlobals "max" = some none)
    (z_min : PySem.W.nsIn K mainGlobals "min" = some none)
    (z_range : PySem.W.nsIn K mainGlobals "range" = some none)
    (z_str : PySem.W.nsIn K mainGlobals "str" = some none)
    (z_tuple : PySem.W.nsIn K mainGlobals "tuple" = some none)
    (z_zip : PySem.W.nsIn K mainGlobals "zip" = some none)
    (g_LEAST_ROOM : PySem.W.nsIn K mainGlobals "LEAST_ROOM" = some (some (.int 24 t_LEAST_ROOM)))
    (g_MOST_HALVES : PySem.W.nsIn K mainGlobals "MOST_HALVES" = some (some (.int 20 t_MOST_HALVES)))
    (g_MOST_HOLD : PySem.W.nsIn K mainGlobals "MOST_HOLD" = some (some (.int 60 t_MOST_HOLD)))
    (g_MOST_REST : PySem.W.nsIn K mainGlobals "MOST_REST" = some (some (.int 200 t_MOST_REST)))
    (g_MOST_ROOM : PySem.W.nsIn K mainGlobals "MOST_ROOM" = some (some (.int 4000 t_MOST_ROOM)))
    (g_RULES : PySem.W.nsIn K mainGlobals "RULES" = some (some (.ref ta_RULES)))
    (gl_RULES : K.lookup ta_RULES = some ⟨.type "tuple", to_RULES, .seq (List.toArray [.str "strict" tt_RULES_0, .str "early" tt_RULES_1]) tn_RULES, ts_RULES⟩)
    (g_WAYS : PySem.W.nsIn K mainGlobals "WAYS" = some (some (.ref ta_WAYS)))
    (gl_WAYS : K.lookup ta_WAYS = some ⟨.type "tuple", to_WAYS, .seq (List.toArray [.str "new" tt_WAYS_0, .str "old" tt_WAYS_1, .str "great" tt_WAYS_2]) tn_WAYS, ts_WAYS⟩)
    : ∃ (cn : String → Addr) (fd : FuncData), (∀ (s : Shared) (v : Value), BindsTo s fd ⟨[v], []⟩ [("_law_script", v)]) ∧ ∀ base : Heap, K.In base → base.Ns mainGlobals mg → FnG l.prog w K mg base (L2.CX l.prog w) 10 fa fd ["_law_script"] (spM K cn 1 m_law) := by
  have e := hfa.symm.trans (PySem.W.mg_of X G a16)
  cases e
  obtain ⟨cn, hcn⟩ : ∃ cn, cn = cnOf [] := ⟨_, rfl⟩
  have T : Txt K mg cn := ⟨PySem.W.mg_none_of X G z_abs, PySem.W.mg_none_of X G z_all, PySem.W.mg_none_of X G z_bool, PySem.W.mg_none_of X G z_divmod, PySem.W.mg_none_of X G z_enumerate, PySem.W.mg_none_of X G z_int, PySem.W.mg_none_of X G z_isinstance, PySem.W.mg_none_of X G z_len, PySem.W.mg_none_of X G z_list, PySem.W.mg_none_of X G z_max, PySem.W.mg_none_of X G z_min, PySem.W.mg_none_of X G z_range, PySem.W.mg_none_of X G z_str, PySem.W.mg_none_of X G z_tuple, PySem.W.mg_none_of X G z_zip, ⟨_, PySem.W.mg_of X G g_LEAST_ROOM⟩, ⟨_, PySem.W.mg_of X G g_MOST_HALVES⟩, ⟨_, PySem.W.mg_of X G g_MOST_HOLD⟩, ⟨_, PySem.W.mg_of X G g_MOST_REST⟩, ⟨_, PySem.W.mg_of X G g_MOST_ROOM⟩, ⟨_, PySem.W.mg_of X G g_RULES, kt_mk gl_RULES (by simp only [List.length_cons, List.length_nil]; decide) (vals_str (vals_str .nil))⟩, ⟨_, PySem.W.mg_of X G g_WAYS, kt_mk gl_WAYS (by simp only [List.length_cons, List.length_nil]; decide) (vals_str (vals_str (vals_str .nil)))⟩⟩
  refine ⟨cn, PySem.W.fnOf "law" "law" (defArgs st_law) (defBody st_law) (defScope st_law) .none kV16 dc16 pm16 an16 cd16 ct16, fun s v => .of_eq rfl, fun base _ _ => ?_⟩
  have F0 := fun_mk (st := st__law_folded) l0 c0 k0
  have b0 := F0.binds (ps := ["_law_script", "_law_many"]) fun _ _ _ _ _ _ us hl => match us, hl with | [_, _], _ => rfl
  have M__law_folded : DefM l.prog w K mg base cn 1 "_law_folded" 2 m__law_folded_B := ⟨⟨_, _, _, rfl, ok__law_folded F0 T , PySem.W.mg_of X G a0, k0, b0⟩⟩
  have F1 := fun_mk (st := st__law_box) l1 c1 k1
  have b1 := F1.binds (ps := ["_law_script", "_law_k"]) fun _ _ _ _ _ _ us hl => match us, hl with | [_, _], _ => rfl
  have M__law_box : DefM l.prog w K mg base cn 1 "_law_box" 2 m__law_box := ⟨⟨_, _, _, rfl, ok__law_box F1 T , PySem.W.mg_of X G a1, k1, b1⟩⟩
  have F2 := fun_mk (st := st__law_take) l2 c2 k2
  have b2 := F2.binds (ps := ["_law_box_here", "_law_many"]) fun _ _ _ _ _ _ us hl => match us, hl with | [_, _], _ => rfl
  have M__law_take : DefM l.prog w K mg base cn 1 "_law_take" 2 m__law_take := ⟨⟨_, _, _, rfl, ok__law_take F2 T , PySem.W.mg_of X G a2, k2, b2⟩⟩
  have F3 := fun_mk (st := st__law_room) l3 c3 k3
  have b3 := F3.binds (ps := ["_law_box_here"]) fun _ _ _ _ _ _ us hl => match us, hl with | [_], _ => rfl
  have M__law_room : DefM l.prog w K mg base cn 2 "_law_room" 1 m__law_room := ⟨⟨_, _, _, rfl, ok__law_room F3 T (M__law_take.mono (by decide)), PySem.W.mg_of X G a3, k3, b3⟩⟩
  have F4 := fun_mk (st := st__law_end) l4 c4 k4
  have b4 := F4.binds (ps := ["_law_box_here"]) fun _ _ _ _ _ _ us hl => match us, hl with | [_], _ => rfl
  have M__law_end : DefM l.prog w K mg base cn 3 "_law_end" 1 m__law_end := ⟨⟨_, _, _, rfl, ok__law_end F4 T (M__law_take.mono (by decide)) (M__law_room.mono (by decide)), PySem.W.mg_of X G a4, k4, b4⟩⟩
  have F5 := fun_mk (st := st__law_same) l5 c5 k5
  have b5 := F5.binds (ps := ["_law_found", "_law_due"]) fun _ _ _ _ _ _ us hl => match us, hl with | [_, _], _ => rfl
  have R__law_same : ∀ j, DefM l.prog w K mg base cn (1 + j) "_law_same" 2 (r__law_same j) := fun j => by
    induction j with
    | zero => exact ⟨⟨_, _, _, rfl, okBad F5 sc__law_same, PySem.W.mg_of X G a5, k5, b5⟩⟩
    | succ j ih => exact ⟨⟨_, _, _, rfl, ok__law_same (k := 1 + j) F5 T ih , PySem.W.mg_of X G a5, k5, b5⟩⟩
  have M__law_same : DefM l.prog w K mg base cn 7 "_law_same" 2 m__law_same := R__law_same 6
  have F6 := fun_mk (st := st__law_number) l6 c6 k6
  have b6 := F6.binds (ps := ["_law_thing_here", "_law_least", "_law_most"]) fun _ _ _ _ _ _ us hl => match us, hl with | [_, _, _], _ => rfl
  have M__law_number : DefM l.prog w K mg base cn 1 "_law_number" 3 m_is_between := ⟨⟨_, _, _, rfl, ok__law_number F6 T , PySem.W.mg_of X G a6, k6, b6⟩⟩
  have F7 := fun_mk (st := st__law_is_room) l7 c7 k7
  have b7 := F7.binds (ps := ["_law_thing_here"]) fun _ _ _ _ _ _ us hl => match us, hl with | [_], _ => rfl
  have M__law_is_room : DefM l.prog w K mg base cn 2 "_law_is_room" 1 m__law_is_room := ⟨⟨_, _, _, rfl, ok__law_is_room F7 T (M__law_number.mono (by decide)), PySem.W.mg_of X G a7, k7, b7⟩⟩
  have F8 := fun_mk (st := st__law_is_end) l8 c8 k8
  have b8 := F8.binds (ps := ["_law_thing_here"]) fun _ _ _ _ _ _ us hl => match us, hl with | [_], _ => rfl
  have M__law_is_end : DefM l.prog w K mg base cn 3 "_law_is_end" 1 m__law_is_end := ⟨⟨_, _, _, rfl, ok__law_is_end F8 T (M__law_is_room.mono (by decide)) (M__law_number.mono (by decide)), PySem.W.mg_of X G a8, k8, b8⟩⟩
  have F9 := fun_mk (st := st_is_word) l9 c9 k9
  have b9 := F9.binds (ps := ["thing", "words"]) fun _ _ _ _ _ _ us hl => match us, hl with | [_, _], _ => rfl
  have M_is_word : DefM l.prog w K mg base cn 1 "is_word" 2 m_is_word := ⟨⟨_, _, _, rfl, ok_is_word F9 T , PySem.W.mg_of X G a9, k9, b9⟩⟩
  have F10 := fun_mk (st := st_is_between) l10 c10 k10
  have b10 := F10.binds (ps := ["thing", "least", "most"]) fun _ _ _ _ _ _ us hl => match us, hl with | [_, _, _], _ => rfl
  have M_is_between : DefM l.prog w K mg base cn 1 "is_between" 3 m_is_between := ⟨⟨_, _, _, rfl, ok_is_between F10 T , PySem.W.mg_of X G a10, k10, b10⟩⟩
  have F11 := fun_mk (st := st_is_make) l11 c11 k11
  have b11 := F11.binds (ps := ["thing"]) fun _ _ _ _ _ _ us hl => match us, hl with | [_], _ => rfl
  have M_is_make : DefM l.prog w K mg base cn 2 "is_make" 1 m_is_make := ⟨⟨_, _, _, rfl, ok_is_make F11 T (M_is_word.mono (by decide)) (M_is_between.mono (by decide)), PySem.W.mg_of X G a11, k11, b11⟩⟩
  have F12 := fun_mk (st := st_is_end) l12 c12 k12
  have b12 := F12.binds (ps := ["thing"]) fun _ _ _ _ _ _ us hl => match us, hl with | [_], _ => rfl
  have M_is_end : DefM l.prog w K mg base cn 3 "is_end" 1 m_is_end := ⟨⟨_, _, _, rfl, ok_is_end F12 T (M_is_make.mono (by decide)) (M_is_between.mono (by decide)), PySem.W.mg_of X G a12, k12, b12⟩⟩
  have F13 := fun_mk (st := st__law_asked) l13 c13 k13
  have b13 := F13.binds (ps := ["_law_thing_here"]) fun _ _ _ _ _ _ us hl => match us, hl with | [_], _ => rfl
  have M__law_asked : DefM l.prog w K mg base cn 8 "_law_asked" 1 m__law_asked := ⟨⟨_, _, _, rfl, ok__law_asked F13 T (M__law_same.mono (by decide)) (M__law_is_end.mono (by decide)) (M_is_end.mono (by decide)) (M__law_is_room.mono (by decide)) (M_is_make.mono (by decide)), PySem.W.mg_of X G a13, k13, b13⟩⟩
  have F14 := fun_mk (st := st__law_thing) l14 c14 k14
  have b14 := F14.binds (ps := ["_law_box_here", "_law_part"]) fun _ _ _ _ _ _ us hl => match us, hl with | [_, _], _ => rfl
  have M__law_thing : DefM l.prog w K mg base cn 2 "_law_thing" 2 m__law_thing := ⟨⟨_, _, _, rfl, ok__law_thing F14 T (M__law_take.mono (by decide)), PySem.W.mg_of X G a14, k14, b14⟩⟩
  have F15 := fun_mk (st := st__law_spoilt) l15 c15 k15
  have b15 := F15.binds (ps := ["_law_box_here", "_law_thing_here"]) fun _ _ _ _ _ _ us hl => match us, hl with | [_, _], _ => rfl
  have R__law_spoilt : ∀ j, DefM l.prog w K mg base cn (3 + j) "_law_spoilt" 2 (r__law_spoilt j) := fun j => by
    induction j with
    | zero => exact ⟨⟨_, _, _, rfl, okBad F15 sc__law_spoilt, PySem.W.mg_of X G a15, k15, b15⟩⟩
    | succ j ih => exact ⟨⟨_, _, _, rfl, ok__law_spoilt (k := 3 + j) F15 T ih (M__law_take.mono (by omega)) (M__law_thing.mono (by omega)), PySem.W.mg_of X G a15, k15, b15⟩⟩
  have M__law_spoilt : DefM l.prog w K mg base cn 9 "_law_spoilt" 2 m__law_spoilt := R__law_spoilt 6
  have F16 := fun_mk (st := st_law) l16 c16 k16
  exact ok_law F16 T (M__law_folded.mono (by decide)) (M__law_box.mono (by decide)) (M__law_end.mono (by decide)) (M__law_asked.mono (by decide)) (M_is_end.mono (by decide)) (M__law_spoilt.mono (by decide)) (M__law_take.mono (by decide))
end K58

namespace K58
open PySem L2 PyProof.Rows Mi
def endB : Val → Bool
  | .tup [r, a, b, c, d, e, f] => makeB r && isNum 1 999 a && isNum 0 500 b && isNum 24 400 c && isNum 1 5 d && isNum 1 60 e && isNum 0 500 f
  | _ => false
theorem tup7 (l : List Val) : (∃ a b c d e f g, l = [a, b, c, d, e, f, g]) ∨ (¬ (l.length : Int) = 7 ∧ endB (.tup l) = false) := by
  rcases l with _ | ⟨_, _ | ⟨_, _ | ⟨_, _ | ⟨_, _ | ⟨_, _ | ⟨_, _ | ⟨_, _ | _⟩⟩⟩⟩⟩⟩⟩
  all_goals first
    | exact .inl ⟨_, _, _, _, _, _, _, rfl⟩
    | exact .inr ⟨by simp; try omega, rfl⟩
def nbV : Val → Val
  | .tup [x, .tup [.int a, .int b]] => .bl (isNum a b x)
  | _ => .non
theorem end_eq {d : Nat} {v : Val} {h : MH} (hv : okD d v = true) : m_is_end [v] h = .ok (.bl (endB v)) h := wp_eq (runF_wp (by
  rcases okD_cases hv with rfl | ⟨c, rfl⟩ | ⟨i, rfl⟩ | ⟨s, rfl, _⟩ | ⟨l, e, rfl, rfl, hl, ho⟩ | ⟨l, e, rfl, _⟩
  · simp [b_is_end, endB]
  · simp [b_is_end, endB]
  · simp [b_is_end, endB]
  · simp [b_is_end, endB]
  · rcases tup7 l with ⟨r, a, b, c, d, f, g, rfl⟩ | ⟨z, zb⟩
    · have er := make_eq (h := h) (ho r (by simp))
      have c1 : cutL [r, a, b, c, d, f, g] (some (1 : Int)) none = [a, b, c, d, f, g] := by rw [cut_from (by omega)]; rfl
      cases zr : makeB r with
      | false => simp [b_is_end, endB, er, zr]
      | true =>
        have ea := fun h => btw_eq (h := h) (a := 1) (b := 999) (ho a (by simp))
        have eb := fun h => btw_eq (h := h) (a := 0) (b := 500) (ho b (by simp))
        have ec := fun h => btw_eq (h := h) (a := 24) (b := 400) (ho c (by simp))
        have ed := fun h => btw_eq (h := h) (a := 1) (b := 5) (ho d (by simp))
        have ef := fun h => btw_eq (h := h) (a := 1) (b := 60) (ho f (by simp))
        have eg := fun h => btw_eq (h := h) (a := 0) (b := 500) (ho g (by simp))
        simp [b_is_end, er, zr, c1, okWipe, notOwn, wipeM, zipF]
        rw [lc_map nbV (fun _ => true) _ _ (by simp) (fun v hv => ?_)]
        · simp [nbV, endB, zr, bolsOf]
          simp only [Bool.and_assoc]
        · simp only [List.mem_cons, List.not_mem_nil, or_false] at hv
          rcases hv with rfl | rfl | rfl | rfl | rfl | rfl <;> simp [nbV, ea, eb, ec, ed, ef, eg]
    · simp [b_is_end, zb, z, hl]
  · simp [b_is_end, endB]))
theorem lroom_eq {d : Nat} {v : Val} {h : MH} (hv : okD d v = true) : m__law_is_room [v] h = .ok (.bl (makeB v)) h := wp_eq (runF_wp (by
  have w1 : txOk wStrict = true := by decide
  have w2 : txOk wEarly = true := by decide
  have w3 : txOk wNew = true := by decide
  have w4 : txOk wOld = true := by decide
  have w5 : txOk wGreat = true := by decide
  rcases okD_cases hv with rfl | ⟨c, rfl⟩ | ⟨i, rfl⟩ | ⟨s, rfl, _⟩ | ⟨l, e, rfl, rfl, hl, ho⟩ | ⟨l, e, rfl, _⟩
  · simp [b__law_is_room, makeB]
  · simp [b__law_is_room, makeB]
  · simp [b__law_is_room, makeB]
  · simp [b__law_is_room, makeB]
  · rcases tup6 l with ⟨r, a, b, c, d, g, rfl⟩ | z
    · have c1 : cutL [r, a, b, c, d, g] (some (1 : Int)) (some (5 : Int)) = [a, b, c, d] := by rw [cut_mid (by omega) (by omega)]; rfl
      have ea := fun h => btw_eq (h := h) (a := 1) (b := 60) (ho a (by simp))
      have eb := fun h => btw_eq (h := h) (a := 0) (b := 200) (ho b (by simp))
      have ec := fun h => btw_eq (h := h) (a := 24) (b := 4000) (ho c (by simp))
      have ed := fun h => btw_eq (h := h) (a := 1) (b := 20) (ho d (by simp))
      by_cases qr : ∃ s, r = .str s
      · obtain ⟨s, rfl⟩ := qr
        have ts := (okD_str (ho (.str s) (by simp))).1
        by_cases qg : ∃ t, g = .str t
        · obtain ⟨t, rfl⟩ := qg
          have tt := (okD_str (ho (.str t) (by simp))).1
          cases z1 : wordB [wStrict, wEarly] (.str s) with
          | false =>
            simp [b__law_is_room, makeB, z1, ts, tt, w1, w2, inV?]
            refine ch_go (by simpa [wordB] using z1) ?_
            simp [makeB, z1]
          | true =>
            have y1 : ¬ (¬ wStrict = s ∧ ¬ wEarly = s) := by simp [wordB] at z1; intro q; exact z1.elim q.1 q.2
            cases z2 : wordB [wNew, wOld, wGreat] (.str t) with
            | false =>
              simp [b__law_is_room, makeB, z1, z2, ts, tt, w1, w2, w3, w4, w5, inV?]
              refine ch_no y1 ?_
              simp [ts, tt, w3, w4, w5, inV?]
              refine ch_go (by simpa [wordB] using z2) ?_
              simp [makeB, z1, z2]
            | true =>
              have y2 : ¬ (¬ wNew = t ∧ ¬ wOld = t ∧ ¬ wGreat = t) := by
                simp [wordB] at z2
                intro q
                exact z2.elim q.1 fun z => z.elim q.2.1 q.2.2
              simp [b__law_is_room, makeB, z1, z2, ts, tt, w1, w2, w3, w4, w5, inV?]
              refine ch_no y1 ?_
              simp [ts, tt, w3, w4, w5, inV?]
              refine ch_no y2 ?_
              simp [c1, okWipe, notOwn, wipeM, zipF]
              rw [lc_map nbV (fun _ => true) _ _ (by simp) (fun v hv => ?_)]
              · simp [nbV, bolsOf, makeB, z1, z2, Bool.and_assoc]
              · simp only [List.mem_cons, List.not_mem_nil, or_false] at hv
                rcases hv with rfl | rfl | rfl | rfl <;> simp [nbV, ea, eb, ec, ed]
        · have : makeB (.tup [.str s, a, b, c, d, g]) = false := by
            cases g <;> first | exact absurd ⟨_, rfl⟩ qg | simp [makeB, wordB]
          rw [this]
          rcases okD_cases (ho g (by simp)) with rfl | ⟨x, rfl⟩ | ⟨x, rfl⟩ | ⟨x, rfl, _⟩ | ⟨x, y, rfl, _⟩ | ⟨x, y, rfl, _⟩ <;> first | exact absurd ⟨_, rfl⟩ qg | simp [b__law_is_room]
      · have : makeB (.tup [r, a, b, c, d, g]) = false := by
          cases r <;> first | exact absurd ⟨_, rfl⟩ qr | simp [makeB, wordB]
        rw [this]
        rcases okD_cases (ho r (by simp)) with rfl | ⟨x, rfl⟩ | ⟨x, rfl⟩ | ⟨x, rfl, _⟩ | ⟨x, y, rfl, _⟩ | ⟨x, y, rfl, _⟩ <;> first | exact absurd ⟨_, rfl⟩ qr | simp [b__law_is_room]
    · have z' : ¬ (l.length : Int) = 6 := by omega
      simp [b__law_is_room, makeB_no z, z', hl]
  · simp [b__law_is_room, makeB]))

theorem lend_eq {d : Nat} {v : Val} {h : MH} (hv : okD d v = true) : m__law_is_end [v] h = .ok (.bl (endB v)) h := wp_eq (runF_wp (by
  rcases okD_cases hv with rfl | ⟨c, rfl⟩ | ⟨i, rfl⟩ | ⟨s, rfl, _⟩ | ⟨l, e, rfl, rfl, hl, ho⟩ | ⟨l, e, rfl, _⟩
  · simp [b__law_is_end, endB]
  · simp [b__law_is_end, endB]
  · simp [b__law_is_end, endB]
  · simp [b__law_is_end, endB]
  · rcases tup7 l with ⟨r, a, b, c, d, f, g, rfl⟩ | ⟨z, zb⟩
    · have er := lroom_eq (h := h) (ho r (by simp))
      have c1 : cutL [r, a, b, c, d, f, g] (some (1 : Int)) none = [a, b, c, d, f, g] := by rw [cut_from (by omega)]; rfl
      cases zr : makeB r with
      | false => simp [b__law_is_end, endB, er, zr]
      | true =>
        have ea := fun h => btw_eq (h := h) (a := 1) (b := 999) (ho a (by simp))
        have eb := fun h => btw_eq (h := h) (a := 0) (b := 500) (ho b (by simp))
        have ec := fun h => btw_eq (h := h) (a := 24) (b := 400) (ho c (by simp))
        have ed := fun h => btw_eq (h := h) (a := 1) (b := 5) (ho d (by simp))
        have ef := fun h => btw_eq (h := h) (a := 1) (b := 60) (ho f (by simp))
        have eg := fun h => btw_eq (h := h) (a := 0) (b := 500) (ho g (by simp))
        simp [b__law_is_end, er, zr, c1, okWipe, notOwn, wipeM, zipF]
        rw [lc_map nbV (fun _ => true) _ _ (by simp) (fun v hv => ?_)]
        · simp [nbV, endB, zr, bolsOf]
          simp only [Bool.and_assoc]
        · simp only [List.mem_cons, List.not_mem_nil, or_false] at hv
          rcases hv with rfl | rfl | rfl | rfl | rfl | rfl <;> simp [nbV, ea, eb, ec, ed, ef, eg]
    · simp [b__law_is_end, zb, z, hl]
  · simp [b__law_is_end, endB]))
theorem same_bl {a b : Bool} {h : MH} : m__law_same [.bl a, .bl b] h = .ok (.bl (a == b)) h := by
  show runF 4 (b__law_same (r__law_same 5)) [.bl a, .bl b] h = _
  refine wp_eq (runF_wp ?_)
  cases a <;> cases b <;> simp [b__law_same, isiTV]
theorem asked_eq {d : Nat} {v : Val} {h : MH} (hv : okD d v = true) : m__law_asked [v] h = .ok (.bl true) h := wp_eq (runF_wp (by
  have e1 := end_eq (h := h) hv
  have e2 := lend_eq (h := h) hv
  have e3 := make_eq (h := h) hv
  have e4 := lroom_eq (h := h) hv
  have r : rangeL 0 2 = [.int 0, .int 1] := rfl
  simp [b__law_asked, r]
  refine for_cons ?_
  simp [e1, e2, e3, e4, same_bl]
  refine for_cons ?_
  simp [e1, e2, e3, e4, same_bl]
  refine for_nil ?_
  rcases okD_cases hv with rfl | ⟨c, rfl⟩ | ⟨i, rfl⟩ | ⟨s, rfl, _⟩ | ⟨l, e, rfl, rfl, hl, ho⟩ | ⟨l, e, rfl, _⟩
  · simp
  · simp
  · simp
  · simp
  · cases l with
    | nil => simp
    | cons x l =>
      have e5 := make_eq (h := h) (ho x (by simp))
      have e6 := lroom_eq (h := h) (ho x (by simp))
      simp at hl
      simp [hl]
      simp [e5, e6, same_bl, lift]
  · simp))
/-! ### things of signs below 128 -/
def ascM (m : Nat) (s : Tx) : Bool := s.all (fun c => decide (c < 128)) && decide (s.length ≤ m)
def okA : Nat → Nat → Val → Bool
  | _, _, .non => true
  | _, _, .bl _ => true
  | _, _, .int _ => true
  | _, m, .str s => ascM m s
  | n + 1, m, .tup l => decide (l.length ≤ m) && l.all (okA n m)
  | n + 1, m, .lst l => decide (l.length ≤ m) && l.all (okA n m)
  | _, _, _ => false
@[simp] theorem okA_non {d m : Nat} : okA d m .non = true := by cases d <;> rfl
@[simp] theorem okA_bl {d m : Nat} {b : Bool} : okA d m (.bl b) = true := by cases d <;> rfl
@[simp] theorem okA_int {d m : Nat} {i : Int} : okA d m (.int i) = true := by cases d <;> rfl
@[simp] theorem okA_str {d m : Nat} {s : Tx} : okA d m (.str s) = ascM m s := by cases d <;> rfl
@[simp] theorem okA_tup {d m : Nat} {l : List Val} : okA (d + 1) m (.tup l) = (decide (l.length ≤ m) && l.all (okA d m)) := rfl
@[simp] theorem okA_lst {d m : Nat} {l : List Val} : okA (d + 1) m (.lst l) = (decide (l.length ≤ m) && l.all (okA d m)) := rfl
@[simp] theorem okA_tup0 {m : Nat} {l : List Val} : okA 0 m (.tup l) = false := rfl
@[simp] theorem okA_lst0 {m : Nat} {l : List Val} : okA 0 m (.lst l) = false := rfl
@[simp] theorem okA_ref {d m n : Nat} : okA d m (.ref n) = false := by cases d <;> rfl
@[simp] theorem okA_exc {d m : Nat} {c : String} {f : Option Val} : okA d m (.exc c f) = false := by cases d <;> rfl
@[simp] theorem okA_ktp {d m : Nat} {l : List Val} : okA d m (.ktp l) = false := by cases d <;> rfl
theorem ascM_mono {m k : Nat} {s : Tx} (h : m ≤ k) (a : ascM m s = true) : ascM k s = true := by
  simp [ascM] at a ⊢
  exact ⟨a.1, by omega⟩
theorem okA_mono : ∀ {d e m k : Nat} {v : Val}, d ≤ e → m ≤ k → okA d m v = true → okA e k v = true
  | d, e, m, k, .non, _, _, _ => by simp
  | d, e, m, k, .bl _, _, _, _ => by simp
  | d, e, m, k, .int _, _, _, _ => by simp
  | d, e, m, k, .str s, _, h2, h => by simp at h ⊢; exact ascM_mono h2 h
  | 0, e, m, k, .tup l, _, _, h => by simp at h
  | 0, e, m, k, .lst l, _, _, h => by simp at h
  | d + 1, 0, m, k, v, h1, _, _ => by omega
  | d + 1, e + 1, m, k, .tup l, h1, h2, h => by
    simp at h ⊢
    exact ⟨by omega, fun x hx => okA_mono (by omega) h2 (h.2 x hx)⟩
  | d + 1, e + 1, m, k, .lst l, h1, h2, h => by
    simp at h ⊢
    exact ⟨by omega, fun x hx => okA_mono (by omega) h2 (h.2 x hx)⟩
  | d, e, m, k, .ref _, _, _, h => by simp at h
  | d, e, m, k, .exc _ _, _, _, h => by simp at h
  | d, e, m, k, .ktp _, _, _, h => by simp at h
theorem ascM_ok {m : Nat} {s : Tx} (a : ascM m s = true) : txOk s = true ∧ s.length ≤ m := by
  simp [ascM] at a
  exact ⟨txOk_of fun c hc => by have := a.1 c hc; omega, a.2⟩
theorem okA_okD : ∀ {d m : Nat} {v : Val}, m ≤ 16777216 → okA d m v = true → okD d v = true
  | d, m, .non, _, _ => by cases d <;> rfl
  | d, m, .bl _, _, _ => by cases d <;> rfl
  | d, m, .int _, _, _ => by cases d <;> rfl
  | d, m, .str s, h2, h => by simp at h; have := ascM_ok h; cases d <;> (simp [okD]; exact ⟨this.1, by omega⟩)
  | 0, m, .tup l, _, h => by simp at h
  | 0, m, .lst l, _, h => by simp at h
  | d + 1, m, .tup l, h2, h => by
    simp at h
    simp [okD]
    exact ⟨by omega, fun x hx => okA_okD h2 (h.2 x hx)⟩
  | d + 1, m, .lst l, h2, h => by
    simp at h
    simp [okD]
    exact ⟨by omega, fun x hx => okA_okD h2 (h.2 x hx)⟩
  | d, m, .ref _, _, h => by simp at h
  | d, m, .exc _ _, _, h => by simp at h
  | d, m, .ktp _, _, h => by simp at h
theorem ixB {l : List Val} {u a b : Int} {h : MH} {Q : Kt Val} {X : Kx} (u0 : 0 ≤ u) (u1 : u < l.length) (ho : l.all (isNum a b) = true) (k : ∀ i, a ≤ i → i ≤ b → Q.run (.int i) h) : (opIx (.lst l) (.int u) h).wp :=
  ixW (fun v => isNum a b v = true) u0 u1 (fun x hx => List.all_eq_true.mp ho x hx) fun x ox => by
    cases x with
    | int i => simp [isNum] at ox; exact k i ox.1 ox.2
    | _ => cases ox
theorem room_wp {h : MH} {n c : Nat} {Q : Kt Val} {X : Kx} (hb : Box h n c) (hc : c ≤ 900000)
    (k : ∀ v h', okA 1 7 v = true → makeB v = true → Box h' n (c + 10) → Onl n h h' → Q.run v h') : (m__law_room [.ref n] h).wp := by
  refine runF_wp ?_
  simp [b__law_room]
  refine take_wp hb (by decide) (by decide) (by omega) fun u h1 u0 u1 hb1 o1 => ?_
  simp [-opIx]
  refine ixW (fun v => ∃ s, v = .str s ∧ ascM 7 s = true ∧ wordB [wStrict, wEarly] (.str s) = true) u0 (by simpa using u1) ?_ fun x ⟨r, er, r1, r3⟩ => ?_
  · intro x hx
    simp at hx
    rcases hx with rfl | rfl <;> exact ⟨_, rfl, by decide, by decide⟩
  subst er
  simp
  refine take_wp hb1 (by decide) (by decide) (by omega) fun v h2 v0 v1 hb2 o2 => ?_
  simp [-opIx]
  refine ixW (fun v => ∃ s, v = .str s ∧ ascM 7 s = true ∧ wordB [wNew, wOld, wGreat] (.str s) = true) v0 (by simpa using v1) ?_ fun x ⟨y, ey, y1, y3⟩ => ?_
  · intro x hx
    simp at hx
    rcases hx with rfl | rfl | rfl <;> exact ⟨_, rfl, by decide, by decide⟩
  subst ey
  simp
  refine take_wp hb2 (by decide) (by decide) (by omega) fun v h3 v0 v1 hb3 o3 => ?_
  simp [-opIx]
  refine ixB (a := 1) (b := 60) v0 (by simpa using v1) (by decide) fun i i0 i1 => ?_
  simp
  refine take_wp hb3 (by omega) (by omega) (by omega) fun hd h4 q0 q1 hb4 o4 => ?_
  simp
  refine take_wp hb4 (by decide) (by decide) (by omega) fun v h5 v0 v1 hb5 o5 => ?_
  simp [-opIx]
  refine ixB (a := 1) (b := 201) v0 (by simpa using v1) (by decide) fun i2 j0 j1 => ?_
  simp
  refine take_wp hb5 (by omega) (by omega) (by omega) fun rs h6 r0 r1' hb6 o6 => ?_
  simp
  refine take_wp hb6 (by decide) (by decide) (by omega) fun v h7 v0 v1 hb7 o7 => ?_
  simp [-opIx]
  refine ixB (a := 1) (b := 3977) v0 (by simpa using v1) (by decide) fun i3 k0 k1 => ?_
  simp
  refine take_wp hb7 (by omega) (by omega) (by omega) fun ms h8 m0 m1 hb8 o8 => ?_
  simp
  refine take_wp hb8 (by decide) (by decide) (by omega) fun v h9 v0 v1 hb9 o9 => ?_
  simp [-opIx]
  refine ixB (a := 1) (b := 20) v0 (by simpa using v1) (by decide) fun i4 l0 l1 => ?_
  simp
  refine take_wp hb9 (by omega) (by omega) (by omega) fun cn h10 n0 n1 hb10 o10 => ?_
  simp
  refine k _ h10 ?_ ?_ hb10 (((((((((o1.trans o2).trans o3).trans o4).trans o5).trans o6).trans o7).trans o8).trans o9).trans o10)
  · simp [r1, y1]
  · simp [makeB, r3, y3, isNum]
    omega
theorem end_wp {h : MH} {n c : Nat} {Q : Kt Val} {X : Kx} (hb : Box h n c) (hc : c ≤ 800000)
    (k : ∀ r l h', okA 2 7 (.tup (r :: l)) = true → l.length ≤ 6 → endB (.tup (r :: l)) = true → Box h' n (c + 30) → Onl n h h' → Q.run (.tup (r :: l)) h') : (m__law_end [.ref n] h).wp := by
  refine runF_wp ?_
  simp [b__law_end]
  refine room_wp hb (by omega) fun r h1 or mr hb1 o1 => ?_
  simp
  refine take_wp hb1 (by decide) (by decide) (by omega) fun v h2 v0 v1 hb2 o2 => ?_
  simp [-opIx]
  refine ixB (a := 1) (b := 999) v0 (by simpa using v1) (by decide) fun i1 i0 i1' => ?_
  simp
  refine take_wp hb2 (by omega) (by omega) (by omega) fun a h3 a0 a1 hb3 o3 => ?_
  simp
  refine take_wp hb3 (by decide) (by decide) (by omega) fun v h4 v0 v1 hb4 o4 => ?_
  simp [-opIx]
  refine ixB (a := 1) (b := 501) v0 (by simpa using v1) (by decide) fun i2 j0 j1 => ?_
  simp
  refine take_wp hb4 (by omega) (by omega) (by omega) fun b h5 b0 b1 hb5 o5 => ?_
  simp
  refine take_wp hb5 (by decide) (by decide) (by omega) fun v h6 v0 v1 hb6 o6 => ?_
  simp [-opIx]
  refine ixB (a := 1) (b := 377) v0 (by simpa using v1) (by decide) fun i3 k0 k1 => ?_
  simp
  refine take_wp hb6 (by omega) (by omega) (by omega) fun e h7 e0 e1 hb7 o7 => ?_
  simp
  refine take_wp hb7 (by decide) (by decide) (by omega) fun f h8 f0 f1 hb8 o8 => ?_
  simp
  refine take_wp hb8 (by decide) (by decide) (by omega) fun g h9 g0 g1 hb9 o9 => ?_
  simp
  refine take_wp hb9 (by decide) (by decide) (by omega) fun v h10 v0 v1 hb10 o10 => ?_
  simp [-opIx]
  refine ixB (a := 1) (b := 501) v0 (by simpa using v1) (by decide) fun i4 l0 l1 => ?_
  simp
  refine take_wp hb10 (by omega) (by omega) (by omega) fun w h11 w0 w1 hb11 o11 => ?_
  simp
  refine k r _ h11 ?_ (by simp) ?_ (hb11.mono (by omega)) ((((((((((o1.trans o2).trans o3).trans o4).trans o5).trans o6).trans o7).trans o8).trans o9).trans o10).trans o11)
  · simp [okA_mono (e := 1) (k := 7) (by omega) (by omega) or]
  · simp [endB, mr, isNum]
    omega
theorem fin_wp {d m : Nat} {w f : Int} {h : MH} {Q : Kt Val} {X : Kx} (hm : 7 ≤ m) (k : ∀ x, okA (d + 1) (m + 1) x = true → Q.run x h) : (opIx (.lst [.non, .bl true, .bl false, .str [49], .tup [], .lst [], .tup [.int 1], .tup [.str [115, 116, 114, 105, 99, 116]], .int (-1)]) (.int ((w + 3 * f) % 9)) h).wp := by
  refine ixW (fun v => okA (d + 1) (m + 1) v = true) (by omega) (by simp; omega) ?_ fun x ox => k x ox
  intro x hx
  simp at hx
  rcases hx with rfl | rfl | rfl | rfl | rfl | rfl | rfl | rfl | rfl <;> simp [ascM] <;> omega
theorem thing_wp {h : MH} {n c d m : Nat} {v : Val} {Q : Kt Val} {X : Kx} (hb : Box h n c) (hc : c ≤ 800000) (hm : 7 ≤ m) (hm2 : m ≤ 10000) (hv : okA d m v = true)
    (k : ∀ x h', okA (d + 1) (m + 1) x = true → Box h' n (c + 3) → Onl n h h' → Q.run x h') : (m__law_thing [.ref n, v] h).wp := by
  refine runF_wp ?_
  simp [b__law_thing]
  refine take_wp hb (by decide) (by decide) (by omega) fun w h1 w0 w1 hb1 o1 => ?_
  simp
  refine take_wp hb1 (by decide) (by decide) (by omega) fun f h2 f0 f1 hb2 o2 => ?_
  have oo := o1.trans o2
  have kf : ∀ x, okA (d + 1) (m + 1) x = true → Q.run x h2 := fun x ox => k x h2 ox (hb2.mono (by omega)) oo
  rcases okD_cases (okA_okD (by omega) hv) with rfl | ⟨c, rfl⟩ | ⟨i, rfl⟩ | ⟨s, rfl, _⟩ | ⟨l, e, rfl, rfl, hl, ho⟩ | ⟨l, e, rfl, _⟩
  · simp [-opIx]
    exact fin_wp hm kf
  · simp [-opIx]
    exact fin_wp hm kf
  · simp [-opIx]
    refine ch_of (fun z => ?_) fun z => ?_
    · simp [-opIx]
      refine take_wp (m := 20) hb2 (by decide) (by decide) (by omega) fun u h3 u0 u1 hb3 o3 => ?_
      simp [-opIx]
      refine ixB (a := 0) (b := 4001) u0 (by simpa using u1) (by decide) fun j j0 j1 => ?_
      simp [-opIx]
      refine ixW (fun v => ∃ i, v = .int i) w0 (by simp; omega) (by intro x hx; simp at hx; rcases hx with rfl | rfl | rfl | rfl | rfl <;> exact ⟨_, rfl⟩) fun x ⟨b, e⟩ => ?_
      subst e
      exact k _ h3 (by simp) (hb3.mono (by omega)) (oo.trans o3)
    · simp [-opIx]
      exact fin_wp hm kf
  · have ts := ascM_ok (by simpa using hv)
    simp [-opIx]
    refine ch_of (fun z => ?_) fun z => ?_
    · have ea : ascB s = true := by
        simp [ascM] at hv
        simp [ascB]
        exact ⟨hv.1, by omega⟩
      have el : (s ++ [115]).length ≤ 16777216 := by simp; omega
      simp at el
      simp [-opIx, ea, el]
      refine ch_go (by omega) ?_
      simp [-opIx, ea, el]
      refine take_wp (m := 9) hb2 (by decide) (by decide) (by omega) fun u h3 u0 u1 hb3 o3 => ?_
      refine ixW (fun v => okA (d + 1) (m + 1) v = true) u0 (by simpa using u1) ?_ fun x ox => k x h3 ox hb3 (oo.trans o3)
      have h1 : cutL s none (some (-1)) = s.dropLast := by
        rcases List.eq_nil_or_concat s with rfl | ⟨t, x, rfl⟩
        · rfl
        · rw [List.concat_eq_append, cut_init]; simp
      have hu : ∀ c, c < 128 → upC c < 128 := by intro c hc; unfold upC; split <;> omega
      simp [ascM] at hv
      intro x hx
      simp [h1] at hx
      rcases hx with rfl | rfl | rfl | rfl | rfl | rfl | rfl | rfl | rfl
      · simp [ascM]; omega
      · simp [ascM]; omega
      · simp [ascM]; omega
      · simp [ascM]; omega
      · simp [ascM]; omega
      · simp [ascM]
      · simp [ascM]; exact ⟨hv.1, by omega⟩
      · simp [ascM]; exact ⟨fun c hc => hv.1 c (List.dropLast_subset _ hc), by omega⟩
      · simp [ascM]; exact ⟨fun c hc => hu c (hv.1 c hc), by omega⟩
    · simp [-opIx]
      exact fin_wp hm kf
  · obtain ⟨hl2, ho2⟩ : l.length ≤ m ∧ ∀ x ∈ l, okA e m x = true := by simpa using hv
    have hx : ∀ {d : Nat}, e ≤ d → ∀ x ∈ l, okA d (m + 1) x = true := fun hd x hx => okA_mono hd (by omega) (ho2 x hx)
    simp [-opIx]
    refine ch_of (fun z => ?_) fun z => ?_
    · have c1 : cutL l (some (1 : Int)) none = l.drop 1 := by rw [cut_from (by omega)]; rfl
      have c2 : cutL l none (some (1 : Int)) = l.take 1 := by rw [cut_to (by omega)]; rfl
      have el : l.length + min 1 l.length ≤ 16777216 := by omega
      simp [-opIx, c1, c2, el, ltV]
      refine ixW (fun v => okA (e + 1 + 1) (m + 1) v = true) w0 (by simp; omega) ?_ kf
      intro x hx'
      simp at hx'
      rcases hx' with rfl | rfl | rfl
      · simp; exact ⟨by omega, hx (by omega)⟩
      · simp; exact ⟨by omega, fun x h => hx (by omega) x (List.mem_of_mem_drop (i := 1) (by simpa using h))⟩
      · simp; exact ⟨by omega, hx (by omega), fun x h => hx (by omega) x (List.mem_of_mem_take h)⟩
    · simp [-opIx]
      exact fin_wp hm kf
  · simp [-opIx]
    exact fin_wp hm kf

theorem okT_row {d m : Nat} {l : List Val} (h : okA (d + 1) m (.tup l) = true) : l.length ≤ m ∧ ∀ x ∈ l, okA d m x = true := by simpa using h
theorem sp1_wp {rec : MF} {h : MH} {n c d m i : Nat} {l : List Val} {s2 s4 s5 s6 : Slot} {K : KS} (hb : Box h n c) (hc : c ≤ 800000) (hm : 7 ≤ m) (hm2 : m ≤ 10000) (hv : okA (d + 1) m (.tup l) = true) (hi : i < l.length)
    (k : ∀ r h', okA (d + 2) (m + 1) (.tup r) = true → Box h' n (c + 5) → Onl n h h' → K.rt (.tup r) h') : @SRes.wp (b__law_spoilt_1 rec [.val (.ref n), .val (.tup l), s2, .val (.int (i : Nat)), s4, s5, s6] h) K := by
  obtain ⟨hl, ho⟩ := okT_row hv
  have e1 : cutL l none (some (i : Int)) = l.take i := by rw [cut_to (by omega)]; rfl
  have e2 : cutL l (some ((i : Int) + 1)) none = l.drop (i + 1) := by rw [cut_from (by omega), show ((i : Int) + 1).toNat = i + 1 by omega]
  simp [b__law_spoilt_1, -opIx, e1, e2]
  refine ixT (· ∈ l) (by omega) (by omega) (fun _ h => h) fun y hy => ?_
  simp
  refine thing_wp hb hc hm hm2 (ho y hy) fun x h' ox hb' o' => ?_
  simp
  iterate 4 (all_goals try (refine ch_go (by first | omega | (simp; omega)) ?_; try simp [e1, e2]))
  refine k _ h' ?_ (hb'.mono (by omega)) o'
  simp
  exact ⟨by omega, fun x h => okA_mono (by omega) (by omega) (ho x (List.mem_of_mem_take h)), ox, fun x h => okA_mono (by omega) (by omega) (ho x (List.mem_of_mem_drop h))⟩
theorem sp2_wp {rec : MF} {h : MH} {n c d m i : Nat} {w : Int} {l : List Val} {s4 s5 s6 : Slot} {K : KS} (hb : Box h n c) (hc : c ≤ 700000) (hm : 7 ≤ m) (hm2 : m ≤ 10000) (hv : okA (d + 1) m (.tup l) = true) (hi : i < l.length)
    (k : ∀ r h', okA (d + 2) (m + 1) (.tup r) = true → Box h' n (c + 6) → Onl n h h' → K.rt (.tup r) h') : @SRes.wp (b__law_spoilt_2 rec [.val (.ref n), .val (.tup l), .val (.int w), .val (.int (i : Nat)), s4, s5, s6] h) K := by
  obtain ⟨hl, ho⟩ := okT_row hv
  simp [b__law_spoilt_2]
  refine ch_of (fun z => ?_) fun z => ?_
  · simp [show l.length ≤ 16777216 by omega]
    refine take_wp hb (by omega) (by omega) (by omega) fun u h1 u0 u1 hb1 o1 => ?_
    obtain ⟨j, rfl⟩ := Int.eq_ofNat_of_zero_le u0
    have hT : ∀ {j : Nat} x, x ∈ l.take j → okA (d + 1) (m + 1) x = true := fun x h => okA_mono (by omega) (by omega) (ho x (List.mem_of_mem_take h))
    have hD : ∀ {j : Nat} x, x ∈ l.drop j → okA (d + 1) (m + 1) x = true := fun x h => okA_mono (by omega) (by omega) (ho x (List.mem_of_mem_drop h))
    have swap : ∀ a b : Nat, a < b → b < l.length → ∀ {s3 s4 : Slot}, @SRes.wp (sRet (mBin opAdd (mBin opAdd (mBin opAdd (mBin opAdd (mSl (mV 1) mNoP (mP (mV 5))) (mTup (mCons (mBin opIx (mV 1) (mV 6)) mNil))) (mSl (mV 1) (mP (mBin opAdd (mV 5) (mC (.int 1)))) (mP (mV 6)))) (mTup (mCons (mBin opIx (mV 1) (mV 5)) mNil))) (mSl (mV 1) (mP (mBin opAdd (mV 6) (mC (.int 1)))) mNoP)) [.val (.ref n), .val (.tup l), .val (.int w), s3, s4, .val (.int (a : Nat)), .val (.int (b : Nat))] h1) K := by
      intro a b hab hbl s3 s4
      have e1 : cutL l none (some (a : Int)) = l.take a := by rw [cut_to (by omega)]; rfl
      have e2 : cutL l (some ((a : Int) + 1)) (some (b : Int)) = (l.drop (a + 1)).take (b - (a + 1)) := by rw [cut_mid (by omega) (by omega), show ((a : Int) + 1).toNat = a + 1 by omega]; rfl
      have e3 : cutL l (some ((b : Int) + 1)) none = l.drop (b + 1) := by rw [cut_from (by omega), show ((b : Int) + 1).toNat = b + 1 by omega]
      simp [-opIx, e1, e2, e3]
      refine ixT (· ∈ l) (by omega) (by omega) (fun _ h => h) fun y hy => ?_
      simp [-opIx, e1, e2, e3]
      iterate 4 (all_goals try (refine ch_go (by first | omega | (simp; omega)) ?_; try simp [-opIx, e1, e2, e3]))
      refine ixT (· ∈ l) (by omega) (by omega) (fun _ h => h) fun z hz => ?_
      simp [-opIx, e1, e2, e3]
      iterate 4 (all_goals try (refine ch_go (by first | omega | (simp; omega)) ?_; try simp [-opIx, e1, e2, e3]))
      refine k _ h1 ?_ (hb1.mono (by omega)) o1
      simp
      refine ⟨by omega, hT, okA_mono (by omega) (by omega) (ho y hy), fun x h => ?_, okA_mono (by omega) (by omega) (ho z hz), hD⟩
      exact hD x (List.mem_of_mem_take h)
    rcases (by omega : j < i ∨ i < j ∨ i = j) with q | q | q
    · simp [q, show ¬ i < j by omega]
      simpa using swap j i q hi
    · simp [q, show ¬ j < i by omega]
      simpa using swap i j q (by omega)
    · subst q
      simp
      exact sp1_wp hb1 (by omega) hm hm2 hv hi fun r h' or hb' o' => k r h' or (hb'.mono (by omega)) (o1.trans o')
  · simp
    exact sp1_wp hb (by omega) hm hm2 hv hi fun r h' or hb' o' => k r h' or (hb'.mono (by omega)) o'
theorem sp4_wp {rec : MF} {h : MH} {n c d m i : Nat} {w : Int} {l : List Val} {s4 s5 s6 : Slot} {K : KS} (hb : Box h n c) (hc : c ≤ 700000) (hm : 7 ≤ m) (hm2 : m ≤ 10000) (hv : okA (d + 1) m (.tup l) = true) (hi : i < l.length)
    (k : ∀ r h', okA (d + 2) (m + 1) (.tup r) = true → Box h' n (c + 6) → Onl n h h' → K.rt (.tup r) h') : @SRes.wp (b__law_spoilt_4 rec [.val (.ref n), .val (.tup l), .val (.int w), .val (.int (i : Nat)), s4, s5, s6] h) K := by
  obtain ⟨hl, ho⟩ := okT_row hv
  have e1 : cutL l none (some (i : Int)) = l.take i := by rw [cut_to (by omega)]; rfl
  have e2 : cutL l (some ((i : Int) + 1)) none = l.drop (i + 1) := by rw [cut_from (by omega), show ((i : Int) + 1).toNat = i + 1 by omega]
  have e3 : cutL l (some (i : Int)) none = l.drop i := by rw [cut_from (by omega)]; rfl
  have hT : ∀ {j : Nat} x, x ∈ l.take j → okA (d + 1) (m + 1) x = true := fun x h => okA_mono (by omega) (by omega) (ho x (List.mem_of_mem_take h))
  have hD : ∀ {j : Nat} x, x ∈ l.drop j → okA (d + 1) (m + 1) x = true := fun x h => okA_mono (by omega) (by omega) (ho x (List.mem_of_mem_drop h))
  simp [b__law_spoilt_4]
  refine ch_of (fun z => ?_) fun z => ?_
  · simp [e1, e2, show l.length ≤ 16777216 by omega]
    iterate 4 (all_goals try (refine ch_go (by first | omega | (simp; omega)) ?_; try simp [e1, e2]))
    refine k _ h ?_ (hb.mono (by omega)) .refl
    simp
    exact ⟨by omega, hT, hD⟩
  · simp [b__law_spoilt_3]
    refine ch_of (fun z => ?_) fun z => ?_
    · simp [e1, e2, e3, -opIx, show l.length ≤ 16777216 by omega]
      refine ixT (· ∈ l) (by omega) (by omega) (fun _ h => h) fun y hy => ?_
      simp
      iterate 4 (all_goals try (refine ch_go (by first | omega | (simp; omega)) ?_; try simp [e1, e3]))
      refine k _ h ?_ (hb.mono (by omega)) .refl
      simp
      exact ⟨by omega, hT, okA_mono (by omega) (by omega) (ho y hy), hD⟩
    · simp
      exact sp2_wp hb (by omega) hm hm2 hv hi k

theorem okA_tup_pos {d m : Nat} {l : List Val} (h : okA d m (.tup l) = true) : ∃ e, d = e + 1 := by
  cases d with
  | zero => simp at h
  | succ e => exact ⟨e, rfl⟩
theorem spoilt_wp {n m : Nat} (hm : 7 ≤ m) (hm2 : m ≤ 10000) : ∀ (F d : Nat), d ≤ F → ∀ {h : MH} {c : Nat} {l : List Val} {Q : Kt Val} {X : Kx}, Box h n c → c + 10 * d ≤ 700000 → okA d m (.tup l) = true → l ≠ [] →
    (∀ r h', okA (d + 1) (m + 1) (.tup r) = true → Box h' n (c + 10 * d) → Onl n h h' → Q.run (.tup r) h') → (r__law_spoilt F [.ref n, .tup l] h).wp := by
  intro F
  induction F with
  | zero =>
    intro d hd h c l Q X hb hc hv hl k
    obtain ⟨e, rfl⟩ := okA_tup_pos hv
    omega
  | succ F ih =>
    intro d hd h c l Q X hb hc hv hl k
    obtain ⟨d, rfl⟩ := okA_tup_pos hv
    obtain ⟨x, l, rfl⟩ := List.exists_cons_of_ne_nil hl
    obtain ⟨hl2, ho⟩ := okT_row hv
    show (runF 7 (b__law_spoilt (r__law_spoilt F)) [.ref n, .tup (x :: l)] h).wp
    refine runF_wp ?_
    simp [b__law_spoilt]
    refine take_wp hb (by decide) (by decide) (by omega) fun w h1 w0 w1 hb1 o1 => ?_
    have hl3 : l.length + 1 ≤ 16777216 := by simp at hl2; omega
    simp at hl2
    simp [hl3]
    refine take_wp (m := (l.length : Int) + 1) hb1 (by omega) (by omega) (by omega) fun u h2 u0 u1 hb2 o2 => ?_
    obtain ⟨i, rfl⟩ := Int.eq_ofNat_of_zero_le u0
    have oo := o1.trans o2
    have fin : ∀ {h3 : MH} {s4 s5 s6 : Slot} {K : KS}, Box h3 n (c + 3) → Onl n h h3 → (∀ r h', okA (d + 2) (m + 1) (.tup r) = true → Box h' n (c + 10 * (d + 1)) → Onl n h h' → K.rt (.tup r) h') → @SRes.wp (b__law_spoilt_4 (r__law_spoilt F) [.val (.ref n), .val (.tup (x :: l)), .val (.int w), .val (.int (i : Nat)), s4, s5, s6] h3) K := fun hb3 o3 k => sp4_wp hb3 (by omega) hm hm2 hv (by simp; omega) fun r h' or hb' o' => k r h' or (hb'.mono (by omega)) (o3.trans o')
    have ox := ho x (by simp)
    rcases okD_cases (okA_okD (by omega) ox) with rfl | ⟨c, rfl⟩ | ⟨i, rfl⟩ | ⟨s, rfl, _⟩ | ⟨l2, e, rfl, rfl, hl, ho2⟩ | ⟨l2, e, rfl, _⟩
    · simp [lift]; exact fin (hb2.mono (by omega)) oo k
    · simp [lift]; exact fin (hb2.mono (by omega)) oo k
    · simp [lift]; exact fin (hb2.mono (by omega)) oo k
    · simp [lift]; exact fin (hb2.mono (by omega)) oo k
    · simp [lift, hl]
      refine ch_of (fun z => ?_) fun z => ?_
      · simp
        refine take_wp hb2 (by decide) (by decide) (by omega) fun v h3 v0 v1 hb3 o3 => ?_
        simp
        refine ch_of (fun z2 => ?_) fun z2 => ?_
        · simp
          refine ih (e + 1) (by omega) (hb3.mono (d := c + 10) (by omega)) (by omega) ox (by intro z3; subst z3; simp at z) fun r h4 or hb4 o4 => ?_
          have c1 : cutL (.tup l2 :: l) (some (1 : Int)) none = l := by rw [cut_from (by omega)]; rfl
          simp [c1]
          refine ch_go (by omega) ?_
          refine k _ h4 ?_ (hb4.mono (by omega)) ((oo.trans o3).trans o4)
          simp
          exact ⟨by omega, by simpa using or, fun y hy => okA_mono (by omega) (by omega) (ho y (by simp [hy]))⟩
        · simp; exact fin (hb3.mono (by omega)) (oo.trans o3) k
      · simp; exact fin (hb2.mono (by omega)) oo k
    · simp [lift]; exact fin (hb2.mono (by omega)) oo k

theorem law1_wp {d : Nat} {x : Val} {s0 s1 s2 s3 s4 s5 : Slot} {h : MH} {K : KS} (ox : okD d x = true) (k : K.nx [s0, s1, s2, s3, s4, s5, .val x] h) : @SRes.wp (b_law_1 [s0, s1, s2, s3, s4, s5, .val x] h) K := by
  have e := asked_eq (h := h) ox
  simp [b_law_1, e]
  exact k
theorem law3_wp {d : Nat} {x : Val} {s0 s1 s2 s3 s4 s5 : Slot} {h : MH} {K : KS} (ox : okD d x = true) (k : K.nx [s0, s1, s2, s3, s4, s5, .val x] h) : @SRes.wp (b_law_3 [s0, s1, s2, s3, s4, s5, .val x] h) K := by
  have e := asked_eq (h := h) ox
  simp [b_law_3, e]
  exact k
theorem law2_wp {n c : Nat} {l : List Val} {s0 s1 s2 s5 s6 : Slot} {h : MH} {K : KS} (hb : Box h n c) (hc : c ≤ 500000) (ol : okA 2 7 (.tup l) = true) (nl : l ≠ [])
    (k : ∀ s6 h', Box h' n (c + 60) → K.nx [s0, s1, s2, .val (.ref n), .val (.tup l), s5, s6] h') : @SRes.wp (b_law_2 [s0, s1, s2, .val (.ref n), .val (.tup l), s5, s6] h) K := by
  simp [b_law_2]
  refine spoilt_wp (m := 7) (by omega) (by omega) 6 2 (by omega) hb (by omega) ol nl fun r h1 or hb1 o1 => ?_
  simp
  refine take_wp hb1 (by decide) (by decide) (by omega) fun v h2 v0 v1 hb2 o2 => ?_
  have rl := (okT_row or).1
  simp [show r.length ≤ 16777216 by omega]
  refine ch_of (fun z => ?_) fun z => ?_
  · simp
    refine ch_of (fun z2 => ?_) fun z2 => ?_
    · simp
      refine spoilt_wp (m := 8) (by omega) (by omega) 6 3 (by omega) hb2 (by omega) or (by intro e; subst e; simp at z2) fun q h3 oq hb3 o3 => ?_
      simp
      exact law1_wp (okA_okD (by omega) oq) (k _ _ (hb3.mono (by omega)))
    · simp
      exact law1_wp (okA_okD (by omega) or) (k _ _ (hb2.mono (by omega)))
  · simp
    exact law1_wp (okA_okD (by omega) or) (k _ _ (hb2.mono (by omega)))
def restI (s0 s1 s2 s3 s4 s5 : Slot) (h0 : MH) (l : List Val) (σ : Mi.Env) (h : MH) : Prop := ∃ (s6 : Slot), σ = [s0, s1, s2, s3, s4, s5, s6] ∧ h = h0 ∧ ∀ v ∈ l, okD 20 v = true
theorem law4_wp {l : List Val} {s0 s1 s2 s3 s5 s6 : Slot} {h : MH} {K : KS} (ol : okA 2 7 (.tup l) = true) (nl : l ≠ [])
    (k : ∀ s6, K.nx [s0, s1, s2, s3, .val (.tup l), s5, s6] h) : @SRes.wp (b_law_4 [s0, s1, s2, s3, .val (.tup l), s5, s6] h) K := by
  obtain ⟨x, l, rfl⟩ := List.exists_cons_of_ne_nil nl
  have ho := okT_row ol
  have o20 : okD 20 (.tup (x :: l)) = true := okA_okD (m := 7) (by omega) (okA_mono (by omega) (by omega) ol)
  have ho2 : ∀ y ∈ x :: l, okD 19 y = true := fun y hy => okA_okD (m := 7) (by omega) (okA_mono (by omega) (by omega) (ho.2 y hy))
  have hl : l.length + 1 ≤ 16777216 := by have := ho.1; simp at this; omega
  simp [b_law_4, ltV, lift, hl]
  refine for_wp _ (restI s0 s1 s2 s3 (.val (.tup (x :: l))) s5 h) ?_ ?_ _ _ _ ⟨_, rfl, rfl, fun v hv => ?_⟩
  · rintro v r σ h ⟨s6, rfl, rfl, hv⟩
    simp
    exact law3_wp (hv v (by simp)) ⟨_, rfl, rfl, fun v hv' => hv v (by simp [hv'])⟩
  · rintro σ h ⟨s6, rfl, rfl, hv⟩
    exact k _
  · simp only [List.mem_cons, List.not_mem_nil, or_false] at hv
    rcases hv with rfl | rfl | rfl | rfl | rfl | rfl | rfl | rfl | rfl | rfl
    · rfl
    · rfl
    · rfl
    · decide
    · rfl
    · rfl
    · simp [okD] at o20 ⊢; exact o20
    · have o19 : okD 19 (.tup (x :: l)) = true := okA_okD (m := 7) (by omega) (okA_mono (by omega) (by omega) ol)
      show (decide ([Val.tup (x :: l)].length ≤ 16777216) && [Val.tup (x :: l)].all (okD 19)) = true
      simp only [List.all_cons, List.all_nil, o19]
      rfl
    · exact okA_okD (m := 7) (by omega) (okA_mono (by omega) (by omega) (ho.2 _ (by simp)))
    · decide
def turnI (s0 s1 s2 s4 : Slot) (n : Nat) (l : List Val) (σ : Mi.Env) (h : MH) : Prop := ∃ (s5 s6 : Slot) (m : Nat), σ = [s0, s1, s2, .val (.ref n), s4, s5, s6] ∧ Box h n (30 + 60 * m) ∧ m + l.length ≤ 10
def lawI (l : List Val) (σ : Mi.Env) (h : MH) : Prop := ∃ (s : Val) (ms : List Int) (s2 s3 s4 s5 s6 : Slot), σ = [.val s, .val (.lst (ms.map Val.int)), s2, s3, s4, s5, s6] ∧ ms.length ≤ 63 ∧ ∀ v ∈ l, ∃ i : Nat, v = .int (i : Nat) ∧ i < 1000
theorem law_true (ns : List Int) (hl : ns.length ≤ 63) (_ : ∀ z ∈ ns, Builtin.Int.intBits z ≤ 1048576) : ∃ h, m_law [.lst (ns.map Val.int)] [] = .ok (.bl true) h := by
  suffices w : @Res.wp Val (m_law [.lst (ns.map Val.int)] []) ⟨fun v h => v = .bl true⟩ noX by
    obtain ⟨v, h, e, rfl⟩ := wp_ex w
    exact ⟨h, e⟩
  refine runF_wp ?_
  obtain ⟨ms, hm63, ef⟩ := foldedB_ex (m := 6) hl (by decide) (by decide)
  have ef : m__law_folded_B [.lst (ns.map Val.int), .int 6] [] = .ok (.lst (ms.map Val.int)) [] := ef
  simp [b_law, ef]
  refine ch_go ⟨by split <;> omega, by split <;> omega⟩ ?_
  refine for_wp _ lawI ?_ ?_ _ _ _ ?_
  · rintro v l σ h ⟨s, ms, s2, s3, s4, s5, s6, rfl, hms, hv⟩
    obtain ⟨i, rfl, hi⟩ := hv v List.mem_cons_self
    simp [b_law_5]
    refine box_wp (by omega) (by omega) fun o hb => ?_
    generalize h.length = n at *
    simp
    refine end_wp hb (by omega) fun r L h1 ok hL mk hb1 o1 => ?_
    have ea := asked_eq (h := h1) (okA_okD (by omega) ok)
    have ee := end_eq (h := h1) (okA_okD (by omega) ok)
    rw [mk] at ee
    simp [ea, ee]
    refine for_wp _ (turnI (.val s) (.val (.lst (ms.map Val.int))) (.val (.int (i : Nat))) (.val (.tup (r :: L))) n) ?_ ?_ _ _ _ ⟨_, _, 0, rfl, hb1.mono (by omega), by simp [rangeL]⟩
    · rintro v l2 σ h2 ⟨s5, s6, m, rfl, hb2, hm⟩
      simp at hm
      simp
      exact law2_wp hb2 (by omega) ok (by simp) fun s6 h' hb' => ⟨_, _, m + 1, rfl, hb'.mono (by omega), by omega⟩
    · rintro σ h2 ⟨s5, s6, m, rfl, hb2, hm⟩
      exact law4_wp ok (by simp) fun s6 => ⟨s, ms, _, _, _, _, _, rfl, hms, fun v hv' => hv v (List.mem_cons_of_mem _ hv')⟩
  · rintro σ h ⟨s, ms, s2, s3, s4, s5, s6, rfl, _⟩
    simp [b_law_6]
  · refine ⟨_, ms, _, _, _, _, _, rfl, hm63, fun v hv => ?_⟩
    obtain ⟨i, hi, rfl⟩ := List.mem_map.mp hv
    have := List.mem_range.mp hi
    exact ⟨i, by simp, by split at this <;> omega⟩
end K58
open PySem PySem.W PyProof.Rows in
set_option maxRecDepth 100000 in
set_option maxHeartbeats 0 in
theorem PySem.Challenge.cw_cutletters_k58_what_is_a_make_of_an_end_holds : PySem.Challenge.rw_cutletters_k58_what_is_a_make_of_an_end.Holds := by
  w_on; o_law; k_head; (case hw => w_witness2)
  k_fill
  refine Mi.walkM (l := PySem.Challenge.rw_cutletters_k58_what_is_a_make_of_an_end) (n := 63) (k := 10) (x := "_law_script") (f := K58.m_law) rfl (by decide) rfl ⟨rfl, by decide, by decide⟩ (fun w h Y => PySem.W.kIn_of Y) ?F K58.law_true
  case F =>
    intro w mg fa h KX G hmg
    refine' K58.all_mk KX G hmg ?a0 ?l0 ?c0 ?k0 ?a1 ?l1 ?c1 ?k1 ?a2 ?l2 ?c2 ?k2 ?a3 ?l3 ?c3 ?k3 ?a4 ?l4 ?c4 ?k4 ?a5 ?l5 ?c5 ?k5 ?a6 ?l6 ?c6 ?k6 ?a7 ?l7 ?c7 ?k7 ?a8 ?l8 ?c8 ?k8 ?a9 ?l9 ?c9 ?k9 ?a10 ?l10 ?c10 ?k10 ?a11 ?l11 ?c11 ?k11 ?a12 ?l12 ?c12 ?k12 ?a13 ?l13 ?c13 ?k13 ?a14 ?l14 ?c14 ?k14 ?a15 ?l15 ?c15 ?k15 ?a16 ?l16 ?c16 ?k16 ?z_abs ?z_all ?z_bool ?z_divmod ?z_enumerate ?z_int ?z_isinstance ?z_len ?z_list ?z_max ?z_min ?z_range ?z_str ?z_tuple ?z_zip ?g_LEAST_ROOM ?g_MOST_HALVES ?g_MOST_HOLD ?g_MOST_REST ?g_MOST_ROOM ?g_RULES ?gl_RULES ?g_WAYS ?gl_WAYS
    (case a0 => k_is)
    (case l0 => k_is)
    (case c0 => k_is)
    (case k0 => k_is)
    (case a1 => k_is)
    (case l1 => k_is)
    (case c1 => k_is)
    (case k1 => k_is)
    (case a2 => k_is)
    (case l2 => k_is)
    (case c2 => k_is)
    (case k2 => k_is)
    (case a3 => k_is)
    (case l3 => k_is)
    (case c3 => k_is)
    (case k3 => k_is)
    (case a4 => k_is)
    (case l4 => k_is)
    (case c4 => k_is)
    (case k4 => k_is)
    (case a5 => k_is)
    (case l5 => k_is)
    (case c5 => k_is)
    (case k5 => k_is)
    (case a6 => k_is)
    (case l6 => k_is)
    (case c6 => k_is)
    (case k6 => k_is)
    (case a7 => k_is)
    (case l7 => k_is)
    (case c7 => k_is)
    (case k7 => k_is)
    (case a8 => k_is)
    (case l8 => k_is)
    (case c8 => k_is)
    (case k8 => k_is)
    (case a9 => k_is)
    (case l9 => k_is)
    (case c9 => k_is)
    (case k9 => k_is)
    (case a10 => k_is)
    (case l10 => k_is)
    (case c10 => k_is)
    (case k10 => k_is)
    (case a11 => k_is)
    (case l11 => k_is)
    (case c11 => k_is)
    (case k11 => k_is)
    (case a12 => k_is)
    (case l12 => k_is)
    (case c12 => k_is)
    (case k12 => k_is)
    (case a13 => k_is)
    (case l13 => k_is)
    (case c13 => k_is)
    (case k13 => k_is)
    (case a14 => k_is)
    (case l14 => k_is)
    (case c14 => k_is)
    (case k14 => k_is)
    (case a15 => k_is)
    (case l15 => k_is)
    (case c15 => k_is)
    (case k15 => k_is)
    (case a16 => k_is)
    (case l16 => k_is)
    (case c16 => k_is)
    (case k16 => k_is)
    (case z_abs => k_is)
    (case z_all => k_is)
    (case z_bool => k_is)
    (case z_divmod => k_is)
    (case z_enumerate => k_is)
    (case z_int => k_is)
    (case z_isinstance => k_is)
    (case z_len => k_is)
    (case z_list => k_is)
    (case z_max => k_is)
    (case z_min => k_is)
    (case z_range => k_is)
    (case z_str => k_is)
    (case z_tuple => k_is)
    (case z_zip => k_is)
    (case g_LEAST_ROOM => k_is)
    (case g_MOST_HALVES => k_is)
    (case g_MOST_HOLD => k_is)
    (case g_MOST_REST => k_is)
    (case g_MOST_ROOM => k_is)
    (case g_RULES => k_is)
    (case gl_RULES => k_is)
    (case g_WAYS => k_is)
    (case gl_WAYS => k_is)

