import PyProof.Rows.All
import Wide.All
import OpenK.AllK
import Wide.FinOn
import HandS.ForMost
import HandS.ForExc
import HandS.TupAny
import HandS.Deep
import HandS.IsInst
import HandS.Wide
import HandS.ExcCtx
import HandS.HotCalls
import HandS.RaiseMore
import HandS.CallSlots
import HandS.Text
import KE.IntTextLaws
import HandS.ExcInit
import HandS.NestedK
import KE.KExcSuper
import HandS.ExcField
import HandS.ExcIs
import HandS.OwnEq
import HandS.TupMul
import HandS.Conv
import HandS.SortInts
import HandS.NoneIn
import PySem.Challenge.RW_nestcall_k40_guards_of_a_house
set_option Elab.async false
set_option linter.all false
set_option maxRecDepth 100000
set_option maxHeartbeats 8000000
/-! ### values without addresses, stores, worlds -/
namespace NC
open PySem L2

inductive D where
  | non | bl (b : Bool) | int (i : Int) | str (x : Str) | tup (xs : List D) | lst (xs : List D) | loc (n : Nat)

/-- S: lists that somebody still changes (by a name); r: the store's addresses -/
structure Wd where
  S : Addr → Prop
  r : List Addr

/-- a list of the module's own objects -/
def KLst (K : PySem.W.Frag) (a : Addr) (xs : List V) : Prop := ∃ (its : List Value) (n : Nat), K.lookup a = some { cls := .type "list", data := .seq its.toArray n } ∧ xs.length ≤ sizeLine ∧ Vals xs its
/-- a list to be read -/
def LstAt (K : PySem.W.Frag) (H : Hp) (a : Addr) (xs : List V) : Prop := Rd H a (.lst xs) ∨ KLst K a xs
theorem LstAt.sq {K : PySem.W.Frag} {H : Hp} {a : Addr} {xs : List V} (h : LstAt K H a xs) : SqL K H a xs := by
  rcases h with h | ⟨its, n, e, hz, r⟩
  · exact .inl h
  · exact .inr ⟨_, its.toArray, n, e, rfl, rfl, rfl, by rw [List.size_toArray, ← r.length]; exact hz, by simpa using r⟩

mutual
inductive Rep (K : PySem.W.Frag) (w : Wd) (H : Hp) : V → D → Prop
  | non : Rep K w H .non .non
  | bl (b : Bool) : Rep K w H (.bl b) (.bl b)
  | int (i : Int) : Rep K w H (.int i) (.int i)
  | str (x : Str) : Rep K w H (.str x) (.str x)
  | tup {a : Addr} {xs : List V} {ds : List D} : SqT K H a xs → Reps K w H xs ds → Rep K w H (.ref a) (.tup ds)
  | lst {a : Addr} {xs : List V} {ds : List D} : Rd H a (.lst xs) → ¬ w.S a → a ∉ w.r → Reps K w H xs ds → Rep K w H (.ref a) (.lst ds)
  | klst {a : Addr} {xs : List V} {ds : List D} : KLst K a xs → Reps K w H xs ds → Rep K w H (.ref a) (.lst ds)
  | loc {a : Addr} {n : Nat} : w.r[n]? = some a → Rep K w H (.ref a) (.loc n)
inductive Reps (K : PySem.W.Frag) (w : Wd) (H : Hp) : List V → List D → Prop
  | nil : Reps K w H [] []
  | cons {v : V} {vs : List V} {d : D} {ds : List D} : Rep K w H v d → Reps K w H vs ds → Reps K w H (v :: vs) (d :: ds)
end

def Imm : HO → Prop
  | .tup _ => True
  | .frz _ _ => True
  | _ => False

/-- how a heap and a world go on -/
structure Ok2 (w : Wd) (H : Hp) (w' : Wd) (H' : Hp) : Prop where
  pre : ∀ (n : Nat) a, w.r[n]? = some a → w'.r[n]? = some a
  imm : ∀ a o, H a = some o → Imm o → H' a = some o
  fr : ∀ a o, H a = some o → ¬ w.S a → a ∉ w.r → H' a = some o ∧ ¬ w'.S a ∧ a ∉ w'.r

theorem sqT_to {K : PySem.W.Frag} {H H' : Hp} {a : Addr} {xs : List V} (h : SqT K H a xs) (i : ∀ a o, H a = some o → Imm o → H' a = some o) : SqT K H' a xs := by
  rcases h with (h | ⟨o, h⟩) | h
  · exact .inl (.inl (i _ _ h trivial))
  · exact .inl (.inr ⟨o, i _ _ h trivial⟩)
  · exact .inr h

mutual
theorem Rep.to {K : PySem.W.Frag} {w w' : Wd} {H H' : Hp} (k : Ok2 w H w' H') : ∀ (d : D) (v : V), Rep K w H v d → Rep K w' H' v d
  | .non, _, h => by cases h; exact .non
  | .bl b, _, h => by cases h; exact .bl b
  | .int i, _, h => by cases h; exact .int i
  | .str x, _, h => by cases h; exact .str x
  | .loc n, _, h => by
    cases h with
    | loc e => exact .loc (k.pre _ _ e)
  | .tup ds, _, h => by
    cases h with
    | tup s r => exact .tup (sqT_to s k.imm) (Reps.to k ds _ r)
  | .lst ds, _, h => by
    cases h with
    | lst s n1 n2 r =>
      rcases s with s | ⟨o, s⟩
      · obtain ⟨q1, q2, q3⟩ := k.fr _ _ s n1 n2
        exact .lst (.inl q1) q2 q3 (Reps.to k ds _ r)
      · obtain ⟨q1, q2, q3⟩ := k.fr _ _ s n1 n2
        exact .lst (.inr ⟨o, q1⟩) q2 q3 (Reps.to k ds _ r)
    | klst s r => exact .klst s (Reps.to k ds _ r)
theorem Reps.to {K : PySem.W.Frag} {w w' : Wd} {H H' : Hp} (k : Ok2 w H w' H') : ∀ (ds : List D) (vs : List V), Reps K w H vs ds → Reps K w' H' vs ds
  | [], _, h => by cases h; exact .nil
  | d :: ds, _, h => by
    cases h with
    | cons h1 h2 => exact .cons (Rep.to k d _ h1) (Reps.to k ds _ h2)
end

theorem Reps.length {K : PySem.W.Frag} {w : Wd} {H : Hp} : ∀ {vs : List V} {ds : List D}, Reps K w H vs ds → vs.length = ds.length
  | _, _, .nil => rfl
  | _, _, .cons _ t => by rw [List.length_cons, List.length_cons, Reps.length t]
theorem Reps.get {K : PySem.W.Frag} {w : Wd} {H : Hp} : ∀ {vs : List V} {ds : List D} {i : Nat} {d : D}, Reps K w H vs ds → ds[i]? = some d → ∃ v, vs[i]? = some v ∧ Rep K w H v d
  | _, _, _, _, .nil, e => by simp at e
  | _, _, 0, _, .cons r _, e => by simp at e; subst e; exact ⟨_, rfl, r⟩
  | _, _, i + 1, d, .cons _ t, e => by
    obtain ⟨u, h1, h2⟩ := Reps.get (i := i) (d := d) t (by simpa using e)
    exact ⟨u, by simpa using h1, h2⟩
theorem Reps.get' {K : PySem.W.Frag} {w : Wd} {H : Hp} : ∀ {vs : List V} {ds : List D} {i : Nat} {v : V}, Reps K w H vs ds → vs[i]? = some v → ∃ d, ds[i]? = some d ∧ Rep K w H v d
  | _, _, _, _, .nil, e => by simp at e
  | _, _, 0, _, .cons r _, e => by simp at e; subst e; exact ⟨_, rfl, r⟩
  | _, _, i + 1, d, .cons _ t, e => by
    obtain ⟨u, h1, h2⟩ := Reps.get' (i := i) t (by simpa using e)
    exact ⟨u, by simpa using h1, h2⟩
theorem Reps.append {K : PySem.W.Frag} {w : Wd} {H : Hp} : ∀ {xs ys : List V} {ds es : List D}, Reps K w H xs ds → Reps K w H ys es → Reps K w H (xs ++ ys) (ds ++ es)
  | _, _, _, _, .nil, s => s
  | _, _, _, _, .cons r t, s => .cons r (Reps.append t s)
theorem Reps.set {K : PySem.W.Frag} {w : Wd} {H : Hp} {x : V} {d : D} (r : Rep K w H x d) : ∀ {xs : List V} {ds : List D} (i : Nat), Reps K w H xs ds → Reps K w H (xs.set i x) (ds.set i d)
  | _, _, _, .nil => .nil
  | _, _, 0, .cons _ t => .cons r t
  | _, _, i + 1, .cons q t => .cons q (Reps.set r i t)
theorem Reps.take {K : PySem.W.Frag} {w : Wd} {H : Hp} : ∀ {xs : List V} {us : List D} (n : Nat), Reps K w H xs us → Reps K w H (xs.take n) (us.take n)
  | _, _, 0, _ => .nil
  | _, _, _ + 1, .nil => .nil
  | _, _, n + 1, .cons r t => .cons r (Reps.take n t)
theorem Reps.drop {K : PySem.W.Frag} {w : Wd} {H : Hp} : ∀ {xs : List V} {us : List D} (n : Nat), Reps K w H xs us → Reps K w H (xs.drop n) (us.drop n)
  | _, _, 0, r => r
  | _, _, _ + 1, .nil => .nil
  | _, _, n + 1, .cons _ t => Reps.drop n t
theorem Reps.reverse {K : PySem.W.Frag} {w : Wd} {H : Hp} : ∀ {xs : List V} {us : List D}, Reps K w H xs us → Reps K w H xs.reverse us.reverse
  | _, _, .nil => .nil
  | _, _, .cons r t => by
    rw [List.reverse_cons, List.reverse_cons]
    exact (Reps.reverse t).append (.cons r .nil)

/-! ### cells -/
inductive Cell where
  | lst (ds : List D) | dic (t : Bool) (kvs : List (D × D)) | ins (c : Str) (fs : List (Str × D))
abbrev Sto := List Cell

/-- the text's classes by name -/
structure Tb where
  K : PySem.W.Frag
  cls : Str → Option Addr

def Flds (K : PySem.W.Frag) (w : Wd) (H : Hp) (fv : List (Str × V)) (fd : List (Str × D)) : Prop :=
  fv.map (·.1) = fd.map (·.1) ∧ Reps K w H (fv.map (·.2)) (fd.map (·.2))

def keyD : Key → D
  | .inl i => .int i
  | .inr x => .str x

def CellOk (T : Tb) (w : Wd) (H : Hp) (a : Addr) : Cell → Prop
  | .lst ds => ∃ vs, H a = some (.lst vs) ∧ Reps T.K w H vs ds
  | .dic false kvs => ∃ ks : List (Key × V), H a = some (.dK ks) ∧ kvs.map (·.1) = ks.map (fun p => keyD p.1) ∧ Reps T.K w H (ks.map (·.2)) (kvs.map (·.2))
  | .dic true kvs => ∃ ks : List (List Key × V), H a = some (.dT ks) ∧ kvs.map (·.1) = ks.map (fun p => D.tup (p.1.map keyD)) ∧ Reps T.K w H (ks.map (·.2)) (kvs.map (·.2))
  | .ins c fs => ∃ (C dx : Addr) (fv : List (Str × V)), (T.cls c = some C ∧ Cls T.K C ∧ ∀ p ∈ fs, NoAttr T.K C p.1) ∧ H a = some (.ins C dx fv) ∧ Flds T.K w H fv fs

theorem CellOk.to {T : Tb} {w w' : Wd} {H H' : Hp} {a : Addr} {c : Cell} (h : CellOk T w H a c) (k : Ok2 w H w' H') (e : H' a = H a) : CellOk T w' H' a c := by
  cases c with
  | lst ds =>
    obtain ⟨vs, h1, h2⟩ := h
    exact ⟨vs, e.trans h1, Reps.to k _ _ h2⟩
  | dic t kvs =>
    cases t with
    | false => obtain ⟨ks, h1, h2, h3⟩ := h; exact ⟨ks, e.trans h1, h2, Reps.to k _ _ h3⟩
    | true => obtain ⟨ks, h1, h2, h3⟩ := h; exact ⟨ks, e.trans h1, h2, Reps.to k _ _ h3⟩
  | ins c fs =>
    obtain ⟨C, dx, fv, h0, h1, h2, h3⟩ := h
    exact ⟨C, dx, fv, h0, e.trans h1, h2, Reps.to k _ _ h3⟩
theorem CellOk.has {T : Tb} {w : Wd} {H : Hp} {a : Addr} {c : Cell} (h : CellOk T w H a c) : ∃ o, H a = some o ∧ ¬ Imm o := by
  cases c with
  | lst ds => obtain ⟨vs, h1, h2⟩ := h; exact ⟨_, h1, fun z => z⟩
  | dic t kvs =>
    cases t with
    | false => obtain ⟨ks, h1, h2, h3⟩ := h; exact ⟨_, h1, fun z => z⟩
    | true => obtain ⟨ks, h1, h2, h3⟩ := h; exact ⟨_, h1, fun z => z⟩
  | ins c fs => obtain ⟨C, dx, fv, h0, h1, h2⟩ := h; exact ⟨_, h1, fun z => z⟩

structure Stok (T : Tb) (w : Wd) (H : Hp) (st : Sto) : Prop where
  len : st.length = w.r.length
  nd : w.r.Nodup
  at_ : ∀ (i : Nat) c a, st[i]? = some c → w.r[i]? = some a → CellOk T w H a c
theorem Stok.has {T : Tb} {w : Wd} {H : Hp} {st : Sto} (s : Stok T w H st) {a : Addr} (h : a ∈ w.r) : ∃ o, H a = some o ∧ ¬ Imm o := by
  obtain ⟨i, hi, e⟩ := List.getElem_of_mem h
  have h2 : w.r[i]? = some a := by rw [List.getElem?_eq_getElem hi, e]
  have hi' : i < st.length := by rw [s.len]; exact hi
  exact (s.at_ i st[i] a (List.getElem?_eq_getElem hi') h2).has

/-- the world and the heap go on, seen from outside: what is not in the store stays -/
structure Le (w : Wd) (H : Hp) (w' : Wd) (H' : Hp) : Prop where
  pre : ∀ (n : Nat) a, w.r[n]? = some a → w'.r[n]? = some a
  fr : ∀ a o, H a = some o → a ∉ w.r → H' a = some o
  live : ∀ a o, H a = some o → ∃ o', H' a = some o'
  new : ∀ a ∈ w'.r, a ∈ w.r ∨ H a = none
  S : ∀ a, w'.S a → w.S a ∨ H a = none
  Sm : ∀ a, w.S a → w'.S a
theorem Le.refl (w : Wd) (H : Hp) : Le w H w H := ⟨fun _ _ e => e, fun _ _ e _ => e, fun _ o e => ⟨o, e⟩, fun _ h => .inl h, fun _ h => .inl h, fun _ h => h⟩
theorem Le.trans {w w1 w2 : Wd} {H H1 H2 : Hp} (a : Le w H w1 H1) (b : Le w1 H1 w2 H2) : Le w H w2 H2 := by
  refine ⟨fun n x e => b.pre n x (a.pre n x e), fun x o e n => ?_, fun x o e => ?_, fun x h => ?_, fun x h => ?_, fun x h => b.Sm x (a.Sm x h)⟩
  · have e1 := a.fr x o e n
    refine b.fr x o e1 fun z => ?_
    rcases a.new x z with z | z
    · exact n z
    · rw [e] at z; cases z
  · obtain ⟨o1, e1⟩ := a.live x o e
    exact b.live x o1 e1
  · rcases b.new x h with z | z
    · exact a.new x z
    · cases e : H x with
      | none => exact .inr rfl
      | some o => obtain ⟨o1, e1⟩ := a.live x o e; rw [e1] at z; cases z
  · rcases b.S x h with z | z
    · exact a.S x z
    · cases e : H x with
      | none => exact .inr rfl
      | some o => obtain ⟨o1, e1⟩ := a.live x o e; rw [e1] at z; cases z
theorem Le.ok2 {T : Tb} {w w' : Wd} {H H' : Hp} {st : Sto} (l : Le w H w' H') (s : Stok T w H st) : Ok2 w H w' H' := by
  refine ⟨l.pre, fun a o e i => ?_, fun a o e n1 n2 => ⟨l.fr a o e n2, fun z => ?_, fun z => ?_⟩⟩
  · refine l.fr a o e fun z => ?_
    obtain ⟨o', e', n⟩ := s.has z
    rw [e] at e'; cases e'
    exact n i
  · rcases l.S a z with z | z
    · exact n1 z
    · rw [e] at z; cases z
  · rcases l.new a z with z | z
    · exact n2 z
    · rw [e] at z; cases z

/-! ### slots -/
inductive Fl where
  | frz | own | bor | exc
  deriving DecidableEq
abbrev Slot := Option (Fl × D)
abbrev Ev := List Slot

/-- ex: the exception that is handled: its place, its class's name and value, its dict -/
structure Bs where
  w : Wd
  H : Hp
  pin : List (V × D)
  ex : Option (Addr × Str × Value × Addr)

/-- a list that is lent: it stood at the entry -/
def BorAt (K : PySem.W.Frag) (B : Bs) (w : Wd) (H : Hp) (a : Addr) (vs : List V) : Prop := (Rd H a (.lst vs) ∧ a ∉ w.r ∧ B.H a ≠ none) ∨ KLst K a vs
theorem BorAt.to {K : PySem.W.Frag} {B : Bs} {w w' : Wd} {H H' : Hp} {a : Addr} {vs : List V} (h : BorAt K B w H a vs) (hb : ∀ a u, H a = some u → a ∉ w.r → B.H a ≠ none → H' a = some u ∧ a ∉ w'.r) : BorAt K B w' H' a vs := by
  rcases h with ⟨h | ⟨o, h⟩, n, b⟩ | h
  · obtain ⟨q1, q2⟩ := hb a _ h n b
    exact .inl ⟨.inl q1, q2, b⟩
  · obtain ⟨q1, q2⟩ := hb a _ h n b
    exact .inl ⟨.inr ⟨o, q1⟩, q2, b⟩
  · exact .inr h
theorem BorAt.at_ {K : PySem.W.Frag} {B : Bs} {w : Wd} {H : Hp} {a : Addr} {vs : List V} (h : BorAt K B w H a vs) : LstAt K H a vs := by
  rcases h with ⟨h, _⟩ | h
  · exact .inl h
  · exact .inr h
/-- what is walked: it may be kept, or it is lent -/
def PinOk (K : PySem.W.Frag) (B : Bs) (w : Wd) (H : Hp) (p : V × D) : Prop := Rep K w H p.1 p.2 ∨ ∃ a vs ds, p.1 = .ref a ∧ p.2 = .lst ds ∧ Reps K w H vs ds ∧ BorAt K B w H a vs
theorem PinOk.to {K : PySem.W.Frag} {B : Bs} {w w' : Wd} {H H' : Hp} {p : V × D} (h : PinOk K B w H p) (k : Ok2 w H w' H') (hb : ∀ a u, H a = some u → a ∉ w.r → B.H a ≠ none → H' a = some u ∧ a ∉ w'.r) : PinOk K B w' H' p := by
  rcases h with h | ⟨a, vs, ds, e1, e2, r, b⟩
  · exact .inl (Rep.to k _ _ h)
  · exact .inr ⟨a, vs, ds, e1, e2, Reps.to k _ _ r, b.to hb⟩
def SlotOk (K : PySem.W.Frag) (B : Bs) (w : Wd) (H : Hp) (o : Option V) : Slot → Prop
  | none => True
  | some (.frz, d) => ∃ v, o = some v ∧ Rep K w H v d
  | some (.own, d) => ∃ a vs ds, o = some (.ref a) ∧ d = .lst ds ∧ H a = some (.lst vs) ∧ Reps K w H vs ds ∧ w.S a ∧ B.H a = none
  | some (.bor, d) => ∃ a vs ds, o = some (.ref a) ∧ d = .lst ds ∧ Reps K w H vs ds ∧ BorAt K B w H a vs
  | some (.exc, d) => ∃ a c cls dd f v0 e, B.ex = some (a, c, cls, dd) ∧ o = some (.ref a) ∧ d = .tup [.str c, .str f, e] ∧ H dd = some (.xd [(f, v0)]) ∧ ¬ w.S dd ∧ dd ∉ w.r ∧ Rep K w H v0 e

structure Sim (T : Tb) (B : Bs) (w : Wd) (env : Ev) (st : Sto) (σ : St) (H : Hp) : Prop where
  len : σ.length = env.length
  slot : ∀ (i : Nat) s, env[i]? = some s → SlotOk T.K B w H (σ[i]?).join s
  dist : ∀ (i j : Nat) d e a, env[i]? = some (some (.own, d)) → env[j]? = some (some (.own, e)) → (σ[i]?).join = some (.ref a) → (σ[j]?).join = some (.ref a) → i = j
  sto : Stok T w H st
  al : ∀ a, w.S a → H a ≠ none ∧ a ∉ w.r
  le : Le B.w B.H w H
  sub : ∀ a, B.w.S a → w.S a
  bal : ∀ a, B.w.S a → B.H a ≠ none
  pin : ∀ p ∈ B.pin, PinOk T.K B w H p

/-- a slot stays as it is, under what keeps its own list too -/
theorem SlotOk.to {K : PySem.W.Frag} {B : Bs} {w w' : Wd} {H H' : Hp} {o : Option V} {s : Slot} (h : SlotOk K B w H o s) (k : Ok2 w H w' H')
    (hS : ∀ a vs, w.S a → H a = some (.lst vs) → B.H a = none → o = some (.ref a) → H' a = some (.lst vs) ∧ w'.S a)
    (hb : ∀ a u, H a = some u → a ∉ w.r → B.H a ≠ none → H' a = some u ∧ a ∉ w'.r) : SlotOk K B w' H' o s := by
  match s, h with
  | none, _ => trivial
  | some (.frz, d), h => obtain ⟨v, e, r⟩ := h; exact ⟨v, e, Rep.to k _ _ r⟩
  | some (.own, d), h =>
    obtain ⟨a, vs, ds, e, e2, e3, r, s, b⟩ := h
    obtain ⟨q1, q2⟩ := hS a vs s e3 b e
    exact ⟨a, vs, ds, e, e2, q1, Reps.to k _ _ r, q2, b⟩
  | some (.bor, d), h =>
    obtain ⟨a, vs, ds, e, e2, r, b⟩ := h
    exact ⟨a, vs, ds, e, e2, Reps.to k _ _ r, b.to hb⟩
  | some (.exc, d), h =>
    obtain ⟨a, c, cls, dd, f, v0, e, e1, e2, e3, e4, e5, e6, r⟩ := h
    obtain ⟨q1, q2, q3⟩ := k.fr _ _ e4 e5 e6
    exact ⟨a, c, cls, dd, f, v0, e, e1, e2, e3, q1, q2, q3, Rep.to k _ _ r⟩

/-- on by Le, the own lists still own -/
theorem Sim.go {T : Tb} {B : Bs} {w w' : Wd} {env : Ev} {st st' : Sto} {σ : St} {H H' : Hp} (s : Sim T B w env st σ H) (l : Le w H w' H') (hS : ∀ a, w.S a → w'.S a) (hst : Stok T w' H' st') (al : ∀ a, w'.S a → H' a ≠ none ∧ a ∉ w'.r) :
    Sim T B w' env st' σ H' := by
  have k := l.ok2 s.sto
  refine ⟨s.len, fun i sl e => ?_, s.dist, hst, al, s.le.trans l, fun a z => hS a (s.sub a z), s.bal, fun p hp => (s.pin p hp).to k fun a u e3 n b => ⟨l.fr a _ e3 n, fun z => ?_⟩⟩
  · refine (s.slot i sl e).to k (fun a vs z e3 b eo => ⟨l.fr a _ e3 (s.al a z).2, hS a z⟩) fun a u e3 n b => ⟨l.fr a _ e3 n, fun z => ?_⟩
    rcases l.new a z with z | z
    · exact n z
    · rw [e3] at z; cases z
  · rcases l.new a z with z | z
    · exact n z
    · rw [e3] at z; cases z

/-- all cells stay -/
theorem Stok.to {T : Tb} {w w' : Wd} {H H' : Hp} {st : Sto} (s : Stok T w H st) (k : Ok2 w H w' H') (e : ∀ a ∈ w.r, H' a = H a) (er : w'.r = w.r) : Stok T w' H' st := by
  refine ⟨by rw [er]; exact s.len, by rw [er]; exact s.nd, fun i c a h1 h2 => ?_⟩
  rw [er] at h2
  exact (s.at_ i c a h1 h2).to k (e a (List.mem_of_getElem? h2))

/-- a new object that nobody knows -/
theorem Le.push {w : Wd} {H : Hp} {p : Addr} {o : HO} (hp : H p = none) : Le w H w (upd H p o) := by
  refine ⟨fun _ _ e => e, fun a u e _ => ?_, fun a u e => ⟨u, ?_⟩, fun _ h => .inl h, fun _ h => .inl h, fun _ h => h⟩
  · rw [upd_ne (ne_of_none e hp)]; exact e
  · rw [upd_ne (ne_of_none e hp)]; exact e
theorem Sim.push {T : Tb} {B : Bs} {w : Wd} {env : Ev} {st : Sto} {σ : St} {H : Hp} {p : Addr} {o : HO} (s : Sim T B w env st σ H) (hp : H p = none) : Sim T B w env st σ (upd H p o) := by
  have l : Le w H w (upd H p o) := Le.push hp
  refine s.go l (fun _ z => z) (s.sto.to (l.ok2 s.sto) (fun a ha => ?_) rfl) fun a z => ?_
  · obtain ⟨u, e, _⟩ := s.sto.has ha
    rw [upd_ne (ne_of_none e hp)]
  · obtain ⟨h1, h2⟩ := s.al a z
    refine ⟨?_, h2⟩
    cases e : H a with
    | none => exact absurd e h1
    | some u => rw [upd_ne (ne_of_none e hp), e]; exact fun z => nomatch z

/-- the world with one more list that is changed -/
def Wd.add (w : Wd) (p : Addr) : Wd := ⟨fun a => w.S a ∨ a = p, w.r⟩
def Wd.sub (w : Wd) (p : Addr) : Wd := ⟨fun a => w.S a ∧ a ≠ p, w.r⟩
theorem Le.add {w : Wd} {H H' : Hp} {p : Addr} (l : Le w H w H') (hp : H p = none) : Le w H (w.add p) H' :=
  ⟨l.pre, l.fr, l.live, l.new, fun a z => z.elim (fun z => .inl z) fun z => .inr (z ▸ hp), fun a z => .inl (l.Sm a z)⟩
/-- a new list, owned by nobody's name yet -/
theorem Sim.pushO {T : Tb} {B : Bs} {w : Wd} {env : Ev} {st : Sto} {σ : St} {H : Hp} {p : Addr} {o : HO} (s : Sim T B w env st σ H) (hp : H p = none) : Sim T B (w.add p) env st σ (upd H p o) := by
  have l : Le w H (w.add p) (upd H p o) := (Le.push hp).add hp
  have np : ∀ a ∈ w.r, a ≠ p := fun a ha => by
    obtain ⟨u, e, _⟩ := s.sto.has ha
    exact ne_of_none e hp
  refine s.go l (fun _ z => .inl z) (s.sto.to (l.ok2 s.sto) (fun a ha => ?_) rfl) fun a z => ?_
  · rw [upd_ne (np a ha)]
  · rcases z with z | z
    · obtain ⟨h1, h2⟩ := s.al a z
      refine ⟨?_, h2⟩
      cases e : H a with
      | none => exact absurd e h1
      | some u => rw [upd_ne (ne_of_none e hp), e]; exact fun z => nomatch z
    · subst z
      exact ⟨(by rw [upd_same]; intro z; cases z), fun z => np _ z rfl⟩
end NC

/-! ### results, judgements -/
namespace NC
open PySem L2

/-- a raised error: its class, its own attributes -/
structure Exn where
  c : Str
  fs : List (Str × D)
inductive R (α : Type) where
  | ok (a : α) (st : Sto) | exc (x : Exn) (st : Sto) | stuck
def R.bind {α β : Type} : R α → (α → Sto → R β) → R β
  | .ok a st, k => k a st
  | .exc x st, _ => .exc x st
  | .stuck, _ => .stuck
inductive Out where
  | next (env : Ev) (st : Sto) | ret (d : D) (st : Sto) | brk (env : Ev) (st : Sto) | cont (env : Ev) (st : Sto) | exc (x : Exn) (env : Ev) (st : Sto) | stuck
abbrev F := Ev → Sto → R D
abbrev FL := Ev → Sto → R (List D)
abbrev FB := Ev → Sto → R Bool
abbrev FS := Ev → Sto → Out

/-- esc: the value may be kept; rd: it is read alone; fr: a list is new -/
inductive Md where
  | esc | rd | fr
  deriving DecidableEq
abbrev Calls := Str → List (Md × D) → Sto → R D

structure Mo where
  P : Program
  w : World
  T : Tb
  mg : Str → Option Value
  base : Heap
  cl : Calls
  n : Nat
  hot : Bool

/-- the frame at its entry: the base, what is wished of an exception -/
structure Cf where
  T : Tb
  B : Bs
  W : WX

def RepR (K : PySem.W.Frag) (w : Wd) (H : Hp) (v : V) (d : D) : Prop := Rep K w H v d ∨ ∃ a vs ds, v = .ref a ∧ d = .lst ds ∧ (Rd H a (.lst vs) ∧ a ∉ w.r ∨ KLst K a vs) ∧ Reps K w H vs ds
def RepF (K : PySem.W.Frag) (H0 : Hp) (w : Wd) (H : Hp) (v : V) : D → Prop
  | .lst ds => ∃ a vs, v = .ref a ∧ H a = some (.lst vs) ∧ H0 a = none ∧ w.S a ∧ Reps K w H vs ds
  | d => Rep K w H v d
def RepM (K : PySem.W.Frag) (m : Md) (H0 : Hp) (w : Wd) (H : Hp) (v : V) (d : D) : Prop := match m with
  | .esc => Rep K w H v d
  | .rd => RepR K w H v d
  | .fr => RepF K H0 w H v d
theorem RepR.le {T : Tb} {w w' : Wd} {H H' : Hp} {v : V} {d : D} {st : Sto} (h : RepR T.K w H v d) (l : Le w H w' H') (s : Stok T w H st) : RepR T.K w' H' v d := by
  rcases h with h | ⟨a, vs, ds, e1, e2, e3, r⟩
  · exact .inl (Rep.to (l.ok2 s) _ _ h)
  · rcases e3 with ⟨e3, n⟩ | e3
    · have nn : ∀ u, H a = some u → a ∉ w'.r := fun u e z => by
        rcases l.new a z with z | z
        · exact n z
        · rw [e] at z; cases z
      rcases e3 with e3 | ⟨o, e3⟩
      · exact .inr ⟨a, vs, ds, e1, e2, .inl ⟨.inl (l.fr a _ e3 n), nn _ e3⟩, Reps.to (l.ok2 s) _ _ r⟩
      · exact .inr ⟨a, vs, ds, e1, e2, .inl ⟨.inr ⟨o, l.fr a _ e3 n⟩, nn _ e3⟩, Reps.to (l.ok2 s) _ _ r⟩
    · exact .inr ⟨a, vs, ds, e1, e2, .inr e3, Reps.to (l.ok2 s) _ _ r⟩
/-- a value that is read -/
theorem RepR.lst {K : PySem.W.Frag} {w : Wd} {H : Hp} {v : V} {ds : List D} (h : RepR K w H v (.lst ds)) : ∃ a vs, v = .ref a ∧ LstAt K H a vs ∧ True ∧ Reps K w H vs ds := by
  rcases h with h | ⟨a, vs, ds', e1, e2, e3, r⟩
  · cases h with
    | lst h1 h2 h3 h4 => exact ⟨_, _, rfl, .inl h1, trivial, h4⟩
    | klst h1 h4 => exact ⟨_, _, rfl, .inr h1, trivial, h4⟩
  · cases e2; exact ⟨a, vs, e1, e3.imp (fun z => z.1) fun z => z, trivial, r⟩
theorem RepR.tup {K : PySem.W.Frag} {w : Wd} {H : Hp} {v : V} {ds : List D} (h : RepR K w H v (.tup ds)) : ∃ a vs, v = .ref a ∧ SqT K H a vs ∧ Reps K w H vs ds := by
  rcases h with h | ⟨a, vs, ds', e1, e2, e3, r⟩
  · cases h with
    | tup h1 h2 => exact ⟨_, _, rfl, h1, h2⟩
  · cases e2
theorem RepR.non {K : PySem.W.Frag} {w : Wd} {H : Hp} {v : V} (h : RepR K w H v .non) : v = .non := by
  rcases h with h | ⟨a, vs, ds', e1, e2, _⟩
  · cases h; rfl
  · cases e2
theorem RepR.bl {K : PySem.W.Frag} {w : Wd} {H : Hp} {v : V} {b : Bool} (h : RepR K w H v (.bl b)) : v = .bl b := by
  rcases h with h | ⟨a, vs, ds', e1, e2, _⟩
  · cases h; rfl
  · cases e2
theorem RepR.int {K : PySem.W.Frag} {w : Wd} {H : Hp} {v : V} {b : Int} (h : RepR K w H v (.int b)) : v = .int b := by
  rcases h with h | ⟨a, vs, ds', e1, e2, _⟩
  · cases h; rfl
  · cases e2
theorem RepR.str {K : PySem.W.Frag} {w : Wd} {H : Hp} {v : V} {b : Str} (h : RepR K w H v (.str b)) : v = .str b := by
  rcases h with h | ⟨a, vs, ds', e1, e2, _⟩
  · cases h; rfl
  · cases e2
theorem RepR.loc {K : PySem.W.Frag} {w : Wd} {H : Hp} {v : V} {n : Nat} (h : RepR K w H v (.loc n)) : ∃ a, v = .ref a ∧ w.r[n]? = some a := by
  rcases h with h | ⟨a, vs, ds', e1, e2, _⟩
  · cases h with
    | loc e => exact ⟨_, rfl, e⟩
  · cases e2

def XRep (T : Tb) (w : Wd) (H : Hp) (x : Exn) (c : Value) (dx : Option Addr) : Prop :=
  ∃ C, T.cls x.c = some C ∧ c = .ref C ∧ (x.fs = [] ∨ ∃ d fv, dx = some d ∧ H d = some (.xd fv) ∧ Flds T.K w H fv x.fs ∧ ¬ w.S d ∧ d ∉ w.r)

def PostE (C : Cf) (m : Md) (env : Ev) (σ : St) (w : Wd) (H : Hp) (r : R D) (Q : VK) : Prop := match r with
  | .ok d st' => ∀ w' v H', Le w H w' H' → Sim C.T C.B w' env st' σ H' → RepM C.T.K m H w' H' v d → Q v H'
  | .exc x st' => ∀ w' H' c dx, Le w H w' H' → Sim C.T C.B w' env st' σ H' → XRep C.T w' H' x c dx → C.W c dx σ H'
  | .stuck => False
def PostT (C : Cf) (env : Ev) (σ : St) (w : Wd) (H : Hp) (r : R Bool) (Q : Bool → Hp → Prop) : Prop := match r with
  | .ok b st' => ∀ w' H', Le w H w' H' → Sim C.T C.B w' env st' σ H' → Q b H'
  | .exc x st' => ∀ w' H' c dx, Le w H w' H' → Sim C.T C.B w' env st' σ H' → XRep C.T w' H' x c dx → C.W c dx σ H'
  | .stuck => False
inductive RepL (K : PySem.W.Frag) (w : Wd) (H : Hp) : List Md → List V → List D → Prop where
  | nil : RepL K w H [] [] []
  | esc {ms vs ds v d} : Rep K w H v d → RepL K w H ms vs ds → RepL K w H (.esc :: ms) (v :: vs) (d :: ds)
  | rd {ms vs ds v d} : RepR K w H v d → RepL K w H ms vs ds → RepL K w H (.rd :: ms) (v :: vs) (d :: ds)
theorem RepL.le {T : Tb} {w w' : Wd} {H H' : Hp} {ms : List Md} {vs : List V} {ds : List D} {st : Sto} (l : Le w H w' H') (s : Stok T w H st) (h : RepL T.K w H ms vs ds) : RepL T.K w' H' ms vs ds := by
  induction h with
  | nil => exact .nil
  | esc h _ ih => exact .esc (Rep.to (l.ok2 s) _ _ h) ih
  | rd h _ ih => exact .rd (h.le l s) ih
def PostL (C : Cf) (ms : List Md) (env : Ev) (σ : St) (w : Wd) (H : Hp) (r : R (List D)) (Q : List V → Hp → Prop) : Prop := match r with
  | .ok ds st' => ∀ w' vs H', Le w H w' H' → Sim C.T C.B w' env st' σ H' → RepL C.T.K w' H' ms vs ds → Q vs H'
  | .exc x st' => ∀ w' H' c dx, Le w H w' H' → Sim C.T C.B w' env st' σ H' → XRep C.T w' H' x c dx → C.W c dx σ H'
  | .stuck => False
/-- what a def hands back -/
def RetOk (T : Tb) (B : Bs) (st : Sto) (H : Hp) (v : V) (d : D) : Prop := ∃ r, Le B.w B.H ⟨B.w.S, r⟩ H ∧ Stok T ⟨B.w.S, r⟩ H st ∧ Rep T.K ⟨B.w.S, r⟩ H v d
def PostS (C : Cf) (E : Ends) (o : Out) : Prop := match o with
  | .next env st => ∀ w σ H, Sim C.T C.B w env st σ H → E.nx σ H
  | .brk env st => ∀ w σ H, Sim C.T C.B w env st σ H → E.bk σ H
  | .cont env st => ∀ w σ H, Sim C.T C.B w env st σ H → E.ct σ H
  | .ret d st => ∀ v H, RetOk C.T C.B st H v d → E.rt v H
  | .exc x env st => ∀ w σ H c dx, Sim C.T C.B w env st σ H → XRep C.T w H x c dx → C.W c dx σ H
  | .stuck => False

def tE (C : Cf) (m : Md) (f : F) : TE := fun σ H Q => ∃ w env st, Sim C.T C.B w env st σ H ∧ PostE C m env σ w H (f env st) Q
def tT (C : Cf) (f : FB) : TT := fun σ H Q => ∃ w env st, Sim C.T C.B w env st σ H ∧ PostT C env σ w H (f env st) Q
def tL (C : Cf) (ms : List Md) (f : FL) : TA := fun σ H Q => ∃ w env st, Sim C.T C.B w env st σ H ∧ PostL C ms env σ w H (f env st) Q
def tS (C : Cf) (f : FS) : TS := fun E σ H => ∃ w env st, Sim C.T C.B w env st σ H ∧ PostS C E (f env st)

/-- a frame's names: by slot; its scope; of a comprehension's block its own scope -/
structure Ct where
  N : List Str
  sc : Scope
  bk : Option Scope

structure Gd (G : Ct) (M : Mo) (X : Cx) (C : Cf) : Prop where
  p : X.prog = M.P
  w : X.w = M.w
  K : X.K = M.T.K
  T : C.T = M.T
  mg : X.mg = M.mg
  base : X.base = M.base
  N : X.N = G.N
  sc : X.env.scope = G.sc
  nd : X.N.Nodup
  cold : M.hot = false → X.calm = true ∧ Room M.n X.A ∧ C.B.ex = none
  frm : G.bk = none → X.stack = X.env :: X.outer ∧ X.env.frame = some X.env.locals
  hotr : M.hot = true → L2H.RoomH M.n X.A ∧ L2H.HotC X
  exk : ∀ a c cls dd, C.B.ex = some (a, c, cls, dd) → ∃ X0 oe pn, X = L2.Cx.suite X0 a ((a, oe) :: pn) ∧ Zc cls (some dd) oe ∧ (∃ vs, oe.data = .fields vs) ∧ ∃ C0, C.T.cls c = some C0 ∧ cls = .ref C0
  fn : X.fn = match G.bk with | none => fun _ => true | some s => fun x => s.names.lookup x == some .cell
  pown : PassesOwn (model X.prog X.w) X.A X.env X.xe
  tk : L2N.Takes X C.W

theorem Gd.un {G : Ct} {M : Mo} {X : Cx} {C : Cf} (gd : Gd G M X C) : X.A.units + 16 * M.n + 200 < cLine := by
  cases h : M.hot with
  | false => exact (gd.cold h).2.1.un
  | true => exact (gd.hotr h).1.un
theorem Gd.units {G : Ct} {M : Mo} {X : Cx} {C : Cf} (gd : Gd G M X C) : X.A.units + 64 < cLine := by have := gd.un; omega
def SndE (G : Ct) (M : Mo) (m : Md) (e : Expr) (f : F) : Prop := ∀ X C, Gd G M X C → PE X e (tE C m f)
def SndT (G : Ct) (M : Mo) (e : Expr) (f : FB) : Prop := ∀ X C, Gd G M X C → PT X e (tT C f)
def SndL (G : Ct) (M : Mo) (ms : List Md) (es : List Expr) (f : FL) : Prop := ∀ X C, Gd G M X C → PA X es (tL C ms f)
def SndS (G : Ct) (M : Mo) (s : Stmt) (f : FS) : Prop := ∀ X C, Gd G M X C → PS X s (tS C f)
def SndB (G : Ct) (M : Mo) (s : List Stmt) (f : FS) : Prop := ∀ X C, Gd G M X C → PSs X s (tS C f)

theorem _root_.L2.PE.imp {X : Cx} {e : Expr} {t t' : TE} (h : PE X e t) (k : ∀ σ H Q, t' σ H Q → t σ H Q) : PE X e t' := ⟨fun pins s σ H Q I q => h.run pins s σ H Q I (k _ _ _ q)⟩
theorem _root_.L2.PT.imp {X : Cx} {e : Expr} {t t' : TT} (h : PT X e t) (k : ∀ σ H Q, t' σ H Q → t σ H Q) : PT X e t' := ⟨fun pins s σ H Q I q => h.run pins s σ H Q I (k _ _ _ q)⟩
theorem _root_.L2.PA.imp {X : Cx} {e : List Expr} {t t' : TA} (h : PA X e t) (k : ∀ σ H Q, t' σ H Q → t σ H Q) : PA X e t' := ⟨fun pos pins s σ H Q I q => h.run pos pins s σ H Q I (k _ _ _ q)⟩
theorem _root_.L2.PS.imp {X : Cx} {e : Stmt} {t t' : TS} (h : PS X e t) (k : ∀ D σ H, t' D σ H → t D σ H) : PS X e t' := ⟨fun pins s σ H Q I q => h.run pins s σ H Q I (k _ _ _ q)⟩
theorem _root_.L2.PSs.imp {X : Cx} {e : List Stmt} {t t' : TS} (h : PSs X e t) (k : ∀ D σ H, t' D σ H → t D σ H) : PSs X e t' := ⟨fun pins s σ H Q I q => h.run pins s σ H Q I (k _ _ _ q)⟩

section
variable {C : Cf} {m m1 : Md} {env : Ev} {σ : St} {w w1 : Wd} {H H1 : Hp} {st : Sto} {Q : VK}

theorem RepM.shift {K : PySem.W.Frag} {H0 H1 : Hp} {v : V} {d : D} (h : RepM K m H1 w H v d) (k : ∀ a, H1 a = none → H0 a = none) : RepM K m H0 w H v d := by
  cases m with
  | esc => exact h
  | rd => exact h
  | fr =>
    cases d with
    | lst ds =>
      obtain ⟨a, vs, e1, e2, e3, e4, e5⟩ := h
      exact ⟨a, vs, e1, e2, k a e3, e4, e5⟩
    | _ => exact h
theorem Le.back {w w' : Wd} {H H' : Hp} (l : Le w H w' H') {a : Addr} (h : H' a = none) : H a = none := by
  cases e : H a with
  | none => rfl
  | some o => obtain ⟨o', e'⟩ := l.live a o e; rw [h] at e'; cases e'
theorem PostE.le {r : R D} (h : PostE C m env σ w H r Q) (l : Le w H w1 H1) : PostE C m env σ w1 H1 r Q := by
  cases r with
  | ok d st' => exact fun w' v H' l' s rep => h w' v H' (l.trans l') s (rep.shift fun a e => l.back e)
  | exc x st' => exact fun w' H' c dx l' s xr => h w' H' c dx (l.trans l') s xr
  | stuck => exact h
/-- first one operand -/
theorem PostE.bind {r : R D} {k : D → Sto → R D} {R' : VK} (h : PostE C m env σ w H (r.bind k) Q)
    (f : ∀ d st1 w1 v1 H1, Le w H w1 H1 → Sim C.T C.B w1 env st1 σ H1 → RepM C.T.K m1 H w1 H1 v1 d → PostE C m env σ w1 H1 (k d st1) Q → R' v1 H1) : PostE C m1 env σ w H r R' := by
  cases r with
  | ok d st' => exact fun w' v H' l' s rep => f d st' w' v H' l' s rep (PostE.le (r := k d st') h l')
  | exc x st' => exact h
  | stuck => exact h
theorem PostE.done {d : D} {v : V} (h : PostE C m env σ w H (.ok d st) Q) (s : Sim C.T C.B w env st σ H) (r : RepM C.T.K m H w H v d) : Q v H := h w v H (.refl _ _) s r
/-- plain results, in any mode -/
theorem RepM.non {K : PySem.W.Frag} {H0 : Hp} : RepM K m H0 w H .non .non := by cases m <;> first | exact .non | exact .inl .non
theorem RepM.bl {K : PySem.W.Frag} {H0 : Hp} (b : Bool) : RepM K m H0 w H (.bl b) (.bl b) := by cases m <;> first | exact .bl b | exact .inl (.bl b)
theorem RepM.int {K : PySem.W.Frag} {H0 : Hp} (b : Int) : RepM K m H0 w H (.int b) (.int b) := by cases m <;> first | exact .int b | exact .inl (.int b)
theorem RepM.str {K : PySem.W.Frag} {H0 : Hp} (b : Str) : RepM K m H0 w H (.str b) (.str b) := by cases m <;> first | exact .str b | exact .inl (.str b)
theorem RepM.tup {K : PySem.W.Frag} {H0 : Hp} {v : V} {ds : List D} (h : Rep K w H v (.tup ds)) : RepM K m H0 w H v (.tup ds) := by cases m <;> first | exact h | exact .inl h
/-- a new tuple -/
theorem PostE.tup {p : Addr} {vs : List V} {ds : List D} (h : PostE C m env σ w H (.ok (.tup ds) st) Q) (s : Sim C.T C.B w env st σ H) (r : Reps C.T.K w H vs ds) (hp : H p = none) : Q (.ref p) (upd H p (.tup vs)) := by
  have l : Le w H w (upd H p (.tup vs)) := Le.push hp
  exact h w (.ref p) _ l (s.push hp) (RepM.tup (.tup (SqT.of upd_same) (Reps.to (l.ok2 s.sto) _ _ r)))
/-- a new list -/
theorem PostE.lst {p : Addr} {vs : List V} {ds : List D} (h : PostE C .fr env σ w H (.ok (.lst ds) st) Q) (s : Sim C.T C.B w env st σ H) (r : Reps C.T.K w H vs ds) (hp : H p = none) : Q (.ref p) (upd H p (.lst vs)) := by
  have l : Le w H (w.add p) (upd H p (.lst vs)) := (Le.push hp).add hp
  exact h (w.add p) (.ref p) _ l (s.pushO hp) ⟨p, vs, rfl, upd_same, hp, .inr rfl, Reps.to (l.ok2 s.sto) _ _ r⟩
/-- a new list may be kept -/
theorem PostE.ofFr {r : R D} (h : PostE C .esc env σ w H r Q) (s0 : Sim C.T C.B w env st σ H) : PostE C .fr env σ w H r Q := by
  cases r with
  | stuck => exact h
  | exc x st' => exact h
  | ok d st' =>
    intro w' v H' l s rep
    cases d with
    | lst ds =>
      obtain ⟨a, vs, e1, e2, e3, e4, e5⟩ := rep
      have nb : ∀ b, H b ≠ none → b ≠ a := fun b hb z => hb (z ▸ e3)
      have ok : Ok2 w' H' (w'.sub a) H' := ⟨fun _ _ e => e, fun _ _ e _ => e, fun b u e n1 n2 => ⟨e, fun z => n1 z.1, n2⟩⟩
      have s' : Sim C.T C.B (w'.sub a) env st' σ H' := by
        have nB : ∀ b, C.B.w.S b → b ≠ a := fun b z => by
          refine nb b ?_
          have q := s.bal b z
          cases q1 : C.B.H b with
          | none => exact absurd q1 q
          | some o => obtain ⟨o', e'⟩ := s0.le.live b o q1; rw [e']; intro z; cases z
        refine ⟨s.len, fun i sl e => ?_, s.dist, s.sto.to ok (fun _ _ => rfl) rfl, fun b z => s.al b z.1, ⟨s.le.pre, s.le.fr, s.le.live, s.le.new, fun b z => s.le.S b z.1, fun b z => ⟨s.sub b z, nB b z⟩⟩, fun b z => ⟨s.sub b z, nB b z⟩, s.bal, fun p hp => (s.pin p hp).to ok fun a u e n _ => ⟨e, n⟩⟩
        · have q := s.slot i sl e
          have q0 := s0.slot i sl e
          match sl, q, q0 with
          | none, _, _ => trivial
          | some (.frz, d), ⟨v, e, r⟩, _ => exact ⟨v, e, Rep.to ok _ _ r⟩
          | some (.own, d), ⟨b, us, ds, f1, f2, f3, r, f4, f5⟩, ⟨b', us', ds', g1, g2, g3, _⟩ =>
            rw [g1] at f1; cases f1
            exact ⟨_, us, ds, g1, f2, f3, Reps.to ok _ _ r, ⟨f4, nb _ (by rw [g3]; intro z; cases z)⟩, f5⟩
          | some (.bor, d), ⟨b, us, ds, f1, f2, r, f4⟩, _ => exact ⟨b, us, ds, f1, f2, Reps.to ok _ _ r, f4.to fun a u e n _ => ⟨e, n⟩⟩
          | some (.exc, d), ⟨b, c, cls, dd, f, v0, ee, g1, g2, g3, g4, g5, g6, r⟩, _ => exact ⟨b, c, cls, dd, f, v0, ee, g1, g2, g3, g4, fun z => g5 z.1, g6, Rep.to ok _ _ r⟩
      refine h (w'.sub a) v H' ⟨l.pre, l.fr, l.live, l.new, fun b z => l.S b z.1, fun b z => ⟨l.Sm b z, nb b (s0.al b z).1⟩⟩ s' ?_
      subst e1
      exact .lst (.inl e2) (fun z => z.2 rfl) (s.al a e4).2 (Reps.to ok _ _ e5)
    | _ => exact h w' v H' l s rep
end

section
variable {G : Ct} {M : Mo} {m : Md} {e : Expr} {f : F}
theorem SndE.keep (h : SndE G M .fr e f) : SndE G M .esc e f := fun X C g => (h X C g).imp fun σ H Q ⟨w, env, st, s, p⟩ => ⟨w, env, st, s, p.ofFr s⟩
theorem SndE.read (h : SndE G M .esc e f) : SndE G M .rd e f := fun X C g => (h X C g).imp fun σ H Q ⟨w, env, st, s, p⟩ => ⟨w, env, st, s, by
  cases q : f env st with
  | ok d st' => rw [q] at p; exact fun w' v H' l s r => p w' v H' l s (.inl r)
  | exc x st' => rw [q] at p; exact p
  | stuck => rw [q] at p; exact p⟩
end
end NC

/-! ### expressions: names, constants, operators, comparisons, tests -/
namespace NC
open PySem L2

/-! names and constants -/
def bVar (i : Nat) : F := fun env st => match env[i]? with
  | some (some (.frz, d)) => .ok d st
  | _ => .stuck
def bVarR (i : Nat) : F := fun env st => match env[i]? with
  | some (some (.exc, _)) => .stuck
  | some (some (_, d)) => .ok d st
  | _ => .stuck
def bC (d : D) : F := fun _ st => .ok d st
section
variable {G : Ct} {M : Mo} {m : Md} {X : Cx} {C : Cf}

theorem join_some {α : Type} {o : Option (Option α)} {v : α} (h : o.join = some v) : o = some (some v) := by
  cases o with
  | none => cases h
  | some o => exact congrArg some h
theorem sn_var {i : Nat} {x : Str} {pos : Pos} (hN : G.N[i]? = some x) (hv : Vis G.sc x) (hd : (x == ("__debug__" : Str)) = false := by decide) (hcd : (x == ("__classdict__" : Str)) = false := by decide) : SndE G M .esc (.Name x pos) (bVar i) := by
  intro X C g
  refine (pe_var (i := i) (x := x) (by rw [g.N]; exact hN) (by rw [g.sc]; exact hv) hd hcd).imp fun σ H Q ⟨w, env, st, s, p⟩ => ?_
  unfold bVar at p
  cases e : env[i]? with
  | none => rw [e] at p; exact p.elim
  | some sl =>
    rw [e] at p
    match sl, e, p with
    | none, _, p => exact p.elim
    | some (.own, _), _, p => exact p.elim
    | some (.bor, _), _, p => exact p.elim
    | some (.exc, _), _, p => exact p.elim
    | some (.frz, d), e, p =>
      obtain ⟨v, e1, r⟩ := s.slot i _ e
      exact ⟨v, join_some e1, p.done s r⟩
theorem sn_varR {i : Nat} {x : Str} {pos : Pos} (hN : G.N[i]? = some x) (hv : Vis G.sc x) (hd : (x == ("__debug__" : Str)) = false := by decide) (hcd : (x == ("__classdict__" : Str)) = false := by decide) : SndE G M .rd (.Name x pos) (bVarR i) := by
  intro X C g
  refine (pe_var (i := i) (x := x) (by rw [g.N]; exact hN) (by rw [g.sc]; exact hv) hd hcd).imp fun σ H Q ⟨w, env, st, s, p⟩ => ?_
  unfold bVarR at p
  cases e : env[i]? with
  | none => rw [e] at p; exact p.elim
  | some sl =>
    rw [e] at p
    match sl, e, p with
    | none, _, p => exact p.elim
    | some (.own, d), e, p =>
      obtain ⟨a, vs, ds, e1, rfl, e3, r, f4, f5⟩ := s.slot i _ e
      exact ⟨_, join_some e1, p.done s (.inr ⟨a, vs, ds, rfl, rfl, .inl ⟨.inl e3, (s.al a f4).2⟩, r⟩)⟩
    | some (.bor, d), e, p =>
      obtain ⟨a, vs, ds, e1, rfl, r, f4⟩ := s.slot i _ e
      exact ⟨_, join_some e1, p.done s (.inr ⟨a, vs, ds, rfl, rfl, f4.imp (fun z => ⟨z.1, z.2.1⟩) fun z => z, r⟩)⟩
    | some (.exc, _), _, p => exact p.elim
    | some (.frz, d), e, p =>
      obtain ⟨v, e1, r⟩ := s.slot i _ e
      exact ⟨v, join_some e1, p.done s (.inl r)⟩
theorem sn_int {i : Int} {j pos} : SndE G M m (.Constant (.int i) j pos) (bC (.int i)) := fun X C g => pe_int.imp fun σ H Q ⟨w, env, st, s, p⟩ => PostE.done p s (RepM.int i)
theorem sn_str {i : Str} {j pos} : SndE G M m (.Constant (.str i) j pos) (bC (.str i)) := fun X C g => pe_str.imp fun σ H Q ⟨w, env, st, s, p⟩ => PostE.done p s (RepM.str i)
theorem sn_bl {i : Bool} {j pos} : SndE G M m (.Constant (.bool i) j pos) (bC (.bl i)) := fun X C g => pe_bl.imp fun σ H Q ⟨w, env, st, s, p⟩ => PostE.done p s (RepM.bl i)
theorem sn_non {j pos} : SndE G M m (.Constant .none j pos) (bC .non) := fun X C g => pe_non.imp fun σ H Q ⟨w, env, st, s, p⟩ => PostE.done p s RepM.non
/-- a constant of the module -/
structure GlobOk (M : Mo) (x : Str) (d : D) : Prop where
  ex : ∃ (v : V) (u : Value), M.mg x = some u ∧ RelV v u ∧ ∀ w H, Rep M.T.K w H v d
theorem sn_glob {x : Str} {d : D} {pos : Pos} (h : GlobOk M x d) (hg : G.sc.names.lookup x = some .globalImplicit) (hd : (x == ("__debug__" : Str)) = false := by decide) : SndE G M .esc (.Name x pos) (bC d) := by
  obtain ⟨v, u, h1, h2, h3⟩ := h.ex
  intro X C g
  refine (pe_glob (v := v) (by show X.env.scope.names.lookup x = _; rw [g.sc]; exact hg) (by rw [g.mg]; exact h1) h2 hd).imp fun σ H Q ⟨w, env, st, s, p⟩ => ?_
  refine PostE.done p s ?_
  rw [show C.T = M.T from g.T]
  exact h3 w H
end

/-! two operands -/
def bBin (k : D → D → Sto → R D) (f g : F) : F := fun env st => (f env st).bind fun a st1 => (g env st1).bind fun b st2 => k a b st2
/-- what an operation of two values does -/
def OpS (G : Ct) (M : Mo) (m : Md) (op : Value → Value → Sem Value) (k : D → D → Sto → R D) : Prop := ∀ X C, Gd G M X C → ∃ r, OpR X op r ∧
  ∀ env σ w H st d1 d2 v1 v2 Q, Sim C.T C.B w env st σ H → RepR C.T.K w H v1 d1 → RepR C.T.K w H v2 d2 → PostE C m env σ w H (k d1 d2 st) Q → r v1 v2 H Q
section
variable {G : Ct} {M : Mo} {m : Md} {X : Cx} {C : Cf} {a b c : Expr} {f g h : F} {k k' : D → D → Sto → R D} {pos : Pos}
theorem bin_post (r : R2) (gd : Gd G M X C) (ha : SndE G M .rd a f) (hb : SndE G M .rd b g)
    (hr : ∀ env σ w H st d1 d2 v1 v2 Q, Sim C.T C.B w env st σ H → RepR C.T.K w H v1 d1 → RepR C.T.K w H v2 d2 → PostE C m env σ w H (k d1 d2 st) Q → r v1 v2 H Q) :
    ∀ σ H Q, tE C m (bBin k f g) σ H Q → tOp r (tE C .rd f) (tE C .rd g) σ H Q := fun σ H Q ⟨w, env, st, s, p⟩ => by
  refine ⟨w, env, st, s, p.bind fun d st1 w1 v1 H1 l1 s1 r1 p1 => ⟨w1, env, st1, s1, p1.bind fun d2 st2 w2 v2 H2 l2 s2 r2 p2 => ?_⟩⟩
  exact hr env σ w2 H2 st2 d d2 v1 v2 Q s2 (RepR.le r1 l2 s1.sto) r2 p2
theorem sn_bin {op : Operator} (ha : SndE G M .rd a f) (hb : SndE G M .rd b g) (ho : OpS G M m (binaryOp op) k) : SndE G M m (.BinOp a op b pos) (bBin k f g) := by
  intro X C gd
  obtain ⟨r, h1, h2⟩ := ho X C gd
  exact (pe_op h1 (ha X C gd) (hb X C gd)).imp (bin_post r gd ha hb h2)
theorem sn_cmp {op : CmpOp} (ha : SndE G M .rd a f) (hb : SndE G M .rd b g) (ho : OpS G M m (compareOp op) k) (hm : behindInMarks op b = false) : SndE G M m (.Compare a [op] [b] pos) (bBin k f g) := by
  intro X C gd
  obtain ⟨r, h1, h2⟩ := ho X C gd
  exact (pe_cmpR h1 (ha X C gd) (hb X C gd) hm).imp (bin_post r gd ha hb h2)
end

/-! the operations -/
def kAdd : D → D → Sto → R D
  | .int i, .int j, st => .ok (.int (i + j)) st
  | .str i, .str j, st => if i.length + j.length ≤ sizeLine then .ok (.str (i ++ j)) st else .stuck
  | .lst xs, .lst ys, st => if xs.length + ys.length ≤ sizeLine then .ok (.lst (xs ++ ys)) st else .stuck
  | .tup xs, .tup ys, st => if xs.length + ys.length ≤ sizeLine then .ok (.tup (xs ++ ys)) st else .stuck
  | _, _, _ => .stuck
def kSub : D → D → Sto → R D
  | .int i, .int j, st => .ok (.int (i - j)) st
  | _, _, _ => .stuck
def kMul : D → D → Sto → R D
  | .int i, .int j, st => if (-(2 ^ 64) < i ∧ i < 2 ^ 64) ∨ (-(2 ^ 64) < j ∧ j < 2 ^ 64) then .ok (.int (i * j)) st else .stuck
  | _, _, _ => .stuck
def kFdiv : D → D → Sto → R D
  | .int i, .int j, st => if 0 < j ∧ j < 1073741824 then .ok (.int (i / j)) st else .stuck
  | _, _, _ => .stuck
def kMod : D → D → Sto → R D
  | .int i, .int j, st => if 0 < j then .ok (.int (i % j)) st else .stuck
  | _, _, _ => .stuck
def kPow : D → D → Sto → R D
  | .int i, .int j, st => if 0 ≤ j ∧ j ≤ 1000000 ∧ i.natAbs < 2 ^ 64 then .ok (.int (i ^ j.toNat)) st else .stuck
  | _, _, _ => .stuck
def kCmp (p : Int → Int → Bool) : D → D → Sto → R D
  | .int i, .int j, st => .ok (.bl (p i j)) st
  | _, _, _ => .stuck
abbrev kLt := kCmp fun i j => decide (i < j)
abbrev kLe := kCmp fun i j => decide (i ≤ j)
abbrev kGt := kCmp fun i j => decide (j < i)
abbrev kGe := kCmp fun i j => decide (j ≤ i)

theorem _root_.L2.Inv.lstR {X : Cx} {pins : List (Addr × Obj)} {σ : St} {H : Hp} {s : Shared} {l : Addr} {xs : List V} (I : Inv X pins σ H s) (h : LstAt X.K H l xs) :
    xs.length ≤ sizeLine ∧ ∃ its n, Vals xs its ∧ xs.length = its.length ∧ s.heap.get? l = some { cls := Value.type "list", data := Data.seq its.toArray n } := by
  rcases h with h | ⟨its, n, e, hz, r⟩
  · obtain ⟨z, its, n, r, e⟩ := h.ok I.hok
    exact ⟨z, its, n, r, r.length, e⟩
  · exact ⟨hz, its, n, r, r.length, I.kIn l _ e⟩
def rCatR (K : PySem.W.Frag) : R2 := fun x y H Q => ∃ l b xs zs, x = .ref l ∧ y = .ref b ∧ LstAt K H l xs ∧ LstAt K H b zs ∧ xs.length + zs.length ≤ sizeLine ∧ ∀ p, H p = none → Q (.ref p) (upd H p (.lst (xs ++ zs)))
theorem op_catR {X : Cx} : OpR X (binaryOp .Add) (rCatR X.K) := by
  intro pins s σ H x y v u Q I rx ry h
  obtain ⟨l, b, xs, zs, rfl, rfl, hH, hB, hz, q⟩ := h
  cases rx
  cases ry
  obtain ⟨z, its, n, r, hl, e⟩ := I.lstR hH
  obtain ⟨z2, its2, n2, r2, hl2, e2⟩ := I.lstR hB
  refine PySem.P.add_list e e2 ?_ (by rw [List.size_toArray, List.size_toArray]; omega)
  have ea : its.toArray ++ its2.toArray = (its ++ its2).toArray := by simp
  rw [ea]
  exact ⟨.ref _, _, I.lnew (t' := s.toks) (r.append r2) (by rw [List.length_append]; omega), rfl, q _ I.fresh⟩

section
variable {G : Ct} {M : Mo} {m : Md} {X : Cx} {C : Cf}
theorem os_add : OpS G M .fr (binaryOp .Add) kAdd := by
  intro X C g
  refine ⟨_, op_add.or (op_add_str.or (op_catR.or op_catA)), fun env σ w H st d1 d2 v1 v2 Q s r1 r2 p => ?_⟩
  unfold kAdd at p
  rw [show X.K = C.T.K from g.K.trans (by rw [g.T])]
  split at p
  · cases r1.int; cases r2.int
    exact .inl ⟨_, _, rfl, rfl, p.done s (RepM.int _)⟩
  · split at p
    · cases r1.str; cases r2.str
      exact .inr (.inl ⟨_, _, rfl, rfl, by assumption, p.done s (RepM.str _)⟩)
    · exact p.elim
  · split at p
    · obtain ⟨a, vs, rfl, e1, n1, q1⟩ := r1.lst
      obtain ⟨b, us, rfl, e2, n2, q2⟩ := r2.lst
      refine .inr (.inr (.inl ⟨a, b, vs, us, rfl, rfl, e1, e2, by rw [q1.length, q2.length]; assumption, fun pp hp => p.lst s (q1.append q2) hp⟩))
    · exact p.elim
  · rename_i xs ys
    split at p
    · obtain ⟨a, vs, rfl, e1, q1⟩ := r1.tup
      obtain ⟨b, us, rfl, e2, q2⟩ := r2.tup
      refine .inr (.inr (.inr ⟨a, b, vs, us, rfl, rfl, e1, e2, by rw [q1.length, q2.length]; assumption, ?_⟩))
      have fin : ∀ z, Rep C.T.K w H z (.tup (xs ++ ys)) → Q z H := fun z hz => p.done s hz
      refine ⟨fun e => fin _ ?_, fun h1 h2 => fin _ ?_, fun h1 h2 pp hp => p.tup s (q1.append q2) hp⟩
      · have := q1.append q2
        rw [e] at this q1
        cases q1
        exact .tup e2 this
      · have := q1.append q2
        rw [h2] at q2
        cases q2
        rw [List.append_nil] at this ⊢
        exact .tup e1 q1
    · exact p.elim
  · exact p.elim
theorem os_int {op : Value → Value → Sem Value} {c : Int → Int → Prop} {gf : Int → Int → Int} {k : D → D → Sto → R D} (ho : ∀ X : Cx, OpR X op (rI c fun i j => .int (gf i j)))
    (hk : ∀ d1 d2 st, k d1 d2 st = .stuck ∨ ∃ i j, d1 = .int i ∧ d2 = .int j ∧ c i j ∧ k d1 d2 st = .ok (.int (gf i j)) st) : OpS G M m op k := by
  intro X C g
  refine ⟨_, ho X, fun env σ w H st d1 d2 v1 v2 Q s r1 r2 p => ?_⟩
  rcases hk d1 d2 st with e | ⟨i, j, rfl, rfl, hc, e⟩
  · rw [e] at p; exact p.elim
  · rw [e] at p
    cases r1.int; cases r2.int
    exact ⟨i, j, rfl, rfl, hc, p.done s (RepM.int _)⟩
theorem os_sub : OpS G M m (binaryOp .Sub) kSub := by
  refine os_int (c := fun _ _ => True) (gf := fun i j => i - j) (fun X => ?_) fun d1 d2 st => ?_
  · intro pins s σ H x y v u Q I rx ry ⟨i, j, e1, e2, _, q⟩
    exact op_sub pins s σ H x y v u Q I rx ry ⟨i, j, e1, e2, q⟩
  · unfold kSub
    split
    · exact .inr ⟨_, _, rfl, rfl, trivial, rfl⟩
    · exact .inl rfl
theorem os_mul : OpS G M m (binaryOp .Mult) kMul := by
  refine os_int (c := CMul) (gf := fun i j => i * j) (fun X => op_mul) fun d1 d2 st => ?_
  unfold kMul
  split
  · split
    · exact .inr ⟨_, _, rfl, rfl, by assumption, rfl⟩
    · exact .inl rfl
  · exact .inl rfl
theorem os_fdiv : OpS G M m (binaryOp .FloorDiv) kFdiv := by
  refine os_int (c := CDiv) (gf := fun i j => i / j) (fun X => op_fdiv) fun d1 d2 st => ?_
  unfold kFdiv
  split
  · split
    · exact .inr ⟨_, _, rfl, rfl, by assumption, rfl⟩
    · exact .inl rfl
  · exact .inl rfl
theorem os_mod : OpS G M m (binaryOp .Mod) kMod := by
  refine os_int (c := fun _ j => 0 < j) (gf := fun i j => i % j) (fun X => op_mod) fun d1 d2 st => ?_
  unfold kMod
  split
  · split
    · exact .inr ⟨_, _, rfl, rfl, by assumption, rfl⟩
    · exact .inl rfl
  · exact .inl rfl
theorem os_pow : OpS G M m (binaryOp .Pow) kPow := by
  refine os_int (c := CPow) (gf := fun i j => i ^ j.toNat) (fun X => op_pow) fun d1 d2 st => ?_
  unfold kPow
  split
  · split
    · exact .inr ⟨_, _, rfl, rfl, by assumption, rfl⟩
    · exact .inl rfl
  · exact .inl rfl
theorem os_cmp {op : CmpOp} {q : Int → Int → Bool} (ho : ∀ X : Cx, OpR X (compareOp op) (rI0 fun i j => .bl (q i j))) : OpS G M m (compareOp op) (kCmp q) := by
  intro X C g
  refine ⟨_, ho X, fun env σ w H st d1 d2 v1 v2 Q s r1 r2 p => ?_⟩
  unfold kCmp at p
  split at p
  · cases r1.int; cases r2.int
    exact ⟨_, _, rfl, rfl, p.done s (RepM.bl _)⟩
  · exact p.elim
theorem os_lt : OpS G M m (compareOp .Lt) kLt := os_cmp fun X => op_lt
theorem os_le : OpS G M m (compareOp .LtE) kLe := os_cmp fun X => op_le
theorem os_gt : OpS G M m (compareOp .Gt) kGt := os_cmp fun X => op_gt
theorem os_ge : OpS G M m (compareOp .GtE) kGe := os_cmp fun X => op_ge
end

/-! == and != of data -/
mutual
def D.py : D → PyData
  | .non => .none
  | .bl b => .bool b
  | .int i => .int i
  | .str x => .str x
  | .tup xs => .tuple (D.pys xs)
  | .lst xs => .list (D.pys xs)
  | .loc _ => .dict []
def D.pys : List D → List PyData
  | [] => []
  | d :: ds => d.py :: D.pys ds
end
theorem D.pys_map : ∀ ds : List D, D.pys ds = ds.map D.py
  | [] => rfl
  | d :: ds => by rw [D.pys, D.pys_map ds]; rfl
mutual
/-- no object within -/
def D.flat : D → Bool
  | .loc _ => false
  | .tup xs => D.flats xs
  | .lst xs => D.flats xs
  | _ => true
def D.flats : List D → Bool
  | [] => true
  | d :: ds => d.flat && D.flats ds
end
mutual
theorem Rep.dp {K : PySem.W.Frag} {w : Wd} {H : Hp} : ∀ (d : D) (v : V), d.py.canLay0 = true → Rep K w H v d → Dp K H v d.py
  | .non, _, _, h => by cases h; exact .non
  | .bl b, _, _, h => by cases h; exact .bl b
  | .int i, _, _, h => by cases h; exact .int i
  | .str x, _, _, h => by cases h; exact .str x
  | .loc n, _, q, h => by
    have : (D.loc n).py.canLay0 = false := by simp [D.py, PyData.canLay0]
    rw [this] at q; cases q
  | .tup ds, _, q, h => by
    cases h with
    | tup s r =>
      rw [D.py, PyData.canLay0] at q
      exact .tup s (Reps.dp ds _ q r)
  | .lst ds, _, q, h => by
    cases h with
    | lst s n1 n2 r =>
      rw [D.py, PyData.canLay0] at q
      exact .lst (.inl s) (Reps.dp ds _ q r)
    | klst s r =>
      rw [D.py, PyData.canLay0] at q
      exact .lst (LstAt.sq (H := H) (.inr s)) (Reps.dp ds _ q r)
theorem Reps.dp {K : PySem.W.Frag} {w : Wd} {H : Hp} : ∀ (ds : List D) (vs : List V), PyData.canLayAll0 (D.pys ds) = true → Reps K w H vs ds → DpAll K H vs (D.pys ds)
  | [], _, _, h => by cases h; exact .nil
  | d :: ds, _, q, h => by
    cases h with
    | cons h1 h2 =>
      rw [D.pys, PyData.canLayAll0, Bool.and_eq_true] at q
      exact .cons (Rep.dp d _ q.1 h1) (Reps.dp ds _ q.2 h2)
end
theorem RepR.dp {K : PySem.W.Frag} {w : Wd} {H : Hp} {d : D} {v : V} (q : SeqAt.shaped d.py = true) (h : RepR K w H v d) : Dp K H v d.py := by
  have q' := SeqAt.canLay_of_shaped q
  rcases h with h | ⟨a, vs, ds, rfl, rfl, e3, r⟩
  · exact Rep.dp _ _ q' h
  · rw [D.py, PyData.canLay0] at q'
    exact .lst (LstAt.sq (e3.imp (fun z => z.1) fun z => z)) (Reps.dp ds _ q' r)
/-- == of two values -/
def eqv : D → D → Option Bool
  | .int i, .int j => some (decide (i = j))
  | .str i, .str j => some (decide (i = j))
  | .bl i, .bl j => some (decide (i = j))
  | .non, .int _ => some false
  | .int _, .non => some false
  | .non, .str _ => some false
  | .str _, .non => some false
  | .non, .bl _ => some false
  | .bl _, .non => some false
  | .non, .non => some true
  | .int _, .str _ => some false
  | .str _, .int _ => some false
  | .bl _, .str _ => some false
  | .str _, .bl _ => some false
  | d, e => if SeqAt.shaped d.py = true ∧ SeqAt.shaped e.py = true then some (PyData.eqv d.py e.py) else none
def kEq : D → D → Sto → R D := fun d e st => match eqv d e with
  | some b => .ok (.bl b) st
  | none => .stuck
def kNe : D → D → Sto → R D := fun d e st => match eqv d e with
  | some b => .ok (.bl (!b)) st
  | none => .stuck
theorem eqv_cases (d e : D) (b : Bool) (h : eqv d e = some b) : (∃ x y : V, (∀ K w H v, RepR K w H v d → v = x) ∧ (∀ K w H v, RepR K w H v e → v = y) ∧ scal x y = true ∧ decide (x = y) = b) ∨ (SeqAt.shaped d.py = true ∧ SeqAt.shaped e.py = true ∧ PyData.eqv d.py e.py = b) := by
  unfold eqv at h
  split at h
  all_goals first
    | (cases h; refine .inl ⟨_, _, fun K w H v r => r.int, fun K w H v r => r.int, rfl, ?_⟩; simp; done)
    | (cases h; refine .inl ⟨_, _, fun K w H v r => r.str, fun K w H v r => r.str, rfl, ?_⟩; simp; done)
    | (cases h; refine .inl ⟨_, _, fun K w H v r => r.bl, fun K w H v r => r.bl, rfl, ?_⟩; simp; done)
    | (cases h; refine .inl ⟨_, _, fun K w H v r => r.non, fun K w H v r => r.int, rfl, ?_⟩; simp; done)
    | (cases h; refine .inl ⟨_, _, fun K w H v r => r.int, fun K w H v r => r.non, rfl, ?_⟩; simp; done)
    | (cases h; refine .inl ⟨_, _, fun K w H v r => r.non, fun K w H v r => r.str, rfl, ?_⟩; simp; done)
    | (cases h; refine .inl ⟨_, _, fun K w H v r => r.str, fun K w H v r => r.non, rfl, ?_⟩; simp; done)
    | (cases h; refine .inl ⟨_, _, fun K w H v r => r.non, fun K w H v r => r.bl, rfl, ?_⟩; simp; done)
    | (cases h; refine .inl ⟨_, _, fun K w H v r => r.bl, fun K w H v r => r.non, rfl, ?_⟩; simp; done)
    | (cases h; refine .inl ⟨_, _, fun K w H v r => r.non, fun K w H v r => r.non, rfl, ?_⟩; simp; done)
    | (cases h; refine .inl ⟨_, _, fun K w H v r => r.int, fun K w H v r => r.str, rfl, ?_⟩; simp; done)
    | (cases h; refine .inl ⟨_, _, fun K w H v r => r.str, fun K w H v r => r.int, rfl, ?_⟩; simp; done)
    | (cases h; refine .inl ⟨_, _, fun K w H v r => r.bl, fun K w H v r => r.str, rfl, ?_⟩; simp; done)
    | (cases h; refine .inl ⟨_, _, fun K w H v r => r.str, fun K w H v r => r.bl, rfl, ?_⟩; simp; done)
    | (split at h
       · rename_i hc
         exact .inr ⟨hc.1, hc.2, Option.some.inj h⟩
       · cases h)
section
variable {G : Ct} {M : Mo} {m : Md} {X : Cx} {C : Cf}
theorem os_eq : OpS G M m (compareOp .Eq) kEq := by
  intro X C g
  refine ⟨_, op_eq.or (op_eqD g.units), fun env σ w H st d1 d2 v1 v2 Q s r1 r2 p => ?_⟩
  rw [show X.K = C.T.K from g.K.trans (by rw [g.T])]
  unfold kEq at p
  cases e : eqv d1 d2 with
  | none => rw [e] at p; exact p.elim
  | some b =>
    rw [e] at p
    have fin : Q (.bl b) H := PostE.done p s (RepM.bl _)
    rcases eqv_cases _ _ _ e with ⟨x, y, h1, h2, h3, h4⟩ | ⟨h1, h2, h3⟩
    · rw [h1 _ _ _ _ r1, h2 _ _ _ _ r2]
      exact .inl ⟨h3, by rw [h4]; exact fin⟩
    · exact .inr ⟨_, _, r1.dp h1, r2.dp h2, h1, h2, by rw [h3]; exact fin⟩
theorem os_ne : OpS G M m (compareOp .NotEq) kNe := by
  intro X C g
  refine ⟨_, op_ne.or (op_neD g.units), fun env σ w H st d1 d2 v1 v2 Q s r1 r2 p => ?_⟩
  rw [show X.K = C.T.K from g.K.trans (by rw [g.T])]
  unfold kNe at p
  cases e : eqv d1 d2 with
  | none => rw [e] at p; exact p.elim
  | some b =>
    rw [e] at p
    have fin : Q (.bl (!b)) H := PostE.done p s (RepM.bl _)
    rcases eqv_cases _ _ _ e with ⟨x, y, h1, h2, h3, h4⟩ | ⟨h1, h2, h3⟩
    · rw [h1 _ _ _ _ r1, h2 _ _ _ _ r2]
      exact .inl ⟨h3, by rw [h4]; exact fin⟩
    · exact .inr ⟨_, _, r1.dp h1, r2.dp h2, h1, h2, by rw [h3]; exact fin⟩
end
end NC

/-! ### chains, tests, in, subscripts, displays, argument lists -/
namespace NC
open PySem L2

/-! in -/
def D.atom : D → Bool
  | .non => true | .bl _ => true | .int _ => true | .str _ => true
  | _ => false
def eqA : D → D → Bool
  | .non, .non => true
  | .bl a, .bl b => a == b
  | .bl a, .int b => (if a then 1 else 0) == b
  | .int a, .bl b => a == (if b then 1 else 0)
  | .int a, .int b => a == b
  | .str a, .str b => a == b
  | _, _ => false
def inD : D → D → Option Bool
  | d, .lst ds => if d.atom = true ∧ ds.all D.atom = true then some (ds.any fun y => eqA y d)
      else if SeqAt.shaped d.py = true ∧ SeqAt.shaped (D.lst ds).py = true then some (ds.any fun z => PyData.eqv z.py d.py) else none
  | d, .tup ds => if d.atom = true ∧ ds.all D.atom = true then some (ds.any fun y => eqA y d) else none
  | .str c, .str z => if c.cps.size = 1 then some (decide (c.cps.getD 0 0 ∈ z.cps.toList)) else none
  | _, _ => none
def kIn : D → D → Sto → R D := fun d e st => match inD d e with
  | some b => .ok (.bl b) st
  | none => .stuck
def kNotIn : D → D → Sto → R D := fun d e st => match inD d e with
  | some b => .ok (.bl (!b)) st
  | none => .stuck
theorem atom_v {K : PySem.W.Frag} {w : Wd} {H : Hp} {d : D} {v : V} (a : d.atom = true) (r : RepR K w H v d) : flatV v = true := by
  cases d with
  | non => rw [r.non]; rfl
  | bl b => rw [r.bl]; rfl
  | int b => rw [r.int]; rfl
  | str b => rw [r.str]; rfl
  | _ => cases a
theorem atoms_v {K : PySem.W.Frag} {w : Wd} {H : Hp} : ∀ {ds : List D} {vs : List V}, ds.all D.atom = true → Reps K w H vs ds → vs.all flatV = true
  | _, _, _, .nil => rfl
  | d :: ds, _, a, .cons r t => by
    rw [List.all_cons, Bool.and_eq_true] at a ⊢
    exact ⟨atom_v a.1 (.inl r), atoms_v a.2 t⟩
theorem eqA_v {K : PySem.W.Frag} {w : Wd} {H : Hp} {d e : D} {v u : V} (a : d.atom = true) (b : e.atom = true) (r : RepR K w H v d) (q : RepR K w H u e) : eqV v u = eqA d e := by
  cases d with
  | non => rw [r.non]; cases e with
    | non => rw [q.non]; rfl
    | bl b => rw [q.bl]; rfl
    | int b => rw [q.int]; rfl
    | str b => rw [q.str]; rfl
    | _ => cases b
  | bl b => rw [r.bl]; cases e with
    | non => rw [q.non]; rfl
    | bl b => rw [q.bl]; rfl
    | int b => rw [q.int]; rfl
    | str b => rw [q.str]; rfl
    | _ => cases b
  | int b => rw [r.int]; cases e with
    | non => rw [q.non]; rfl
    | bl b => rw [q.bl]; rfl
    | int b => rw [q.int]; rfl
    | str b => rw [q.str]; rfl
    | _ => cases b
  | str b => rw [r.str]; cases e with
    | non => rw [q.non]; rfl
    | bl b => rw [q.bl]; rfl
    | int b => rw [q.int]; rfl
    | str b => rw [q.str]; rfl
    | _ => cases b
  | _ => cases a
theorem any_v {K : PySem.W.Frag} {w : Wd} {H : Hp} {d : D} {v : V} (a : d.atom = true) (r : RepR K w H v d) : ∀ {ds : List D} {vs : List V}, ds.all D.atom = true → Reps K w H vs ds → (vs.any fun y => eqV y v) = ds.any fun y => eqA y d
  | _, _, _, .nil => rfl
  | e :: ds, _, b, .cons q t => by
    rw [List.all_cons, Bool.and_eq_true] at b
    rw [List.any_cons, List.any_cons, eqA_v b.1 a (.inl q) r, any_v a r b.2 t]
section
variable {G : Ct} {M : Mo} {m : Md} {X : Cx} {C : Cf}
theorem in_cases {K : PySem.W.Frag} {w : Wd} {H : Hp} {d e : D} {v u : V} {b : Bool} (h : inD d e = some b) (r : RepR K w H v d) (q : RepR K w H u e) :
    (∃ p xs, u = .ref p ∧ (SqL K H p xs ∨ SqT K H p xs) ∧ flatV v = true ∧ xs.all flatV = true ∧ inV v xs = b) ∨
    (∃ d ds, Dp K H v d ∧ Dp K H u (.list ds) ∧ SeqAt.shaped d = true ∧ SeqAt.shaped (.list ds) = true ∧ (ds.any fun z => PyData.eqv z d) = b) ∨
    (∃ (c : Nat) (z : Str), v = .str ⟨#[c]⟩ ∧ u = .str z ∧ decide (c ∈ z.cps.toList) = b) := by
  unfold inD at h
  split at h
  · rename_i d ds
    obtain ⟨a, vs, e1, e3, n, rs⟩ := q.lst
    subst e1
    split at h
    · rename_i hc
      exact .inl ⟨a, vs, rfl, .inl e3.sq, atom_v hc.1 r, atoms_v hc.2 rs, by unfold inV; rw [any_v hc.1 r hc.2 rs]; exact Option.some.inj h⟩
    · split at h
      · rename_i hc
        refine .inr (.inl ⟨_, _, r.dp hc.1, q.dp hc.2, hc.1, hc.2, ?_⟩)
        rw [D.pys_map, List.any_map]
        exact Option.some.inj h
      · cases h
  · rename_i d ds
    obtain ⟨a, vs, e1, e3, rs⟩ := q.tup
    subst e1
    split at h
    · rename_i hc
      exact .inl ⟨a, vs, rfl, .inr e3, atom_v hc.1 r, atoms_v hc.2 rs, by unfold inV; rw [any_v hc.1 r hc.2 rs]; exact Option.some.inj h⟩
    · cases h
  · rename_i c z
    split at h
    · rename_i hc
      refine .inr (.inr ⟨c.cps.getD 0 0, z, ?_, q.str, Option.some.inj h⟩)
      rw [r.str]
      congr 1
      cases c with
      | mk a =>
        cases a with
        | mk l =>
          match l, hc with
          | [x], _ => rfl
    · cases h
  · cases h
theorem os_in : OpS G M m (compareOp .In) kIn := by
  intro X C g
  refine ⟨_, op_in_seq.or ((op_inD (by have := g.un; omega)).or op_in_sign), fun env σ w H st d1 d2 v1 v2 Q s r1 r2 p => ?_⟩
  rw [show X.K = C.T.K from g.K.trans (by rw [g.T])]
  unfold kIn at p
  cases e : inD d1 d2 with
  | none => rw [e] at p; exact p.elim
  | some b =>
    rw [e] at p
    have fin : Q (.bl b) H := PostE.done p s (RepM.bl _)
    rcases in_cases e r1 r2 with ⟨a, xs, h1, h2, h3, h4, h5⟩ | ⟨d, ds, h1, h2, h3, h4, h5⟩ | ⟨c, z, h1, h2, h3⟩
    · exact .inl ⟨a, xs, h1, h2, h3, h4, by rw [h5]; exact fin⟩
    · exact .inr (.inl ⟨d, ds, h1, h2, h3, h4, by rw [h5]; exact fin⟩)
    · exact .inr (.inr ⟨c, z, h1, h2, by rw [h3]; exact fin⟩)
theorem os_notIn : OpS G M m (compareOp .NotIn) kNotIn := by
  intro X C g
  refine ⟨_, op_notIn_seq.or ((op_notInD (by have := g.un; omega)).or op_notIn_sign), fun env σ w H st d1 d2 v1 v2 Q s r1 r2 p => ?_⟩
  rw [show X.K = C.T.K from g.K.trans (by rw [g.T])]
  unfold kNotIn at p
  cases e : inD d1 d2 with
  | none => rw [e] at p; exact p.elim
  | some b =>
    rw [e] at p
    have fin : Q (.bl (!b)) H := PostE.done p s (RepM.bl _)
    rcases in_cases e r1 r2 with ⟨a, xs, h1, h2, h3, h4, h5⟩ | ⟨d, ds, h1, h2, h3, h4, h5⟩ | ⟨c, z, h1, h2, h3⟩
    · exact .inl ⟨a, xs, h1, h2, h3, h4, by rw [h5]; exact fin⟩
    · exact .inr (.inl ⟨d, ds, h1, h2, h3, h4, by rw [h5]; exact fin⟩)
    · exact .inr (.inr ⟨c, z, h1, h2, by rw [h3]; exact fin⟩)
end

/-! truth, tests -/
def truD : D → Sto → Option Bool
  | .non, _ => some false
  | .bl b, _ => some b
  | .int i, _ => some (i != 0)
  | .str y, _ => if y.length ≤ sizeLine then some ((y.length : Int) != 0) else none
  | .lst ds, _ => some (!ds.isEmpty)
  | .tup ds, _ => some (!ds.isEmpty)
  | .loc n, st => match st[n]? with
    | some (.lst ds) => some (!ds.isEmpty)
    | _ => none
theorem isEmpty_r {K : PySem.W.Frag} {w : Wd} {H : Hp} {vs : List V} {ds : List D} (r : Reps K w H vs ds) : vs.isEmpty = ds.isEmpty := by cases r <;> rfl
theorem tru_v {T : Tb} {w : Wd} {H : Hp} {v : V} {d : D} {b : Bool} {st : Sto} (h : truD d st = some b) (r : RepR T.K w H v d) (s : Stok T w H st) : TruV T.K v H b := by
  cases d with
  | non => rw [r.non]; exact (Option.some.inj h).symm
  | bl b => rw [r.bl]; exact (Option.some.inj h).symm
  | int b => rw [r.int]; exact (Option.some.inj h).symm
  | str b =>
    rw [r.str]
    unfold truD at h
    simp only at h
    split at h
    · exact ⟨by assumption, (Option.some.inj h).symm⟩
    · cases h
  | lst ds =>
    obtain ⟨a, vs, e1, e3, n, rs⟩ := r.lst
    rw [e1]
    exact .inl ⟨vs, e3.sq, by rw [isEmpty_r rs]; exact (Option.some.inj h).symm⟩
  | tup ds =>
    obtain ⟨a, vs, e1, e3, rs⟩ := r.tup
    rw [e1]
    exact .inr (.inl ⟨vs, e3, by rw [isEmpty_r rs]; exact (Option.some.inj h).symm⟩)
  | loc n =>
    obtain ⟨a, e1, e2⟩ := r.loc
    rw [e1]
    unfold truD at h
    simp only at h
    cases q : st[n]? with
    | none => rw [q] at h; cases h
    | some c =>
      rw [q] at h
      cases c with
      | lst ds =>
        obtain ⟨vs, h1, h2⟩ := s.at_ _ _ _ q e2
        exact .inl ⟨vs, SqL.of h1, by rw [isEmpty_r h2]; exact (Option.some.inj h).symm⟩
      | _ => cases h
def rTru (r : R D) : R Bool := r.bind fun d st => match truD d st with
  | some b => .ok b st
  | none => .stuck
/-- an expression as a test -/
def bTru (f : F) : FB := fun env st => rTru (f env st)
/-- what gives a bool, as a test -/
def rBl (r : R D) : R Bool := r.bind fun d st => match d with
  | .bl b => .ok b st
  | _ => .stuck
def bTst (f : F) : FB := fun env st => rBl (f env st)
def bNotT (f : FB) : FB := fun env st => (f env st).bind fun b st1 => .ok (!b) st1
def bAndT (f g : FB) : FB := fun env st => (f env st).bind fun b st1 => if b = true then g env st1 else .ok false st1
def bOrT (f g : FB) : FB := fun env st => (f env st).bind fun b st1 => if b = true then .ok true st1 else g env st1
section
variable {C : Cf} {m m1 : Md} {env : Ev} {σ : St} {w w1 : Wd} {H H1 : Hp} {st : Sto} {Q : VK}
theorem PostT.le {r : R Bool} {Q : Bool → Hp → Prop} (h : PostT C env σ w H r Q) (l : Le w H w1 H1) : PostT C env σ w1 H1 r Q := by
  cases r with
  | ok d st' => exact fun w' H' l' s => h w' H' (l.trans l') s
  | exc x st' => exact fun w' H' c dx l' s xr => h w' H' c dx (l.trans l') s xr
  | stuck => exact h
theorem PostL.le {r : R (List D)} {ms : List Md} {Q : List V → Hp → Prop} (h : PostL C ms env σ w H r Q) (l : Le w H w1 H1) : PostL C ms env σ w1 H1 r Q := by
  cases r with
  | ok d st' => exact fun w' vs H' l' s rep => h w' vs H' (l.trans l') s rep
  | exc x st' => exact fun w' H' c dx l' s xr => h w' H' c dx (l.trans l') s xr
  | stuck => exact h
/-- first an operand, then a test -/
theorem PostT.bindE {r : R D} {k : D → Sto → R Bool} {Q : Bool → Hp → Prop} {R' : VK} (h : PostT C env σ w H (r.bind k) Q)
    (f : ∀ d st1 w1 v1 H1, Le w H w1 H1 → Sim C.T C.B w1 env st1 σ H1 → RepM C.T.K m1 H w1 H1 v1 d → PostT C env σ w1 H1 (k d st1) Q → R' v1 H1) : PostE C m1 env σ w H r R' := by
  cases r with
  | ok d st' => exact fun w' v H' l' s rep => f d st' w' v H' l' s rep (PostT.le (r := k d st') h l')
  | exc x st' => exact h
  | stuck => exact h
theorem PostT.bindT {r : R Bool} {k : Bool → Sto → R Bool} {Q R' : Bool → Hp → Prop} (h : PostT C env σ w H (r.bind k) Q)
    (f : ∀ d st1 w1 H1, Le w H w1 H1 → Sim C.T C.B w1 env st1 σ H1 → PostT C env σ w1 H1 (k d st1) Q → R' d H1) : PostT C env σ w H r R' := by
  cases r with
  | ok d st' => exact fun w' H' l' s => f d st' w' H' l' s (PostT.le (r := k d st') h l')
  | exc x st' => exact h
  | stuck => exact h
theorem PostE.bindT {r : R Bool} {k : Bool → Sto → R D} {R' : Bool → Hp → Prop} (h : PostE C m env σ w H (r.bind k) Q)
    (f : ∀ d st1 w1 H1, Le w H w1 H1 → Sim C.T C.B w1 env st1 σ H1 → PostE C m env σ w1 H1 (k d st1) Q → R' d H1) : PostT C env σ w H r R' := by
  cases r with
  | ok d st' => exact fun w' H' l' s => f d st' w' H' l' s (PostE.le (r := k d st') h l')
  | exc x st' => exact h
  | stuck => exact h
theorem PostE.bindL {r : R (List D)} {ms : List Md} {k : List D → Sto → R D} {R' : List V → Hp → Prop} (h : PostE C m env σ w H (r.bind k) Q)
    (f : ∀ d st1 w1 vs H1, Le w H w1 H1 → Sim C.T C.B w1 env st1 σ H1 → RepL C.T.K w1 H1 ms vs d → PostE C m env σ w1 H1 (k d st1) Q → R' vs H1) : PostL C ms env σ w H r R' := by
  cases r with
  | ok d st' => exact fun w' vs H' l' s rl => f d st' w' vs H' l' s rl (PostE.le (r := k d st') h l')
  | exc x st' => exact h
  | stuck => exact h
theorem PostL.bindE {r : R D} {ms : List Md} {k : D → Sto → R (List D)} {Q : List V → Hp → Prop} {R' : VK} (h : PostL C ms env σ w H (r.bind k) Q)
    (f : ∀ d st1 w1 v1 H1, Le w H w1 H1 → Sim C.T C.B w1 env st1 σ H1 → RepM C.T.K m1 H w1 H1 v1 d → PostL C ms env σ w1 H1 (k d st1) Q → R' v1 H1) : PostE C m1 env σ w H r R' := by
  cases r with
  | ok d st' => exact fun w' v H' l' s rep => f d st' w' v H' l' s rep (PostL.le (r := k d st') h l')
  | exc x st' => exact h
  | stuck => exact h
theorem PostL.bindL {r : R (List D)} {ms ms' : List Md} {k : List D → Sto → R (List D)} {Q R' : List V → Hp → Prop} (h : PostL C ms env σ w H (r.bind k) Q)
    (f : ∀ d st1 w1 vs H1, Le w H w1 H1 → Sim C.T C.B w1 env st1 σ H1 → RepL C.T.K w1 H1 ms' vs d → PostL C ms env σ w1 H1 (k d st1) Q → R' vs H1) : PostL C ms' env σ w H r R' := by
  cases r with
  | ok d st' => exact fun w' vs H' l' s rl => f d st' w' vs H' l' s rl (PostL.le (r := k d st') h l')
  | exc x st' => exact h
  | stuck => exact h
theorem PostT.done {b : Bool} {Q : Bool → Hp → Prop} (h : PostT C env σ w H (.ok b st) Q) (s : Sim C.T C.B w env st σ H) : Q b H := h w H (.refl _ _) s
theorem PostL.done {ms : List Md} {ds : List D} {vs : List V} {Q : List V → Hp → Prop} (h : PostL C ms env σ w H (.ok ds st) Q) (s : Sim C.T C.B w env st σ H) (r : RepL C.T.K w H ms vs ds) : Q vs H := h w vs H (.refl _ _) s r
end
section
variable {G : Ct} {M : Mo} {m : Md} {X : Cx} {C : Cf} {a b c e : Expr} {f g h : F} {k k' : D → D → Sto → R D} {pos : Pos} {p q : FB} {rest : List Expr}
/-- a value of any kind as a test -/
theorem sn_tru (ha : SndE G M .rd a f) (he : ∀ env whole, isTrue a env whole = (do let v ← whole; standAt a.pos; holding [v] (truthy v)) := by intro _ _; rfl) : SndT G M a (bTru f) := by
  intro X C gd
  refine (pt_truth (ha X C gd) (he _)).imp fun σ H Q ⟨w, env, st, s, p⟩ => ⟨w, env, st, s, ?_⟩
  refine PostT.bindE p fun d st1 w1 v1 H1 l1 s1 r1 p1 => ?_
  cases e : truD d st1 with
  | none => rw [e] at p1; exact p1.elim
  | some b =>
    rw [e] at p1
    exact ⟨b, by rw [show X.K = C.T.K from gd.K.trans (by rw [gd.T])]; exact tru_v e r1 s1.sto, PostT.done p1 s1⟩
theorem sn_tcmp {op : CmpOp} (ha : SndE G M .rd a f) (hb : SndE G M .rd b g) (ho : OpS G M .rd (compareOp op) k) (hm : behindInMarks op b = false) : SndT G M (.Compare a [op] [b] pos) (bTst (bBin k f g)) := by
  intro X C gd
  obtain ⟨r, h1, h2⟩ := ho X C gd
  refine (pt_cmpR h1 (ha X C gd) (hb X C gd) hm).imp fun σ H Q ⟨w, env, st, s, p⟩ => ?_
  refine bin_post r gd ha hb h2 σ H _ ⟨w, env, st, s, PostT.bindE (k := fun d st => match d with | .bl b => .ok b st | _ => .stuck) p fun d st1 w1 v1 H1 l1 s1 r1 p1 => ?_⟩
  cases d with
  | bl b => exact ⟨b, RepR.bl r1, PostT.done p1 s1⟩
  | _ => exact p1.elim
def bChain (k k' : D → D → Sto → R D) (f g h : F) : F := fun env st => (f env st).bind fun a st1 => (g env st1).bind fun b st2 => (k a b st2).bind fun d st3 => match d with
  | .bl true => (h env st3).bind fun c st4 => k' b c st4
  | .bl false => .ok (.bl false) st3
  | _ => .stuck
theorem chain_post (r r' : R2) (gd : Gd G M X C) (ha : SndE G M .rd a f) (hb : SndE G M .rd b g) (hc : SndE G M .rd c h)
    (hr : ∀ env σ w H st d1 d2 v1 v2 Q, Sim C.T C.B w env st σ H → RepR C.T.K w H v1 d1 → RepR C.T.K w H v2 d2 → PostE C .rd env σ w H (k d1 d2 st) Q → r v1 v2 H Q)
    (hr' : ∀ env σ w H st d1 d2 v1 v2 Q, Sim C.T C.B w env st σ H → RepR C.T.K w H v1 d1 → RepR C.T.K w H v2 d2 → PostE C .rd env σ w H (k' d1 d2 st) Q → r' v1 v2 H Q) :
    ∀ σ H Q, tE C .rd (bChain k k' f g h) σ H Q → tChain r r' (tE C .rd f) (tE C .rd g) (tE C .rd h) σ H Q := fun σ H Q ⟨w, env, st, s, p⟩ => by
  refine ⟨w, env, st, s, p.bind fun d st1 w1 v1 H1 l1 s1 r1 p1 => ⟨w1, env, st1, s1, p1.bind fun d2 st2 w2 v2 H2 l2 s2 r2 p2 => ?_⟩⟩
  refine hr env σ w2 H2 st2 d d2 v1 v2 _ s2 (RepR.le r1 l2 s1.sto) r2 (p2.bind fun d3 st3 w3 v3 H3 l3 s3 r3 p3 => ?_)
  match d3, r3, p3 with
  | .bl true, r3, p3 =>
    refine ⟨true, RepR.bl r3, ?_⟩
    rw [if_pos rfl]
    exact ⟨w3, env, st3, s3, p3.bind fun d4 st4 w4 v4 H4 l4 s4 r4 p4 => hr' env σ w4 H4 st4 d2 d4 v2 v4 Q s4 (RepR.le (RepR.le r2 l3 s2.sto) l4 s3.sto) r4 p4⟩
  | .bl false, r3, p3 =>
    refine ⟨false, RepR.bl r3, ?_⟩
    rw [if_neg Bool.false_ne_true]
    exact PostE.done p3 s3 (.inl (.bl _))
  | .non, _, p3 => exact p3.elim
  | .int _, _, p3 => exact p3.elim
  | .str _, _, p3 => exact p3.elim
  | .lst _, _, p3 => exact p3.elim
  | .tup _, _, p3 => exact p3.elim
  | .loc _, _, p3 => exact p3.elim
theorem sn_chain {op op' : CmpOp} (ha : SndE G M .rd a f) (hb : SndE G M .rd b g) (hc : SndE G M .rd c h) (ho : OpS G M .rd (compareOp op) k) (ho' : OpS G M .rd (compareOp op') k')
    (hm : lastMarks [op, op'] [b, c] = false := by with_unfolding_all rfl) : SndE G M .rd (.Compare a [op, op'] [b, c] pos) (bChain k k' f g h) := by
  intro X C gd
  obtain ⟨r, h1, h2⟩ := ho X C gd
  obtain ⟨r', h1', h2'⟩ := ho' X C gd
  exact (pe_chain h1 h1' (ha X C gd) (hb X C gd) (hc X C gd) hm).imp (chain_post r r' gd ha hb hc h2 h2')
theorem sn_tchain {op op' : CmpOp} (ha : SndE G M .rd a f) (hb : SndE G M .rd b g) (hc : SndE G M .rd c h) (ho : OpS G M .rd (compareOp op) k) (ho' : OpS G M .rd (compareOp op') k')
    (hm : lastMarks [op, op'] [b, c] = false := by with_unfolding_all rfl) : SndT G M (.Compare a [op, op'] [b, c] pos) (bTst (bChain k k' f g h)) := by
  intro X C gd
  obtain ⟨r, h1, h2⟩ := ho X C gd
  obtain ⟨r', h1', h2'⟩ := ho' X C gd
  refine (pt_chain h1 h1' (ha X C gd) (hb X C gd) (hc X C gd) hm).imp fun σ H Q ⟨w, env, st, s, p⟩ => ?_
  refine chain_post r r' gd ha hb hc h2 h2' σ H _ ⟨w, env, st, s, PostT.bindE (k := fun d st => match d with | .bl b => .ok b st | _ => .stuck) p fun d st1 w1 v1 H1 l1 s1 r1 p1 => ?_⟩
  cases d with
  | bl b => exact ⟨b, RepR.bl r1, PostT.done p1 s1⟩
  | _ => exact p1.elim
/-- a bool is a bool in any mode -/
theorem sn_tnot (ha : SndT G M a p) : SndT G M (.UnaryOp .Not a pos) (bNotT p) := by
  intro X C gd
  exact (pt_not (ha X C gd)).imp fun σ H Q ⟨w, env, st, s, p⟩ => ⟨w, env, st, s, PostT.bindT p fun d st1 w1 H1 l1 s1 p1 => PostT.done p1 s1⟩
/-- and, or: a chain of tests -/
def SndW (G : Ct) (M : Mo) (e : Expr) (f : FB) : Prop := ∀ X C, Gd G M X C → PW X e (tT C f)
theorem _root_.L2.PW.imp {X : Cx} {e : Expr} {t t' : TT} (h : PW X e t) (k : ∀ σ H Q, t' σ H Q → t σ H Q) : PW X e t' := ⟨fun wh pins s σ H Q I q => h.run wh pins s σ H Q I (k _ _ _ q)⟩
theorem sw_and1 (ha : SndT G M a p) : SndW G M (.BoolOp .And [a] pos) p := fun X C gd => pw_and1 (ha X C gd)
theorem sw_or1 (ha : SndT G M a p) : SndW G M (.BoolOp .Or [a] pos) p := fun X C gd => pw_or1 (ha X C gd)
theorem sw_and (ha : SndT G M a p) (hb : SndW G M (.BoolOp .And (b :: rest) pos) q) : SndW G M (.BoolOp .And (a :: b :: rest) pos) (bAndT p q) := fun X C gd =>
  (pw_and (ha X C gd) (hb X C gd)).imp fun σ H Q ⟨w, env, st, s, p⟩ => ⟨w, env, st, s, PostT.bindT p fun d st1 w1 H1 l1 s1 p1 => by
    cases d with
    | true => rw [if_pos rfl] at p1 ⊢; exact ⟨w1, env, st1, s1, p1⟩
    | false => rw [if_neg Bool.false_ne_true] at p1 ⊢; exact PostT.done p1 s1⟩
theorem sw_or (ha : SndT G M a p) (hb : SndW G M (.BoolOp .Or (b :: rest) pos) q) : SndW G M (.BoolOp .Or (a :: b :: rest) pos) (bOrT p q) := fun X C gd =>
  (pw_or (ha X C gd) (hb X C gd)).imp fun σ H Q ⟨w, env, st, s, p⟩ => ⟨w, env, st, s, PostT.bindT p fun d st1 w1 H1 l1 s1 p1 => by
    cases d with
    | true => rw [if_pos rfl] at p1 ⊢; exact PostT.done p1 s1
    | false => rw [if_neg Bool.false_ne_true] at p1 ⊢; exact ⟨w1, env, st1, s1, p1⟩⟩
theorem sn_tw (h : SndW G M a p) : SndT G M a p := fun X C gd => (h X C gd).pt
/-- and, or, not as values: of bools -/
def bAndV (f g : F) : F := fun env st => (f env st).bind fun d st1 => match d with
  | .bl true => g env st1
  | .bl false => .ok (.bl false) st1
  | _ => .stuck
def bOrV (f g : F) : F := fun env st => (f env st).bind fun d st1 => match d with
  | .bl true => .ok (.bl true) st1
  | .bl false => g env st1
  | _ => .stuck
def bNotV (f : F) : F := fun env st => (f env st).bind fun d st1 => match d with
  | .bl b => .ok (.bl (!b)) st1
  | _ => .stuck
theorem sn_one {op} (ha : SndE G M m a f) : SndE G M m (.BoolOp op [a] pos) f := fun X C gd => pe_one (ha X C gd)
theorem sn_and (ha : SndE G M .rd a f) (hb : SndE G M m (.BoolOp .And (b :: rest) pos) g) : SndE G M m (.BoolOp .And (a :: b :: rest) pos) (bAndV f g) := fun X C gd =>
  (pe_and (ha X C gd) (hb X C gd)).imp fun σ H Q ⟨w, env, st, s, p⟩ => ⟨w, env, st, s, p.bind fun d st1 w1 v1 H1 l1 s1 r1 p1 => by
    match d, r1, p1 with
    | .bl true, r1, p1 => exact ⟨true, RepR.bl r1, by rw [if_pos rfl]; exact ⟨w1, env, st1, s1, p1⟩⟩
    | .bl false, r1, p1 => exact ⟨false, RepR.bl r1, by rw [if_neg Bool.false_ne_true]; exact PostE.done p1 s1 (RepM.bl _)⟩
    | .non, _, p3 => exact p3.elim
    | .int _, _, p3 => exact p3.elim
    | .str _, _, p3 => exact p3.elim
    | .lst _, _, p3 => exact p3.elim
    | .tup _, _, p3 => exact p3.elim
    | .loc _, _, p3 => exact p3.elim⟩
theorem sn_or (ha : SndE G M .rd a f) (hb : SndE G M m (.BoolOp .Or (b :: rest) pos) g) : SndE G M m (.BoolOp .Or (a :: b :: rest) pos) (bOrV f g) := fun X C gd =>
  (pe_or (ha X C gd) (hb X C gd)).imp fun σ H Q ⟨w, env, st, s, p⟩ => ⟨w, env, st, s, p.bind fun d st1 w1 v1 H1 l1 s1 r1 p1 => by
    match d, r1, p1 with
    | .bl true, r1, p1 => exact ⟨true, RepR.bl r1, by rw [if_pos rfl]; exact PostE.done p1 s1 (RepM.bl _)⟩
    | .bl false, r1, p1 => exact ⟨false, RepR.bl r1, by rw [if_neg Bool.false_ne_true]; exact ⟨w1, env, st1, s1, p1⟩⟩
    | .non, _, p3 => exact p3.elim
    | .int _, _, p3 => exact p3.elim
    | .str _, _, p3 => exact p3.elim
    | .lst _, _, p3 => exact p3.elim
    | .tup _, _, p3 => exact p3.elim
    | .loc _, _, p3 => exact p3.elim⟩
theorem sn_not (ha : SndE G M .rd a f) : SndE G M m (.UnaryOp .Not a pos) (bNotV f) := fun X C gd =>
  (pe_not (ha X C gd)).imp fun σ H Q ⟨w, env, st, s, p⟩ => ⟨w, env, st, s, p.bind fun d st1 w1 v1 H1 l1 s1 r1 p1 => by
    cases d with
    | bl b => exact ⟨b, RepR.bl r1, PostE.done p1 s1 (RepM.bl _)⟩
    | _ => exact p1.elim⟩
def bNeg (f : F) : F := fun env st => (f env st).bind fun d st1 => match d with
  | .int i => .ok (.int (-i)) st1
  | _ => .stuck
theorem sn_neg (ha : SndE G M .rd a f) : SndE G M m (.UnaryOp .USub a pos) (bNeg f) := fun X C gd =>
  (pe_un un_neg (ha X C gd)).imp fun σ H Q ⟨w, env, st, s, p⟩ => ⟨w, env, st, s, p.bind fun d st1 w1 v1 H1 l1 s1 r1 p1 => by
    cases d with
    | int b => exact ⟨b, RepR.int r1, PostE.done p1 s1 (RepM.int _)⟩
    | _ => exact p1.elim⟩
/-- a if c else b -/
def bIfE (c : FB) (f g : F) : F := fun env st => (c env st).bind fun b st1 => if b = true then f env st1 else g env st1
theorem sn_ifE (hc : SndT G M c p) (ha : SndE G M m a f) (hb : SndE G M m b g) : SndE G M m (.IfExp c a b pos) (bIfE p f g) := fun X C gd =>
  (pe_ifExp (hc X C gd) (ha X C gd) (hb X C gd)).imp fun σ H Q ⟨w, env, st, s, p⟩ => ⟨w, env, st, s, p.bindT fun d st1 w1 H1 l1 s1 p1 => by
    cases d with
    | true => rw [if_pos rfl] at p1 ⊢; exact ⟨w1, env, st1, s1, p1⟩
    | false => rw [if_neg Bool.false_ne_true] at p1 ⊢; exact ⟨w1, env, st1, s1, p1⟩⟩
/-- argument lists -/
def lNil : FL := fun _ st => .ok [] st
def lCons (f : F) (g : FL) : FL := fun env st => (f env st).bind fun d st1 => (g env st1).bind fun ds st2 => .ok (d :: ds) st2
theorem sl_nil : SndL G M [] [] lNil := fun X C gd => pa_nil.imp fun σ H Q ⟨w, env, st, s, p⟩ => PostL.done p s .nil
theorem sl_esc {es : List Expr} {fl : FL} {ms : List Md} (ha : SndE G M .esc e f) (hb : SndL G M ms es fl) (hs : ∀ env, starEach (e :: es) env = (false, eval e env) :: starEach es env := by intro _; rfl) : SndL G M (.esc :: ms) (e :: es) (lCons f fl) := fun X C gd =>
  (pa_cons (ha X C gd) (hb X C gd) (hs _)).imp fun σ H Q ⟨w, env, st, s, p⟩ => ⟨w, env, st, s, p.bindE fun d st1 w1 v1 H1 l1 s1 r1 p1 =>
    ⟨w1, env, st1, s1, p1.bindL fun ds st2 w2 vs H2 l2 s2 r2 p2 => PostL.done p2 s2 (.esc (Rep.to (l2.ok2 s1.sto) _ _ r1) r2)⟩⟩
theorem sl_rd {es : List Expr} {fl : FL} {ms : List Md} (ha : SndE G M .rd e f) (hb : SndL G M ms es fl) (hs : ∀ env, starEach (e :: es) env = (false, eval e env) :: starEach es env := by intro _; rfl) : SndL G M (.rd :: ms) (e :: es) (lCons f fl) := fun X C gd =>
  (pa_cons (ha X C gd) (hb X C gd) (hs _)).imp fun σ H Q ⟨w, env, st, s, p⟩ => ⟨w, env, st, s, p.bindE fun d st1 w1 v1 H1 l1 s1 r1 p1 =>
    ⟨w1, env, st1, s1, p1.bindL fun ds st2 w2 vs H2 l2 s2 r2 p2 => PostL.done p2 s2 (.rd (RepR.le r1 l2 s1.sto) r2)⟩⟩
theorem RepL.reps {K : PySem.W.Frag} {w : Wd} {H : Hp} : ∀ {n : Nat} {vs : List V} {ds : List D}, RepL K w H (List.replicate n .esc) vs ds → Reps K w H vs ds
  | 0, _, _, h => by cases h; exact .nil
  | n + 1, _, _, h => by
    rw [List.replicate_succ] at h
    cases h with
    | esc r t => exact .cons r t.reps
/-- displays -/
def bTup (g : FL) : F := fun env st => (g env st).bind fun ds st1 => .ok (.tup ds) st1
def bLst (g : FL) : F := fun env st => (g env st).bind fun ds st1 => .ok (.lst ds) st1
theorem RepL.len {K : PySem.W.Frag} {w : Wd} {H : Hp} {ms : List Md} {vs : List V} {ds : List D} (h : RepL K w H ms vs ds) : vs.length = ms.length := by
  induction h with
  | nil => rfl
  | esc _ _ ih => rw [List.length_cons, List.length_cons, ih]
  | rd _ _ ih => rw [List.length_cons, List.length_cons, ih]
theorem sn_tup {n : Nat} {es : List Expr} {fl : FL} {x1} (h : SndL G M (List.replicate n .esc) es fl) (hn : n ≤ 1000 := by decide) : SndE G M m (.Tuple es x1 pos) (bTup fl) := fun X C gd =>
  (pe_tup (h X C gd)).imp fun σ H Q ⟨w, env, st, s, p⟩ => ⟨w, env, st, s, PostE.bindL p fun ds st1 w1 vs H1 l1 s1 r1 p1 =>
    ⟨Nat.le_of_lt (small1000 (by rw [r1.len, List.length_replicate]; exact hn)), fun pp hp => p1.tup s1 r1.reps hp⟩⟩
theorem sn_lst {n : Nat} {es : List Expr} {fl : FL} (h : SndL G M (List.replicate n .esc) es fl) (hn : n ≤ 1000 := by decide) : SndE G M .fr (.List es pos) (bLst fl) := fun X C gd =>
  (pe_lst (h X C gd)).imp fun σ H Q ⟨w, env, st, s, p⟩ => ⟨w, env, st, s, PostE.bindL p fun ds st1 w1 vs H1 l1 s1 r1 p1 =>
    ⟨Nat.le_of_lt (small1000 (by rw [r1.len, List.length_replicate]; exact hn)), fun pp hp => p1.lst s1 r1.reps hp⟩⟩
end

/-! subscripts -/
def cutD (xs : List D) (lo hi : Option Int) : List D := (xs.drop (HT.sIx xs.length 0 lo)).take (HT.sIx xs.length xs.length hi - HT.sIx xs.length 0 lo)
def kIx : D → D → Sto → R D
  | .lst ds, .int i, st => match atI ds i with
    | some d => .ok d st
    | none => .stuck
  | .tup ds, .int i, st => match atI ds i with
    | some d => .ok d st
    | none => .stuck
  | .str z, .int i, st => if z.length ≤ sizeLine then match atI z.cps.toList i with
      | some c => .ok (.str ⟨#[c]⟩) st
      | none => .stuck
    else .stuck
  | .loc n, .int i, st => match st[n]? with
    | some (.lst ds) => match atI ds i with
      | some d => .ok d st
      | none => .stuck
    | _ => .stuck
  | _, _, _ => .stuck
theorem atI_rep {K : PySem.W.Frag} {w : Wd} {H : Hp} {vs : List V} {ds : List D} {i : Int} {d : D} (r : Reps K w H vs ds) (h : atI ds i = some d) : ∃ v, atI vs i = some v ∧ Rep K w H v d := by
  unfold atI at h ⊢
  rw [r.length]
  cases e : ixN ds.length i with
  | none => rw [e] at h; cases h
  | some j =>
    rw [e] at h
    obtain ⟨v, h1, h2⟩ := r.get h
    exact ⟨v, h1, h2⟩
section
variable {G : Ct} {M : Mo} {m : Md} {X : Cx} {C : Cf} {a b c e : Expr} {f g h : F} {pos : Pos}
theorem ix_post {env : Ev} {σ : St} {w : Wd} {H : Hp} {st : Sto} {d1 d2 : D} {v1 v2 : V} {Q : VK} (s : Sim C.T C.B w env st σ H) (r1 : RepR C.T.K w H v1 d1) (r2 : RepR C.T.K w H v2 d2)
    (p : PostE C .esc env σ w H (kIx d1 d2 st) Q) : rIx C.T.K v1 v2 H Q := by
  unfold kIx at p
  split at p
  · obtain ⟨a, vs, rfl, e3, n, rs⟩ := r1.lst
    rename_i ds i
    cases e : atI ds i with
    | none => rw [e] at p; exact p.elim
    | some d =>
      rw [e] at p
      obtain ⟨v, h1, h2⟩ := atI_rep rs e
      exact .inl ⟨a, vs, i, v, rfl, r2.int, e3.sq, h1, p.done s h2⟩
  · obtain ⟨a, vs, rfl, e3, rs⟩ := r1.tup
    rename_i ds i
    cases e : atI ds i with
    | none => rw [e] at p; exact p.elim
    | some d =>
      rw [e] at p
      obtain ⟨v, h1, h2⟩ := atI_rep rs e
      exact .inr (.inl ⟨a, vs, i, v, rfl, r2.int, e3, h1, p.done s h2⟩)
  · rename_i z i
    split at p
    · cases e : atI z.cps.toList i with
      | none => rw [e] at p; exact p.elim
      | some c =>
        rw [e] at p
        exact .inr (.inr ⟨z, i, c, r1.str, r2.int, by assumption, e, p.done s (RepM.str _)⟩)
    · exact p.elim
  · rename_i n i
    obtain ⟨a, rfl, ea⟩ := r1.loc
    cases q : st[n]? with
    | none => rw [q] at p; exact p.elim
    | some c =>
      rw [q] at p
      cases c with
      | lst ds =>
        obtain ⟨vs, h1, h2⟩ := s.sto.at_ _ _ _ q ea
        simp only at p
        cases e : atI ds i with
        | none => rw [e] at p; exact p.elim
        | some d =>
          rw [e] at p
          obtain ⟨v, h3, h4⟩ := atI_rep h2 e
          exact .inl ⟨a, vs, i, v, rfl, r2.int, SqL.of h1, h3, p.done s h4⟩
      | _ => exact p.elim
  · exact p.elim
theorem sn_ix (ha : SndE G M .rd a f) (hb : SndE G M .rd b g) (hs : PlainIx b := by intro _ _; rfl) : SndE G M .esc (.Subscript a b pos) (bBin kIx f g) := by
  intro X C gd
  refine (pe_ix ix_seq (ha X C gd) (hb X C gd) hs).imp fun σ H Q hq => ?_
  refine bin_post (rIx X.K) gd ha hb (fun env σ w H st d1 d2 v1 v2 Q s r1 r2 p => ?_) σ H Q hq
  rw [show X.K = C.T.K from gd.K.trans (by rw [gd.T])]
  exact ix_post s r1 r2 p
/-- slices -/
abbrev FO := Ev → Sto → R (Option Int)
def oNone : FO := fun _ st => .ok none st
def oSome (f : F) : FO := fun env st => (f env st).bind fun d st1 => match d with
  | .int i => .ok (some i) st1
  | _ => .stuck
def kSl : D → Option Int → Option Int → Sto → R D
  | .lst ds, lo, hi, st => .ok (.lst (cutD ds lo hi)) st
  | .tup ds, lo, hi, st => .ok (.tup (cutD ds lo hi)) st
  | .str z, lo, hi, st => if z.length ≤ sizeLine then .ok (.str (cutS z lo hi)) st else .stuck
  | .loc n, lo, hi, st => match st[n]? with
    | some (.lst ds) => .ok (.lst (cutD ds lo hi)) st
    | _ => .stuck
  | _, _, _, _ => .stuck
def bSl (f : F) (l u : FO) : F := fun env st => (f env st).bind fun d st1 => (l env st1).bind fun lo st2 => (u env st2).bind fun hi st3 => kSl d lo hi st3
def PostO (C : Cf) (env : Ev) (σ : St) (w : Wd) (H : Hp) (r : R (Option Int)) (Q : Option Int → Hp → Prop) : Prop := match r with
  | .ok b st' => ∀ w' H', Le w H w' H' → Sim C.T C.B w' env st' σ H' → Q b H'
  | .exc x st' => ∀ w' H' c dx, Le w H w' H' → Sim C.T C.B w' env st' σ H' → XRep C.T w' H' x c dx → C.W c dx σ H'
  | .stuck => False
def tO (C : Cf) (f : FO) : TO := fun σ H Q => ∃ w env st, Sim C.T C.B w env st σ H ∧ PostO C env σ w H (f env st) Q
def SndO (G : Ct) (M : Mo) (e : Option Expr) (f : FO) : Prop := ∀ X C, Gd G M X C → PO X e (tO C f)
theorem _root_.L2.PO.imp {X : Cx} {e : Option Expr} {t t' : TO} (h : PO X e t) (k : ∀ σ H Q, t' σ H Q → t σ H Q) : PO X e t' := ⟨fun pins s σ H Q I q => h.run pins s σ H Q I (k _ _ _ q)⟩
theorem so_none : SndO G M none oNone := fun X C gd => po_none.imp fun σ H Q ⟨w, env, st, s, p⟩ => p w H (.refl _ _) s
theorem so_some (ha : SndE G M .rd a f) : SndO G M (some a) (oSome f) := fun X C gd => (po_some (ha X C gd)).imp fun σ H Q ⟨w, env, st, s, p⟩ => ⟨w, env, st, s, by
  unfold oSome at p
  cases e : f env st with
  | stuck => rw [e] at p; exact p
  | exc x st' => rw [e] at p; exact p
  | ok d st' =>
    rw [e] at p
    intro w' v H' l s' r
    cases d with
    | int i => exact ⟨i, RepR.int r, p w' H' l s'⟩
    | _ => exact p.elim⟩
theorem cut_rep {K : PySem.W.Frag} {w : Wd} {H : Hp} {vs : List V} {ds : List D} (r : Reps K w H vs ds) (lo hi : Option Int) : Reps K w H (cutV vs lo hi) (cutD ds lo hi) := by
  unfold cutV cutD
  rw [r.length]
  exact (r.drop _).take _
theorem cut_all {K : PySem.W.Frag} {w : Wd} {H : Hp} {vs : List V} {ds : List D} (r : Reps K w H vs ds) {lo hi : Option Int} (h : HT.sIx vs.length 0 lo = 0 ∧ HT.sIx vs.length vs.length hi = vs.length) : cutD ds lo hi = ds := by
  unfold cutD
  rw [← r.length, h.1, h.2, List.drop_zero, Nat.sub_zero, r.length, List.take_length]
theorem sn_sl {lo hi : Option Expr} {l u : FO} {p2 : Pos} (ha : SndE G M .rd a f) (hl : SndO G M lo l) (hu : SndO G M hi u) : SndE G M .fr (.Subscript a (.Slice lo hi none p2) pos) (bSl f l u) := by
  intro X C gd
  refine (pe_slice (sl_list.or (sl_tupA.or sl_str)) (ha X C gd) (hl X C gd) (hu X C gd)).imp fun σ H Q ⟨w, env, st, s, p⟩ => ⟨w, env, st, s, ?_⟩
  rw [show X.K = C.T.K from gd.K.trans (by rw [gd.T])]
  refine p.bind fun d st1 w1 v1 H1 l1 s1 r1 p1 => ⟨w1, env, st1, s1, ?_⟩
  cases e1 : l env st1 with
  | stuck => rw [e1] at p1; exact p1
  | exc x st' => rw [e1] at p1; exact p1
  | ok lo' st2 =>
    rw [e1] at p1
    intro w2 H2 l2 s2
    have p2 := PostE.le p1 l2
    refine ⟨w2, env, st2, s2, ?_⟩
    change PostE C .fr env σ w2 H2 ((u env st2).bind fun hi st3 => kSl d lo' hi st3) Q at p2
    cases e2 : u env st2 with
    | stuck => rw [e2] at p2; exact p2
    | exc x st' => rw [e2] at p2; exact p2
    | ok hi' st3 =>
      rw [e2] at p2
      intro w3 H3 l3 s3
      have p3 : PostE C .fr env σ w3 H3 (kSl d lo' hi' st3) Q := PostE.le p2 l3
      have r3 : RepR C.T.K w3 H3 v1 d := RepR.le (RepR.le r1 l2 s1.sto) l3 s2.sto
      unfold kSl at p3
      split at p3
      · obtain ⟨a, vs, rfl, e3, n, rs⟩ := r3.lst
        exact .inl ⟨a, vs, rfl, e3.sq, fun pp hp => p3.lst s3 (cut_rep rs _ _) hp⟩
      · obtain ⟨a, vs, rfl, e3, rs⟩ := r3.tup
        refine .inr (.inl ⟨a, vs, rfl, e3, fun hw => ?_, fun hw pp hp => p3.tup s3 (cut_rep rs _ _) hp⟩)
        have fin : ∀ z, Rep C.T.K w3 H3 z (.tup (cutD _ lo' hi')) → Q z H3 := fun z hz => p3.done s3 hz
        refine fin _ ?_
        rw [cut_all rs hw]
        exact .tup e3 rs
      · split at p3
        · exact .inr (.inr ⟨_, r3.str, by assumption, p3.done s3 (RepM.str _)⟩)
        · exact p3.elim
      · rename_i n
        obtain ⟨a, rfl, ea⟩ := r3.loc
        cases q : st3[n]? with
        | none => rw [q] at p3; exact p3.elim
        | some c =>
          rw [q] at p3
          cases c with
          | lst ds =>
            obtain ⟨vs, h1, h2⟩ := s3.sto.at_ _ _ _ q ea
            exact .inl ⟨a, vs, rfl, SqL.of h1, fun pp hp => PostE.lst (ds := cutD ds lo' hi') p3 s3 (cut_rep h2 _ _) hp⟩
          | _ => exact p3.elim
      · exact p3.elim
end
end NC

/-! ### statements -/
namespace NC
open PySem L2

/-- what a target does with a value -/
abbrev Tg := D → Ev → Option Ev
def tgName (i : Nat) : Tg := fun d env => if i < env.length then some (env.set i (some (.frz, d))) else none
def tgNil : List D → Ev → Option Ev
  | [], env => some env
  | _, _ => none
def tgCons (t : Tg) (u : List D → Ev → Option Ev) : List D → Ev → Option Ev
  | d :: ds, env => (t d env).bind (u ds)
  | _, _ => none
def tgTup (u : List D → Ev → Option Ev) : Tg
  | .tup ds, env => u ds env
  | _, _ => none

section
variable {T : Tb} {B : Bs} {w : Wd} {env : Ev} {st : Sto} {σ : St} {H : Hp}
theorem get_set {α : Type} {l : List α} {i j : Nat} {a s : α} (h : (l.set i a)[j]? = some s) : (j = i ∧ s = a) ∨ (j ≠ i ∧ l[j]? = some s) := by
  rw [List.getElem?_set] at h
  split at h
  · rename_i e
    split at h
    · exact .inl ⟨e.symm, (Option.some.inj h).symm⟩
    · cases h
  · rename_i e
    exact .inr ⟨fun z => e z.symm, h⟩
/-- a name is stored -/
theorem Sim.set {i : Nat} {v : V} {s : Slot} (h : Sim T B w env st σ H) (hi : i < env.length) (hs : SlotOk T.K B w H (some v) s)
    (hd : ∀ d, s = some (.own, d) → ∀ j e, j ≠ i → env[j]? = some (some (.own, e)) → (σ[j]?).join ≠ some v) : Sim T B w (env.set i s) st (σ.set i (some v)) H := by
  have hi' : i < σ.length := by rw [h.len]; exact hi
  have sj : ∀ j, j ≠ i → ((σ.set i (some v))[j]?).join = (σ[j]?).join := fun j z => by rw [List.getElem?_set_ne (Ne.symm z)]
  have si : ((σ.set i (some v))[i]?).join = some v := by rw [List.getElem?_set_self hi']; rfl
  refine ⟨by rw [List.length_set, List.length_set]; exact h.len, fun j sl e => ?_, fun j k d e a h1 h2 h3 h4 => ?_, h.sto, h.al, h.le, h.sub, h.bal, h.pin⟩
  · rcases get_set e with ⟨e1, e2⟩ | ⟨e1, e2⟩
    · subst e1 e2
      rw [si]
      exact hs
    · rw [sj j e1]
      exact h.slot j sl e2
  · rcases get_set h1 with ⟨e1, e2⟩ | ⟨e1, e2⟩
    · rcases get_set h2 with ⟨f1, f2⟩ | ⟨f1, f2⟩
      · rw [e1, f1]
      · subst e1
        rw [si] at h3
        rw [sj k f1] at h4
        exact absurd (h4.trans h3.symm) (hd _ e2.symm k e f1 f2)
    · rcases get_set h2 with ⟨f1, f2⟩ | ⟨f1, f2⟩
      · subst f1
        rw [si] at h4
        rw [sj j e1] at h3
        exact absurd (h3.trans h4.symm) (hd _ f2.symm j d e1 e2)
      · rw [sj j e1] at h3
        rw [sj k f1] at h4
        exact h.dist j k d e a e2 f2 h3 h4
theorem Sim.setFrz {i : Nat} {v : V} {d : D} (h : Sim T B w env st σ H) (hi : i < env.length) (r : Rep T.K w H v d) : Sim T B w (env.set i (some (.frz, d))) st (σ.set i (some v)) H :=
  h.set hi ⟨v, rfl, r⟩ fun d' e => by cases e
end

/-- the slots outside are as they were -/
def Keep (is : List Nat) (σ σ' : St) : Prop := σ'.length = σ.length ∧ ∀ j, j ∉ is → σ'[j]? = σ[j]?
def tG (C : Cf) (is : List Nat) (t : Tg) : TG := fun v σ H Q => ∃ w env st d, Sim C.T C.B w env st σ H ∧ Rep C.T.K w H v d ∧ match t d env with
  | some env' => ∀ σ' : St, Sim C.T C.B w env' st σ' H → Keep is σ σ' → Q σ' H
  | none => False
def tGs (C : Cf) (is : List Nat) (u : List D → Ev → Option Ev) : TGs := fun vs σ H Q => ∃ w env st ds, Sim C.T C.B w env st σ H ∧ Reps C.T.K w H vs ds ∧ match u ds env with
  | some env' => ∀ σ' : St, Sim C.T C.B w env' st σ' H → Keep is σ σ' → Q σ' H
  | none => False
def SndG (G : Ct) (M : Mo) (tg : Expr) (is : List Nat) (t : Tg) : Prop := ∀ X C, Gd G M X C → PG X tg (tG C is t)
def SndGs (G : Ct) (M : Mo) (tgs : List Expr) (is : List Nat) (t : List D → Ev → Option Ev) : Prop := ∀ X C, Gd G M X C → PGs X tgs (tGs C is t)
theorem _root_.L2.PG.imp {X : Cx} {e : Expr} {t t' : TG} (h : PG X e t) (k : ∀ v σ H Q, t' v σ H Q → t v σ H Q) : PG X e t' := ⟨fun pins s σ H v u Q I r q => h.run pins s σ H v u Q I r (k _ _ _ _ q)⟩
theorem _root_.L2.PGs.imp {X : Cx} {e : List Expr} {t t' : TGs} (h : PGs X e t) (k : ∀ v σ H Q, t' v σ H Q → t v σ H Q) : PGs X e t' := ⟨fun pins s σ H v u Q I r q => h.run pins s σ H v u Q I r (k _ _ _ _ q)⟩

/-- a target's name may be stored in this frame -/
def TgOk (G : Ct) (x : Str) : Prop := (match G.bk with | none => true | some s => s.names.lookup x == some .cell) = true ∨ G.sc.names.lookup x = some .local
section
variable {G : Ct} {M : Mo} {m : Md} {X : Cx} {C : Cf} {a b c e : Expr} {f g h : F} {p q : FB} {s1 s2 : FS} {pos : Pos} {i : Nat} {x : Str}
theorem Gd.fnOk (gd : Gd G M X C) (h : TgOk G x) : X.fn x = true ∨ X.env.scope.names.lookup x = some .local := by
  rw [gd.sc]
  refine h.imp (fun z => ?_) fun z => z
  rw [gd.fn]
  cases e : G.bk with
  | none => rfl
  | some s => rw [e] at z; exact z
theorem sg_name (hN : G.N[i]? = some x) (hx : Loc G.sc x) (ht : TgOk G x) : SndG G M (.Name x pos) [i] (tgName i) := by
  intro X C gd
  refine (pg_name (i := i) gd.nd (by rw [gd.N]; exact hN) (by rw [gd.sc]; exact hx) (gd.fnOk ht)).imp fun v σ H Q ⟨w, env, st, d, s, r, h⟩ => ?_
  unfold tgName at h
  split at h
  · rename_i e
    split at e
    · cases e
      exact h _ (s.setFrz (by assumption) r) ⟨List.length_set .., fun j hj => List.getElem?_set_ne (fun z => hj (by rw [z]; exact List.mem_singleton_self _))⟩
    · cases e
  · exact h.elim
theorem sgs_nil : SndGs G M [] [] tgNil := by
  intro X C gd
  refine pgs_nil.imp fun v σ H Q ⟨w, env, st, ds, s, r, h⟩ => ?_
  cases r with
  | nil => exact ⟨rfl, h σ s ⟨rfl, fun _ _ => rfl⟩⟩
  | cons r1 r2 => exact h.elim
theorem sgs_cons {es : List Expr} {is js : List Nat} {t : Tg} {u : List D → Ev → Option Ev} (h1 : SndG G M e is t) (h2 : SndGs G M es js u)
    (hs : ∀ env, (assignEach (e :: es) env).map (·.2) = assign e env :: (assignEach es env).map (·.2) := by intro _; rfl) : SndGs G M (e :: es) (is ++ js) (tgCons t u) := by
  intro X C gd
  refine (pgs_cons (h1 X C gd) (h2 X C gd) (hs _)).imp fun v σ H Q ⟨w, env, st, ds, s, r, h⟩ => ?_
  cases r with
  | nil => exact h.elim
  | cons r1 r2 =>
    rename_i vv d0 vvs ds0
    refine ⟨_, _, rfl, w, env, st, _, s, r1, ?_⟩
    unfold tgCons at h
    split
    · rename_i env1 q
      simp only [q, Option.bind_some] at h
      refine fun σ' s' hk => ⟨w, env1, st, _, s', r2, ?_⟩
      split
      · rename_i env2 q2
        rw [q2] at h
        exact fun σ2 s2 hk2 => h σ2 s2 ⟨hk2.1.trans hk.1, fun j hj => (hk2.2 j fun z => hj (List.mem_append_right _ z)).trans (hk.2 j fun z => hj (List.mem_append_left _ z))⟩
      · rename_i q2
        rw [q2] at h
        exact h
    · rename_i q
      simp only [q, Option.bind_none] at h
theorem sg_tup {es : List Expr} {is : List Nat} {k : Nat} {u : List D → Ev → Option Ev} (hm : M.hot = false) (h : SndGs G M es is u) (hn : ∀ ds env env', u ds env = some env' → ds.length = es.length)
    (hl : ∀ env, (assignEach es env).length = es.length := by intro _; rfl) (hst : ∀ env, (assignEach es env).findIdx? (·.1) = none := by intro _; rfl) : SndG G M (.Tuple es k pos) is (tgTup u) := by
  intro X C gd
  refine (pg_tup (gd.cold hm).1 (h X C gd) (hl _) (hst _)).imp fun v σ H Q ⟨w, env, st, d, s, r, hh⟩ => ?_
  rw [show X.K = C.T.K from gd.K.trans (by rw [gd.T])]
  cases d with
  | tup ds =>
    cases r with
    | tup hs rs =>
      refine ⟨_, _, rfl, hs, ?_, w, env, st, ds, s, rs, hh⟩
      have hh' : (match u ds env with | some env' => ∀ σ' : St, Sim C.T C.B w env' st σ' H → Keep is σ σ' → Q σ' H | none => False) := hh
      rw [rs.length]
      cases q : u ds env with
      | none => rw [q] at hh'; exact hh'.elim
      | some env' => exact hn _ _ _ q
  | _ => exact hh.elim
theorem tgCons_len {t : Tg} {u : List D → Ev → Option Ev} {n : Nat} (h : ∀ ds env env', u ds env = some env' → ds.length = n) : ∀ ds env env', tgCons t u ds env = some env' → ds.length = n + 1 := by
  intro ds env env' e
  cases ds with
  | nil => cases e
  | cons d ds =>
    unfold tgCons at e
    cases q : t d env with
    | none => simp only [q, Option.bind_none] at e; cases e
    | some env1 =>
      simp only [q, Option.bind_some] at e
      rw [List.length_cons, h _ _ _ e]
theorem tgNil_len : ∀ ds env env', tgNil ds env = some env' → ds.length = 0 := by
  intro ds env env' e
  cases ds with
  | nil => rfl
  | cons d ds => cases e

/-! blocks -/
def sNil : FS := fun env st => .next env st
def sCons (f g : FS) : FS := fun env st => match f env st with
  | .next env' st' => g env' st'
  | o => o
theorem sb_nil : SndB G M [] sNil := fun X C gd => pss_nil.imp fun E σ H ⟨w, env, st, s, p⟩ => p w σ H s
theorem sb_cons {s : Stmt} {ss : List Stmt} (h1 : SndS G M s s1) (h2 : SndB G M ss s2) : SndB G M (s :: ss) (sCons s1 s2) := fun X C gd =>
  (pss_cons (h1 X C gd) (h2 X C gd)).imp fun E σ H ⟨w, env, st, s, p⟩ => ⟨w, env, st, s, by
    unfold sCons at p
    cases e : s1 env st with
    | next env' st' => rw [e] at p; exact fun w' σ' H' s' => ⟨w', env', st', s', p⟩
    | ret d st' => rw [e] at p; exact p
    | brk env' st' => rw [e] at p; exact p
    | cont env' st' => rw [e] at p; exact p
    | exc x env' st' => rw [e] at p; exact p
    | stuck => rw [e] at p; exact p⟩
theorem sb_one {s : Stmt} (h1 : SndS G M s s1) : SndB G M [s] s1 := fun X C gd => (pss_one (h1 X C gd)).imp fun E σ H h => h
def sPass : FS := fun env st => .next env st
theorem ss_pass : SndS G M (.Pass pos) sPass := fun X C gd => ps_pass.imp fun E σ H ⟨w, env, st, s, p⟩ => p w σ H s
def sBrk : FS := fun env st => .brk env st
theorem ss_brk : SndS G M (.Break pos) sBrk := fun X C gd => ps_break.imp fun E σ H ⟨w, env, st, s, p⟩ => p w σ H s
def sCont : FS := fun env st => .cont env st
theorem ss_cont : SndS G M (.Continue pos) sCont := fun X C gd => ps_continue.imp fun E σ H ⟨w, env, st, s, p⟩ => p w σ H s
def sNever : FS := fun _ _ => .stuck
theorem ss_never {s : Stmt} : SndS G M s sNever := fun X C gd => ps_never.imp fun E σ H ⟨w, env, st, s, p⟩ => p.elim
theorem sb_never {s : List Stmt} : SndB G M s sNever := fun X C gd => pss_never.imp fun E σ H ⟨w, env, st, s, p⟩ => p.elim

def R.out (r : R D) (env : Ev) (k : D → Sto → Out) : Out := match r with
  | .ok d st => k d st
  | .exc x st => .exc x env st
  | .stuck => .stuck
def R.outB (r : R Bool) (env : Ev) (k : Bool → Sto → Out) : Out := match r with
  | .ok d st => k d st
  | .exc x st => .exc x env st
  | .stuck => .stuck
theorem PostS.bind {E : Ends} {env : Ev} {σ : St} {w : Wd} {H : Hp} {r : R D} {k : D → Sto → Out} {R' : VK} (h : PostS C E (r.out env k))
    (f : ∀ d st1 w1 v1 H1, Le w H w1 H1 → Sim C.T C.B w1 env st1 σ H1 → RepM C.T.K m H w1 H1 v1 d → PostS C E (k d st1) → R' v1 H1) : PostE C m env σ w H r R' := by
  cases r with
  | ok d st' => exact fun w' v H' l' s rep => f d st' w' v H' l' s rep h
  | exc x st' => exact fun w' H' c dx l s xr => h w' σ H' c dx s xr
  | stuck => exact h
theorem PostS.bindT {E : Ends} {env : Ev} {σ : St} {w : Wd} {H : Hp} {r : R Bool} {k : Bool → Sto → Out} {R' : Bool → Hp → Prop} (h : PostS C E (r.outB env k))
    (f : ∀ d st1 w1 H1, Le w H w1 H1 → Sim C.T C.B w1 env st1 σ H1 → PostS C E (k d st1) → R' d H1) : PostT C env σ w H r R' := by
  cases r with
  | ok d st' => exact fun w' H' l' s => f d st' w' H' l' s h
  | exc x st' => exact fun w' H' c dx l s xr => h w' σ H' c dx s xr
  | stuck => exact h

def sIf (c : FB) (f g : FS) : FS := fun env st => (c env st).outB env fun b st1 => if b = true then f env st1 else g env st1
theorem ss_if {ss ts : List Stmt} (hc : SndT G M c p) (h1 : SndB G M ss s1) (h2 : SndB G M ts s2) : SndS G M (.If c ss ts pos) (sIf p s1 s2) := fun X C gd =>
  (ps_if (hc X C gd) (h1 X C gd) (h2 X C gd)).imp fun E σ H ⟨w, env, st, s, p⟩ => ⟨w, env, st, s, PostS.bindT p fun d st1 w1 H1 l1 s1 p1 => by
    cases d with
    | true => rw [if_pos rfl] at p1 ⊢; exact ⟨w1, env, st1, s1, p1⟩
    | false => rw [if_neg Bool.false_ne_true] at p1 ⊢; exact ⟨w1, env, st1, s1, p1⟩⟩
def sExpr (f : F) : FS := fun env st => (f env st).out env fun _ st1 => .next env st1
theorem ss_expr (ha : SndE G M m e f) (hs : ∀ env, swapsWith e none pos.line env = pure false := by intro _; rfl) : SndS G M (.Expr e pos) (sExpr f) := fun X C gd => (ps_expr (ha X C gd) (hs _)).imp fun E σ H ⟨w, env, st, s, p⟩ => ⟨w, env, st, s, PostS.bind p fun d st1 w1 v1 H1 l1 s1 r1 p1 => p1 w1 σ H1 s1⟩
theorem Sim.ret {T : Tb} {B : Bs} {w : Wd} {env : Ev} {st : Sto} {σ : St} {H : Hp} {v : V} {d : D} (s : Sim T B w env st σ H) (r : Rep T.K w H v d) : RetOk T B st H v d := by
  have ok : Ok2 w H ⟨B.w.S, w.r⟩ H := ⟨fun _ _ e => e, fun _ _ e _ => e, fun a o e n1 n2 => ⟨e, fun z => n1 (s.sub a z), n2⟩⟩
  exact ⟨w.r, ⟨s.le.pre, s.le.fr, s.le.live, s.le.new, fun a z => .inl z, fun a z => z⟩, s.sto.to ok (fun _ _ => rfl) rfl, Rep.to ok _ _ r⟩
/-- a list that the frame owns is handed back -/
theorem Sim.retO {T : Tb} {B : Bs} {w : Wd} {env : Ev} {st : Sto} {σ : St} {H : Hp} {a : Addr} {vs : List V} {ds : List D} (s : Sim T B w env st σ H) (h1 : H a = some (.lst vs)) (h2 : B.H a = none) (h3 : a ∉ w.r) (r : Reps T.K w H vs ds) : RetOk T B st H (.ref a) (.lst ds) := by
  have ok : Ok2 w H ⟨B.w.S, w.r⟩ H := ⟨fun _ _ e => e, fun _ _ e _ => e, fun a o e n1 n2 => ⟨e, fun z => n1 (s.sub a z), n2⟩⟩
  exact ⟨w.r, ⟨s.le.pre, s.le.fr, s.le.live, s.le.new, fun a z => .inl z, fun a z => z⟩, s.sto.to ok (fun _ _ => rfl) rfl, .lst (.inl h1) (fun z => s.bal a z h2) h3 (Reps.to ok _ _ r)⟩
def sRet (f : F) : FS := fun env st => (f env st).out env fun d st1 => .ret d st1
theorem ss_ret (ha : SndE G M .esc e f) : SndS G M (.Return (some e) pos) (sRet f) := fun X C gd => (ps_ret (ha X C gd)).imp fun E σ H ⟨w, env, st, s, p⟩ => ⟨w, env, st, s, PostS.bind p fun d st1 w1 v1 H1 l1 s1 r1 p1 => p1 v1 H1 (s1.ret r1)⟩
def sRetN : FS := fun _ st => .ret .non st
theorem ss_retN : SndS G M (.Return none pos) sRetN := fun X C gd => ps_retN.imp fun E σ H ⟨w, env, st, s, p⟩ => p .non H (s.ret .non)
/-- return x, x the frame's own list -/
def sRetV (i : Nat) : FS := fun env st => match env[i]? with
  | some (some (.frz, d)) => .ret d st
  | some (some (.own, d)) => .ret d st
  | _ => .stuck
theorem ss_retV (hN : G.N[i]? = some x) (hv : Vis G.sc x) {p2 : Pos} (hd : (x == ("__debug__" : Str)) = false := by decide) (hcd : (x == ("__classdict__" : Str)) = false := by decide) : SndS G M (.Return (some (.Name x p2)) pos) (sRetV i) := by
  intro X C g
  refine (ps_ret (pe_var (i := i) (x := x) (by rw [g.N]; exact hN) (by rw [g.sc]; exact hv) hd hcd)).imp fun E σ H ⟨w, env, st, s, p⟩ => ?_
  unfold sRetV at p
  cases e : env[i]? with
  | none => rw [e] at p; exact p.elim
  | some sl =>
    rw [e] at p
    match sl, e, p with
    | none, _, p => exact p.elim
    | some (.own, d), e, p =>
      obtain ⟨a, vs, ds, e1, rfl, e3, r, f4, f5⟩ := s.slot i _ e
      exact ⟨_, join_some e1, p _ _ (s.retO e3 f5 (s.al a f4).2 r)⟩
    | some (.bor, d), e, p => exact p.elim
    | some (.exc, d), e, p => exact p.elim
    | some (.frz, d), e, p =>
      obtain ⟨v, e1, r⟩ := s.slot i _ e
      exact ⟨v, join_some e1, p _ _ (s.ret r)⟩

/-! stores to names -/
def sAsg (t : Tg) (f : F) : FS := fun env st => (f env st).out env fun d st1 => match t d env with
  | some env' => .next env' st1
  | none => .stuck
theorem ss_asg {tg : Expr} {is : List Nat} {t : Tg} (he : SndE G M .esc e f) (hg : SndG G M tg is t) (hs : ∀ env, swapsWithSole [tg] e pos.line env = pure false := by intro _; rfl) (hw : ∀ env, swappedStores [tg] e env = pure none := by intro _; rfl)
    (h1 : ∀ env, (assignEach [tg] env).map (·.2) = [assign tg env] := by intro _; rfl) : SndS G M (.Assign [tg] e pos) (sAsg t f) := fun X C gd =>
  (ps_asg (he X C gd) (hg X C gd) (hs _) (hw _) (h1 _)).imp fun E σ H ⟨w, env, st, s, p⟩ => ⟨w, env, st, s, PostS.bind p fun d st1 w1 v1 H1 l1 s1 r1 p1 => ⟨w1, env, st1, d, s1, r1, by
    cases q : t d env with
    | none => rw [q] at p1; exact p1
    | some env' => rw [q] at p1; exact fun σ' s' _ => p1 w1 σ' H1 s'⟩⟩
/-- x = e, a new list is the name's own -/
def slotOf (d : D) : Slot := match d with
  | .lst _ => some (.own, d)
  | _ => some (.frz, d)
def sSet (i : Nat) (f : F) : FS := fun env st => (f env st).out env fun d st1 => if i < env.length then .next (env.set i (slotOf d)) st1 else .stuck
theorem Sim.setF {T : Tb} {B : Bs} {w w1 : Wd} {env : Ev} {st st1 : Sto} {σ : St} {H H1 : Hp} {v : V} {d : D} (s0 : Sim T B w env st σ H) (s : Sim T B w1 env st1 σ H1) (hi : i < env.length) (r : RepF T.K H w1 H1 v d) : Sim T B w1 (env.set i (slotOf d)) st1 (σ.set i (some v)) H1 := by
  cases d with
  | lst ds =>
    obtain ⟨a, vs, rfl, e2, e3, e4, e5⟩ := r
    refine s.set hi ⟨a, vs, ds, rfl, rfl, e2, e5, e4, s0.le.back e3⟩ fun d' hd' j e hj he hq => ?_
    obtain ⟨a', vs', ds', g1, g2, g3, _⟩ := s0.slot j _ he
    rw [g1] at hq
    cases hq
    rw [e3] at g3
    cases g3
  | _ => exact s.setFrz hi r
theorem ss_set {p2 : Pos} (hN : G.N[i]? = some x) (hx : Loc G.sc x) (ht : TgOk G x) (he : SndE G M .fr e f) (hs : ∀ env, swapsWith e (some (.Name x p2)) pos.line env = pure false := by intro _; rfl) : SndS G M (.Assign [.Name x p2] e pos) (sSet i f) := fun X C gd =>
  (ps_set (i := i) gd.nd (by rw [gd.N]; exact hN) (by rw [gd.sc]; exact hx) (he X C gd) (hs _) (gd.fnOk ht)).imp fun E σ H ⟨w, env, st, s, p⟩ => ⟨w, env, st, s, PostS.bind p fun d st1 w1 v1 H1 l1 s1 r1 p1 => by
    split at p1
    · exact p1 w1 _ H1 (s.setF s1 (by assumption) r1)
    · exact p1.elim⟩
theorem ss_setE {p2 : Pos} (hN : G.N[i]? = some x) (hx : Loc G.sc x) (ht : TgOk G x) (he : SndE G M .esc e f) (hs : ∀ env, swapsWith e (some (.Name x p2)) pos.line env = pure false := by intro _; rfl) : SndS G M (.Assign [.Name x p2] e pos) (sAsg (tgName i) f) := fun X C gd =>
  (ps_set (i := i) gd.nd (by rw [gd.N]; exact hN) (by rw [gd.sc]; exact hx) (he X C gd) (hs _) (gd.fnOk ht)).imp fun E σ H ⟨w, env, st, s, p⟩ => ⟨w, env, st, s, PostS.bind p fun d st1 w1 v1 H1 l1 s1 r1 p1 => by
    unfold tgName at p1
    split at p1
    · rename_i env' e
      split at e
      · cases e
        exact p1 w1 _ H1 (s1.setFrz (by assumption) r1)
      · cases e
    · exact p1.elim⟩
/-- lists that may be changed no more: they may be kept -/
def frzE : List Nat → Ev → Ev
  | [], env => env
  | i :: is, env => match env[i]? with
    | some (some (.own, d)) => frzE is (env.set i (some (.frz, d)))
    | _ => frzE is env
def sFrz (is : List Nat) (f : FS) : FS := fun env st => f (frzE is env) st
theorem Sim.frz {T : Tb} {B : Bs} : ∀ {is : List Nat} {w : Wd} {env : Ev} {st : Sto} {σ : St} {H : Hp}, Sim T B w env st σ H → ∃ w', Sim T B w' (frzE is env) st σ H
  | [], w, _, _, _, _, s => ⟨w, s⟩
  | i :: is, w, env, st, σ, H, s => by
    unfold frzE
    split
    · rename_i d e
      obtain ⟨a, vs, ds, e1, rfl, e3, r, f4, f5⟩ := s.slot i _ e
      have hi : i < env.length := (List.getElem?_eq_some_iff.mp e).1
      have ok : Ok2 w H (w.sub a) H := ⟨fun _ _ e => e, fun _ _ e _ => e, fun b u e n1 n2 => ⟨e, fun z => n1 z.1, n2⟩⟩
      have s' : Sim T B (w.sub a) (env.set i (some (.frz, .lst ds))) st σ H := by
        refine ⟨by rw [List.length_set]; exact s.len, fun j sl ej => ?_, fun j k d e a' h1 h2 h3 h4 => ?_, s.sto.to ok (fun _ _ => rfl) rfl, fun b z => s.al b z.1, ⟨s.le.pre, s.le.fr, s.le.live, s.le.new, fun b z => s.le.S b z.1, fun b z => ⟨s.sub b z, fun z2 => s.bal b z (z2 ▸ f5)⟩⟩, fun b z => ⟨s.sub b z, fun z2 => s.bal b z (z2 ▸ f5)⟩, s.bal, fun p hp => (s.pin p hp).to ok fun a u e n _ => ⟨e, n⟩⟩
        · rcases get_set ej with ⟨z1, z2⟩ | ⟨z1, z2⟩
          · subst z1 z2
            exact ⟨_, e1, .lst (.inl e3) (fun z => z.2 rfl) (s.al a f4).2 (Reps.to ok _ _ r)⟩
          · have q := s.slot j sl z2
            match sl, q, z2 with
            | none, _, _ => trivial
            | some (.frz, d), ⟨v, e, r⟩, _ => exact ⟨v, e, Rep.to ok _ _ r⟩
            | some (.own, d), ⟨b, us, es, g1, g2, g3, rr, g4, g5⟩, z2 =>
              refine ⟨b, us, es, g1, g2, g3, Reps.to ok _ _ rr, ⟨g4, fun z => ?_⟩, g5⟩
              exact z1 (s.dist j i d _ b z2 e g1 (by rw [z]; exact e1))
            | some (.bor, d), ⟨b, us, es, g1, g2, rr, g4⟩, _ => exact ⟨b, us, es, g1, g2, Reps.to ok _ _ rr, g4.to fun a u e n _ => ⟨e, n⟩⟩
            | some (.exc, d), ⟨b, c, cls, dd, f, v0, ee, g1, g2, g3, g4, g5, g6, r⟩, _ => exact ⟨b, c, cls, dd, f, v0, ee, g1, g2, g3, g4, fun z => g5 z.1, g6, Rep.to ok _ _ r⟩
        · rcases get_set h1 with ⟨z1, z2⟩ | ⟨z1, z2⟩
          · cases z2
          · rcases get_set h2 with ⟨z3, z4⟩ | ⟨z3, z4⟩
            · cases z4
            · exact s.dist j k d e a' z2 z4 h3 h4
      exact s'.frz
    · exact s.frz
theorem ss_frz {is : List Nat} {s : Stmt} (h : SndS G M s s1) : SndS G M s (sFrz is s1) := fun X C gd => (h X C gd).imp fun E σ H ⟨w, env, st, s, p⟩ => by
  obtain ⟨w', s'⟩ := s.frz (is := is)
  exact ⟨w', _, st, s', p⟩
end
end NC

/-! ### loops, own lists changed -/
namespace NC
open PySem L2

/-- the iterator J yields ds, as long as the pins hold -/
def ItOk (C : Cf) (pin : List (V × D)) (J : It) (ds : List D) : Prop :=
  ∀ (B' : Bs), B'.w = C.B.w → B'.H = C.B.H → (∀ p ∈ pin, p ∈ B'.pin) → ∀ w env st σ H, Sim C.T B' w env st σ H → ∀ i : Nat,
    (∀ d, ds[i]? = some d → J.go i H ∧ ∀ x H', J.yld i H x H' → ∃ w', Le w H w' H' ∧ Sim C.T B' w' env st σ H' ∧ Rep C.T.K w' H' x d) ∧ (ds.length ≤ i → J.stop i H)
def PostI (C : Cf) (env : Ev) (σ : St) (w : Wd) (H : Hp) (r : R (List D)) (Q : It → Hp → Prop) : Prop := match r with
  | .ok ds st' => ∀ w' H' J pin, Le w H w' H' → Sim C.T C.B w' env st' σ H' → (∀ p ∈ pin, PinOk C.T.K C.B w' H' p) → ItOk C pin J ds → ds.length ≤ sizeLine → Q J H'
  | .exc x st' => ∀ w' H' c dx, Le w H w' H' → Sim C.T C.B w' env st' σ H' → XRep C.T w' H' x c dx → C.W c dx σ H'
  | .stuck => False
def tI (C : Cf) (f : FL) : TI := fun σ H Q => ∃ w env st, Sim C.T C.B w env st σ H ∧ PostI C env σ w H (f env st) Q
def SndI (G : Ct) (M : Mo) (tg e : Expr) (f : FL) : Prop := ∀ X C, Gd G M X C → PI X tg e (tI C f)
theorem _root_.L2.PI.imp {X : Cx} {tg e : Expr} {t t' : TI} (h : PI X tg e t) (k : ∀ σ H Q, t' σ H Q → t σ H Q) : PI X tg e t' := ⟨fun pins s σ H Q I q => h.run pins s σ H Q I (k _ _ _ q)⟩
theorem _root_.L2.PI.or {X : Cx} {tg e : Expr} {t t' : TI} (h : PI X tg e t) (h' : PI X tg e t') : PI X tg e (fun σ H Q => t σ H Q ∨ t' σ H Q) := ⟨fun pins s σ H Q I q => q.elim (h.run pins s σ H Q I) (h'.run pins s σ H Q I)⟩

/-- pi_list, pi_tup with the length's bound -/
theorem pi_listB {X : Cx} {tg l : Expr} {tl : TE} (hl : PE X l tl) : PI X tg l (fun σ H R => tl σ H fun x H1 => ∃ a, x = .ref a ∧ ∃ xs, SqL X.K H1 a xs ∧ (xs.length ≤ sizeLine → R (Itl X.K a) H1)) := by
  refine ⟨fun pins s σ H R I h => ?_⟩
  refine thn (hl.run pins s σ H _ I h) fun v s1 ⟨x, H1, I1, r1, q1⟩ => ?_
  obtain ⟨a, e, xs, hq, q⟩ := q1
  subst e
  cases r1
  obtain ⟨its, rv, p, hz⟩ := I1.list hq
  refine wpAny_pyIter_list p.isList ?_
  refine ⟨s1.heap.objs.size, [s1.heap.objs.size], _, _, H1, rfl, I1.kept (t' := s1.toks) fun b o e => Heap.get?_push_of_some _ e, turn_list a _, ⟨_, Heap.get?_push_size _ rfl, rfl, rfl⟩, fun b hb => ?_, q hz⟩
  have e : b = s1.heap.objs.size := by simpa using hb
  subst e
  exact I1.fpOk (Nat.le_refl _) (I1.hok.fresh (Nat.le_refl _))
theorem pi_tupB {X : Cx} {tg l : Expr} {tl : TE} (hl : PE X l tl) : PI X tg l (fun σ H R => tl σ H fun x H1 => ∃ a, x = .ref a ∧ ∃ xs, SqT X.K H1 a xs ∧ (xs.length ≤ sizeLine → R (Itt X.K a) H1)) := by
  refine ⟨fun pins s σ H R I h => ?_⟩
  refine thn (hl.run pins s σ H _ I h) fun v s1 ⟨x, H1, I1, r1, q1⟩ => ?_
  obtain ⟨a, e, xs, hq, q⟩ := q1
  subst e
  cases r1
  obtain ⟨its, rv, p, hz⟩ := I1.tuple hq
  refine wpAny_pyIter_tuple (show s1.heap.IsTuple a its.toArray from p) ?_
  refine ⟨s1.heap.objs.size, [s1.heap.objs.size], _, _, H1, rfl, I1.kept (t' := s1.toks) fun b o e => Heap.get?_push_of_some _ e, turn_tuple a _, ⟨_, Heap.get?_push_size _ rfl, rfl, rfl⟩, fun b hb => ?_, q hz⟩
  have e : b = s1.heap.objs.size := by simpa using hb
  subst e
  exact I1.fpOk (Nat.le_refl _) (I1.hok.fresh (Nat.le_refl _))

theorem PinOk.lst {K : PySem.W.Frag} {B : Bs} {w : Wd} {H : Hp} {v : V} {ds : List D} (h : PinOk K B w H (v, .lst ds)) : ∃ a vs, v = .ref a ∧ LstAt K H a vs ∧ True ∧ Reps K w H vs ds := by
  rcases h with h | ⟨a, vs, es, e1, e2, r, b⟩
  · exact RepR.lst (.inl h)
  · cases e2; exact ⟨a, vs, e1, b.at_, trivial, r⟩
section
variable {G : Ct} {M : Mo} {m : Md} {X : Cx} {C : Cf} {a b c e tg : Expr} {f g h : F} {p q : FB} {s1 s2 : FS} {pos : Pos} {i : Nat} {x : Str}
/-- a text's signs -/
def chrs (z : Str) : List D := z.cps.toList.map fun c => D.str ⟨#[c]⟩
theorem chrs_len (z : Str) : (chrs z).length = z.length := by unfold chrs; rw [List.length_map]; exact Array.length_toList
theorem str_it {C : Cf} {z : Str} : ItOk C [] (Its z) (chrs z) := by
  intro B' _ _ hp w env st σ H s i
  refine ⟨fun d hd => ?_, fun hi' => by rw [chrs_len] at hi'; exact hi'⟩
  have hi' : i < z.cps.size := by
    have := (List.getElem?_eq_some_iff.mp hd).1
    rw [chrs_len] at this
    exact this
  refine ⟨hi', fun x H' hy => ?_⟩
  obtain ⟨rfl, c, hc, rfl⟩ := hy
  unfold chrs at hd
  rw [List.getElem?_map, Array.getElem?_toList, hc] at hd
  cases hd
  exact ⟨w, .refl _ _, s, .str _⟩
/-- a list, a tuple or a text that is walked -/
def iSeq (f : F) : FL := fun env st => (f env st).bind fun d st1 => match d with
  | .lst ds => .ok ds st1
  | .tup ds => .ok ds st1
  | .str z => if z.length ≤ sizeLine then .ok (chrs z) st1 else .stuck
  | _ => .stuck
theorem si_seq (he : SndE G M .esc e f) : SndI G M tg e (iSeq f) := by
  intro X C gd
  refine ((pi_listB (he X C gd)).or ((pi_tupB (he X C gd)).or (pi_str (he X C gd)))).imp fun σ H Q ⟨w, env, st, s, p⟩ => ?_
  rw [show X.K = C.T.K from gd.K.trans (by rw [gd.T])]
  unfold iSeq at p
  cases e1 : f env st with
  | stuck => rw [e1] at p; exact p.elim
  | exc x st' => rw [e1] at p; exact .inl ⟨w, env, st, s, by rw [e1]; exact p⟩
  | ok d st' =>
    rw [e1] at p
    cases d with
    | lst ds =>
      refine .inl ⟨w, env, st, s, ?_⟩
      rw [e1]
      intro w' v H' l s' r
      have r' : Rep C.T.K w' H' v (.lst ds) := r
      obtain ⟨aa, vs, rfl, h1, _, h4⟩ := RepR.lst (.inl r')
      refine ⟨_, rfl, _, h1.sq, fun hz => p w' H' _ [(.ref aa, .lst ds)] l s' (fun q hq => ?_) ?_ (by rw [← h4.length]; exact hz)⟩
      · have : q = (.ref aa, .lst ds) := by simpa using hq
        subst this; exact .inl r'
      · intro B' _ _ hp w2 env2 st2 σ2 H2 s2 i
        obtain ⟨_, us, e0, k1, _, k4⟩ := PinOk.lst (s2.pin _ (hp (.ref aa, .lst ds) (by simp)))
        cases e0
        refine ⟨fun d hd => ?_, fun hi => ⟨_, k1.sq, by rw [k4.length]; exact hi⟩⟩
        obtain ⟨v, hv, rv⟩ := k4.get hd
        refine ⟨⟨_, v, k1.sq, hv⟩, fun x H' hy => ?_⟩
        obtain ⟨rfl, hy⟩ := hy
        have := hy _ k1.sq
        rw [hv] at this
        cases this
        exact ⟨w2, .refl _ _, s2, rv⟩
    | str z =>
      refine .inr (.inr ⟨w, env, st, s, ?_⟩)
      rw [e1]
      intro w' v H' l s' r
      have p' : PostI C env σ w H (if z.length ≤ sizeLine then .ok (chrs z) st' else .stuck) Q := p
      split at p'
      · exact ⟨z, RepR.str (.inl r), p' w' H' _ [] l s' (fun q hq => by cases hq) str_it (by rw [chrs_len]; assumption)⟩
      · exact p'.elim
    | tup ds =>
      refine .inr (.inl ⟨w, env, st, s, ?_⟩)
      rw [e1]
      intro w' v H' l s' r
      have r' : Rep C.T.K w' H' v (.tup ds) := r
      cases r with
      | tup h1 h4 =>
        rename_i aa vs
        refine ⟨_, rfl, _, h1, fun hz => p w' H' _ [(.ref aa, .tup ds)] l s' (fun q hq => ?_) ?_ (by rw [← h4.length]; exact hz)⟩
        · have : q = (.ref aa, .tup ds) := by simpa using hq
          subst this; exact .inl r'
        · intro B' _ _ hp w2 env2 st2 σ2 H2 s2 i
          have r2 : Rep C.T.K w2 H2 (.ref aa) (.tup ds) := by
            rcases s2.pin _ (hp (.ref aa, .tup ds) (by simp)) with z | ⟨_, _, _, _, z, _⟩
            · exact z
            · cases z
          cases r2 with
          | tup k1 k4 =>
            refine ⟨fun d hd => ?_, fun hi => ⟨_, k1, by rw [k4.length]; exact hi⟩⟩
            obtain ⟨v, hv, rv⟩ := k4.get hd
            refine ⟨⟨_, v, k1, hv⟩, fun x H' hy => ?_⟩
            obtain ⟨rfl, hy⟩ := hy
            have := hy _ k1
            rw [hv] at this
            cases this
            exact ⟨w2, .refl _ _, s2, rv⟩
    | _ => exact p.elim
/-- a name's list or tuple, walked by a for: kept or lent -/
def iVar (i : Nat) : FL := fun env st => match env[i]? with
  | some (some (.frz, .lst ds)) => .ok ds st
  | some (some (.frz, .tup ds)) => .ok ds st
  | some (some (.bor, .lst ds)) => .ok ds st
  | some (some (.frz, .str z)) => if z.length ≤ sizeLine then .ok (chrs z) st else .stuck
  | _ => .stuck
theorem lst_it {C : Cf} {aa : Addr} {ds : List D} : ItOk C [(.ref aa, .lst ds)] (Itl C.T.K aa) ds := by
  intro B' _ _ hp w2 env2 st2 σ2 H2 s2 i
  obtain ⟨_, us, e0, k1, _, k4⟩ := PinOk.lst (s2.pin _ (hp (.ref aa, .lst ds) (by simp)))
  cases e0
  refine ⟨fun d hd => ?_, fun hi => ⟨_, k1.sq, by rw [k4.length]; exact hi⟩⟩
  obtain ⟨v, hv, rv⟩ := k4.get hd
  refine ⟨⟨_, v, k1.sq, hv⟩, fun x H' hy => ?_⟩
  obtain ⟨rfl, hy⟩ := hy
  have := hy _ k1.sq
  rw [hv] at this
  cases this
  exact ⟨w2, .refl _ _, s2, rv⟩
theorem tup_it {C : Cf} {aa : Addr} {ds : List D} : ItOk C [(.ref aa, .tup ds)] (Itt C.T.K aa) ds := by
  intro B' _ _ hp w2 env2 st2 σ2 H2 s2 i
  have r2 : Rep C.T.K w2 H2 (.ref aa) (.tup ds) := by
    rcases s2.pin _ (hp (.ref aa, .tup ds) (by simp)) with z | ⟨_, _, _, _, z, _⟩
    · exact z
    · cases z
  cases r2 with
  | tup k1 k4 =>
    refine ⟨fun d hd => ?_, fun hi => ⟨_, k1, by rw [k4.length]; exact hi⟩⟩
    obtain ⟨v, hv, rv⟩ := k4.get hd
    refine ⟨⟨_, v, k1, hv⟩, fun x H' hy => ?_⟩
    obtain ⟨rfl, hy⟩ := hy
    have := hy _ k1
    rw [hv] at this
    cases this
    exact ⟨w2, .refl _ _, s2, rv⟩
theorem si_var (hN : G.N[i]? = some x) (hv : Vis G.sc x) (hd : (x == ("__debug__" : Str)) = false := by decide) (hcd : (x == ("__classdict__" : Str)) = false := by decide) : SndI G M tg (.Name x pos) (iVar i) := by
  intro X C gd
  have pv := pe_var (X := X) (pos := pos) (i := i) (x := x) (by rw [gd.N]; exact hN) (by rw [gd.sc]; exact hv) hd hcd
  refine ((pi_listB pv).or ((pi_tupB pv).or (pi_str pv))).imp fun σ H Q ⟨w, env, st, s, p⟩ => ?_
  rw [show X.K = C.T.K from gd.K.trans (by rw [gd.T])]
  unfold iVar at p
  split at p
  · rename_i ds hi
    obtain ⟨v, e1, r⟩ := s.slot i _ hi
    obtain ⟨aa, vs, rfl, h1, _, h4⟩ := RepR.lst (.inl r)
    exact .inl ⟨_, join_some e1, _, rfl, _, h1.sq, fun hz => p w H _ _ (.refl _ _) s (fun q hq => by
      have : q = (.ref aa, .lst ds) := by simpa using hq
      subst this; exact .inl r) lst_it (by rw [← h4.length]; exact hz)⟩
  · rename_i ds hi
    obtain ⟨v, e1, r⟩ := s.slot i _ hi
    obtain ⟨aa, vs, rfl, h1, h4⟩ := RepR.tup (.inl r)
    exact .inr (.inl ⟨_, join_some e1, _, rfl, _, h1, fun hz => p w H _ _ (.refl _ _) s (fun q hq => by
      have : q = (.ref aa, .tup ds) := by simpa using hq
      subst this; exact .inl r) tup_it (by rw [← h4.length]; exact hz)⟩)
  · rename_i ds hi
    obtain ⟨a, vs, ds', e1, e2, r, b⟩ := s.slot i _ hi
    cases e2
    exact .inl ⟨_, join_some e1, _, rfl, _, b.at_.sq, fun hz => p w H _ _ (.refl _ _) s (fun q hq => by
      have : q = (.ref a, .lst ds) := by simpa using hq
      subst this; exact .inr ⟨a, vs, ds, rfl, rfl, r, b⟩) lst_it (by rw [← r.length]; exact hz)⟩
  · rename_i z hi
    obtain ⟨v, e1, r⟩ := s.slot i _ hi
    split at p
    · exact .inr (.inr ⟨_, join_some e1, z, RepR.str (.inl r), p w H _ [] (.refl _ _) s (fun q hq => by cases hq) str_it (by rw [chrs_len]; assumption)⟩)
    · exact p.elim
  · exact p.elim
/-- range -/
def rngD (lo hi : Int) : List D := (List.range (hi - lo).toNat).map fun (i : Nat) => D.int (lo + i)
def iRng1D (f : F) : FL := fun env st => (f env st).bind fun d st1 => match d with
  | .int n => if n ≤ sizeLine ∧ -(2 ^ 62) ≤ n then .ok (rngD 0 n) st1 else .stuck
  | _ => .stuck
def iRng2D (f g : F) : FL := fun env st => (f env st).bind fun d st1 => (g env st1).bind fun d2 st2 => match d, d2 with
  | .int lo, .int hi => if hi - lo ≤ sizeLine ∧ (-(2 ^ 62) ≤ lo ∧ lo < 2 ^ 62 ∧ -(2 ^ 62) ≤ hi ∧ hi < 2 ^ 62) then .ok (rngD lo hi) st2 else .stuck
  | _, _ => .stuck
theorem rngD_len (lo hi : Int) : (rngD lo hi).length = (hi - lo).toNat := by unfold rngD; rw [List.length_map, List.length_range]
theorem itr_ok (lo hi : Int) : ItOk C [] (Itr lo (hi - lo).toNat) (rngD lo hi) := by
  intro B' _ _ hp w env st σ H s i
  refine ⟨fun d hd => ?_, fun hi' => by rw [rngD_len] at hi'; exact hi'⟩
  have hi' : i < (hi - lo).toNat := by rw [← rngD_len]; exact (List.getElem?_eq_some_iff.mp hd).1
  refine ⟨hi', fun x H' hy => ?_⟩
  obtain ⟨rfl, rfl⟩ := hy
  unfold rngD at hd
  rw [List.getElem?_map, List.getElem?_range hi'] at hd
  cases hd
  exact ⟨w, .refl _ _, s, .int _⟩
theorem si_rng1 {p1 pos : Pos} (hg : G.sc.names.lookup ("range" : Str) = some .globalImplicit) (hm : M.mg ("range" : Str) = none) (he : SndE G M .rd e f) (hs : ∀ env, starEach [e] env = [(false, eval e env)] := by intro _; rfl) : SndI G M tg (.Call (.Name "range" p1) [e] [] pos) (iRng1D f) := by
  intro X C gd
  refine (pi_range1 (by show X.env.scope.names.lookup _ = _; rw [gd.sc]; exact hg) (by rw [gd.mg]; exact hm) (pa_cons (he X C gd) pa_nil (hs _)) (hs _)).imp fun σ H Q ⟨w, env, st, s, p⟩ => ⟨w, env, st, s, ?_⟩
  unfold iRng1D at p
  cases e1 : f env st with
  | stuck => rw [e1] at p; exact p.elim
  | exc x st' => rw [e1] at p; exact p
  | ok d st' =>
    rw [e1] at p
    intro w' v H' l s' r
    cases d with
    | int n =>
      have p' : PostI C env σ w H (if n ≤ sizeLine ∧ -(2 ^ 62) ≤ n then .ok (rngD 0 n) st' else .stuck) Q := p
      split at p'
      · rename_i hc
        have hz : (sizeLine : Int) < 2 ^ 62 := by rw [sizeLine_eq]; decide
        refine ⟨n, by rw [RepR.int r], hc.2, by omega, ?_⟩
        have := p' w' H' (Itr 0 (n - 0).toNat) [] l s' (fun q hq => by cases hq) (itr_ok 0 n) (by rw [rngD_len]; omega)
        rw [Int.sub_zero] at this
        exact this
      · exact p'.elim
    | _ => exact p.elim
theorem si_rng2 {p1 pos : Pos} (hg : G.sc.names.lookup ("range" : Str) = some .globalImplicit) (hm : M.mg ("range" : Str) = none) (ha : SndE G M .rd a f) (hb : SndE G M .rd b g) (hs : ∀ env, starEach [a, b] env = [(false, eval a env), (false, eval b env)] := by intro _; rfl)
    (hs2 : ∀ env, starEach [b] env = [(false, eval b env)] := by intro _; rfl) : SndI G M tg (.Call (.Name "range" p1) [a, b] [] pos) (iRng2D f g) := by
  intro X C gd
  refine (pi_range2 (by show X.env.scope.names.lookup _ = _; rw [gd.sc]; exact hg) (by rw [gd.mg]; exact hm) (pa_cons (ha X C gd) (pa_cons (hb X C gd) pa_nil (hs2 _)) (by rw [hs, hs2])) (hs _) (hs2 _)).imp fun σ H Q ⟨w, env, st, s, p⟩ => ⟨w, env, st, s, ?_⟩
  unfold iRng2D at p
  cases e1 : f env st with
  | stuck => rw [e1] at p; exact p.elim
  | exc x st' => rw [e1] at p; exact p
  | ok d st' =>
    rw [e1] at p
    intro w' v H' l s' r
    refine ⟨w', env, st', s', ?_⟩
    change PostI C env σ w H ((g env st').bind _) Q at p
    cases e2 : g env st' with
    | stuck => rw [e2] at p; exact p.elim
    | exc x st2 => rw [e2] at p; exact fun w2 H2 c dx l2 => p w2 H2 c dx (l.trans l2)
    | ok d2 st2 =>
      rw [e2] at p
      intro w2 v2 H2 l2 s2 r2
      match d, d2, r, r2, p with
      | .int lo, .int hi, r, r2, p =>
        have p' : PostI C env σ w H (if hi - lo ≤ sizeLine ∧ (-(2 ^ 62) ≤ lo ∧ lo < 2 ^ 62 ∧ -(2 ^ 62) ≤ hi ∧ hi < 2 ^ 62) then .ok (rngD lo hi) st2 else .stuck) Q := p
        split at p'
        · rename_i hc
          exact ⟨lo, hi, by rw [RepR.int r, RepR.int r2], hc.2, p' w2 H2 _ [] (l.trans l2) s2 (fun q hq => by cases hq) (itr_ok lo hi) (by rw [rngD_len]; omega)⟩
        · exact p'.elim
      | .non, _, _, _, p => exact p.elim
      | .bl _, _, _, _, p => exact p.elim
      | .str _, _, _, _, p => exact p.elim
      | .lst _, _, _, _, p => exact p.elim
      | .tup _, _, _, _, p => exact p.elim
      | .loc _, _, _, _, p => exact p.elim
      | .int _, .non, _, _, p => exact p.elim
      | .int _, .bl _, _, _, p => exact p.elim
      | .int _, .str _, _, _, p => exact p.elim
      | .int _, .lst _, _, _, p => exact p.elim
      | .int _, .tup _, _, _, p => exact p.elim
      | .int _, .loc _, _, _, p => exact p.elim

/-! for -/
def forL (t : Tg) (body : FS) : List D → Ev → Sto → Out
  | [], env, st => .next env st
  | d :: ds, env, st => match t d env with
    | none => .stuck
    | some env1 => match body env1 st with
      | .next env2 st2 => forL t body ds env2 st2
      | .cont env2 st2 => forL t body ds env2 st2
      | .brk env2 st2 => .next env2 st2
      | o => o
def sFor (fi : FL) (t : Tg) (body : FS) : FS := fun env st => match fi env st with
  | .ok ds st1 => forL t body ds env st1
  | .exc x st1 => .exc x env st1
  | .stuck => .stuck
theorem Sim.unpin {T : Tb} {B B' : Bs} {w : Wd} {env : Ev} {st : Sto} {σ : St} {H : Hp} (s : Sim T B' w env st σ H) (e1 : B'.w = B.w) (e2 : B'.H = B.H) (e3 : B'.ex = B.ex) (hp : ∀ p ∈ B.pin, p ∈ B'.pin) : Sim T B w env st σ H := by
  cases B; cases B'
  simp only at e1 e2 e3
  subst e1 e2 e3
  exact ⟨s.len, s.slot, s.dist, s.sto, s.al, s.le, s.sub, s.bal, fun p h => s.pin p (hp p h)⟩
theorem Sim.topin {T : Tb} {B B' : Bs} {w : Wd} {env : Ev} {st : Sto} {σ : St} {H : Hp} (s : Sim T B w env st σ H) (e1 : B'.w = B.w) (e2 : B'.H = B.H) (e3 : B'.ex = B.ex) (hp : ∀ p ∈ B'.pin, PinOk T.K B w H p) : Sim T B' w env st σ H := by
  cases B; cases B'
  simp only at e1 e2 e3
  subst e1 e2 e3
  exact ⟨s.len, s.slot, s.dist, s.sto, s.al, s.le, s.sub, s.bal, hp⟩
theorem ss_for {iter : Expr} {body : List Stmt} {is : List Nat} {fi : FL} {t : Tg} {fb : FS} (hm : M.hot = false) (hi : SndI G M tg iter fi) (hg : SndG G M tg is t) (hb : SndB G M body fb)
    (hs : ∀ env x, foldedSetIterable iter env x = pure x := by intro _ _; rfl) : SndS G M (.For tg iter body [] pos) (sFor fi t fb) := by
  intro X C gd
  let C' : List (V × D) → Cf := fun pin => ⟨C.T, ⟨C.B.w, C.B.H, pin ++ C.B.pin, C.B.ex⟩, C.W⟩
  have gd' : ∀ pin, Gd G M X (C' pin) := fun pin => ⟨gd.p, gd.w, gd.K, gd.T, gd.mg, gd.base, gd.N, gd.sc, gd.nd, gd.cold, gd.frm, gd.hotr, gd.exk, gd.fn, gd.pown, gd.tk⟩
  let tb : TS := fun D σ H => ∃ pin, tS (C' pin) fb D σ H
  have hb' : PSs X body tb := ⟨fun pins s σ H D I ⟨pin, q⟩ => (hb X (C' pin) (gd' pin)).run pins s σ H D I q⟩
  let tg' : TG := fun v σ H Q => ∃ pin, tG (C' pin) is t v σ H Q
  have hg' : PG X tg tg' := ⟨fun pins s σ H v u Q I r ⟨pin, q⟩ => (hg X (C' pin) (gd' pin)).run pins s σ H v u Q I r q⟩
  refine (ps_for gd.pown (gd.cold hm).1 (hi X C gd) hg' hb' (hs _)).imp fun E σ H ⟨w, env, st, s, p⟩ => ⟨w, env, st, s, ?_⟩
  unfold sFor at p
  cases e1 : fi env st with
  | stuck => rw [e1] at p; exact p.elim
  | exc x st' => rw [e1] at p; exact fun w' H' c dx l s' xr => p w' σ H' c dx s' xr
  | ok ds st' =>
    rw [e1] at p
    intro w' H' J pin l s' hpin hJ hz
    have sp : ∀ {w env st σ H}, Sim C.T C.B w env st σ H → (∀ q ∈ pin, PinOk C.T.K C.B w H q) → Sim C.T (C' pin).B w env st σ H := fun s h => s.topin rfl rfl rfl fun q hq => (List.mem_append.mp hq).elim (h q) (s.pin q)
    have spo : ∀ {w env st σ H}, Sim C.T (C' pin).B w env st σ H → Sim C.T C.B w env st σ H := fun s => s.unpin rfl rfl rfl fun q hq => List.mem_append_right _ hq
    refine ⟨fun i m σ H => m = ds.length - i ∧ i ≤ ds.length ∧ ∃ w env st, Sim C.T (C' pin).B w env st σ H ∧ PostS C E (forL t fb (ds.drop i) env st), ⟨ds.length, rfl, Nat.zero_le _, w', env, st', sp s' hpin, p⟩, ?_⟩
    rintro i m σ2 H2 ⟨rfl, hi, w2, env2, st2, s2, p2⟩
    obtain ⟨h1, h2⟩ := hJ (C' pin).B rfl rfl (fun q hq => List.mem_append_left _ hq) w2 env2 st2 σ2 H2 s2 i
    by_cases hlt : i < ds.length
    · have hd : ds[i]? = some ds[i] := List.getElem?_eq_getElem hlt
      obtain ⟨g1, g2⟩ := h1 _ hd
      rw [List.drop_eq_getElem_cons hlt] at p2
      refine .inr ⟨g1, fun σ' H' => ∃ w env st, Sim C.T (C' pin).B w env st σ' H' ∧ PostS C E (forL t fb (ds.drop (i + 1)) env st), fun σ' H' hN => ⟨ds.length - (i + 1), by omega, rfl, hlt, hN⟩, fun x H' hy => ?_⟩
      obtain ⟨w3, l3, s3, r3⟩ := g2 x H' hy
      refine ⟨pin, w3, env2, st2, ds[i], s3, r3, ?_⟩
      unfold forL at p2
      cases q : t ds[i] env2 with
      | none => rw [q] at p2; exact p2.elim
      | some env3 =>
        rw [q] at p2
        dsimp only at p2
        refine fun σ' s4 _ => ⟨pin, w3, env3, st2, s4, ?_⟩
        cases q2 : fb env3 st2 with
        | next env4 st4 => rw [q2] at p2; exact fun w5 σ5 H5 s5 => ⟨w5, env4, st4, s5, p2⟩
        | cont env4 st4 => rw [q2] at p2; exact fun w5 σ5 H5 s5 => ⟨w5, env4, st4, s5, p2⟩
        | brk env4 st4 => rw [q2] at p2; exact fun w5 σ5 H5 s5 => p2 w5 σ5 H5 (spo s5)
        | ret d st4 => rw [q2] at p2; exact p2
        | exc x env4 st4 => rw [q2] at p2; exact fun w5 σ5 H5 c dx s5 xr => p2 w5 σ5 H5 c dx (spo s5) xr
        | stuck => rw [q2] at p2; exact p2
    · have e : ds.drop i = [] := List.drop_eq_nil_of_le (by omega)
      rw [e] at p2
      exact .inl ⟨h2 (by omega), p2 w2 σ2 H2 (spo s2)⟩

/-! while -/
def whL (c : FB) (body : FS) : Nat → Ev → Sto → Out
  | 0, _, _ => .stuck
  | n + 1, env, st => (c env st).outB env fun b st1 => if b = true then (match body env st1 with
      | .next env2 st2 => whL c body n env2 st2
      | .cont env2 st2 => whL c body n env2 st2
      | .brk env2 st2 => .next env2 st2
      | o => o) else .next env st1
def wFuel : Nat := 1000000000
def sWh (c : FB) (body : FS) : FS := fun env st => whL c body wFuel env st
theorem ss_wh {body : List Stmt} {fb : FS} (hc : SndT G M c p) (hb : SndB G M body fb) : SndS G M (.While c body [] pos) (sWh p fb) := by
  intro X C gd
  refine (ps_while gd.pown (hc X C gd) (hb X C gd)).imp fun E σ H ⟨w, env, st, s, pp⟩ => ?_
  refine ⟨fun m σ H => ∃ w env st, Sim C.T C.B w env st σ H ∧ PostS C E (whL p fb m env st), ⟨wFuel, w, env, st, s, pp⟩, ?_⟩
  rintro m σ2 H2 ⟨w2, env2, st2, s2, p2⟩
  cases m with
  | zero => exact p2.elim
  | succ n =>
    refine ⟨w2, env2, st2, s2, PostS.bindT p2 fun d st1 w1 H1 l1 s1 p1 => ?_⟩
    cases d with
    | false => rw [if_neg Bool.false_ne_true] at p1 ⊢; exact p1 w1 σ2 H1 s1
    | true =>
      rw [if_pos rfl] at p1 ⊢
      refine ⟨fun σ' H' => ∃ w env st, Sim C.T C.B w env st σ' H' ∧ PostS C E (whL p fb n env st), fun σ' H' hN => ⟨n, Nat.lt_succ_self _, hN⟩, w1, env2, st1, s1, ?_⟩
      cases q2 : fb env2 st1 with
      | next env4 st4 => rw [q2] at p1; exact fun w5 σ5 H5 s5 => ⟨w5, env4, st4, s5, p1⟩
      | cont env4 st4 => rw [q2] at p1; exact fun w5 σ5 H5 s5 => ⟨w5, env4, st4, s5, p1⟩
      | brk env4 st4 => rw [q2] at p1; exact p1
      | ret d st4 => rw [q2] at p1; exact p1
      | exc x env4 st4 => rw [q2] at p1; exact p1
      | stuck => rw [q2] at p1; exact p1

/-! lists of the frame's own, changed -/
theorem Sim.chg {T : Tb} {B : Bs} {w : Wd} {env : Ev} {st : Sto} {σ : St} {H : Hp} {i : Nat} {d : D} {a : Addr} {vs : List V} {ds : List D} (s : Sim T B w env st σ H) (he : env[i]? = some (some (.own, d))) (ha : (σ[i]?).join = some (.ref a))
    (r : Reps T.K w H vs ds) : Sim T B w (env.set i (some (.own, .lst ds))) st σ (upd H a (.lst vs)) := by
  obtain ⟨a', vs0, ds0, e1, rfl, e3, r0, f4, f5⟩ := s.slot i _ he
  rw [ha] at e1; cases e1
  have hi : i < env.length := (List.getElem?_eq_some_iff.mp he).1
  have nr := (s.al a f4).2
  have ok : Ok2 w H w (upd H a (.lst vs)) := by
    refine ⟨fun _ _ e => e, fun b o e im => ?_, fun b o e n1 n2 => ⟨?_, n1, n2⟩⟩
    · rw [upd_ne (fun z => by subst z; rw [e3] at e; cases e; exact im)]; exact e
    · rw [upd_ne (fun (z : b = a) => n1 (by rw [z]; exact f4))]; exact e
  have nB : ∀ b, B.H b ≠ none → b ≠ a := fun b hb z => hb (z ▸ f5)
  refine ⟨by rw [List.length_set]; exact s.len, fun j sl ej => ?_, fun j k d e b h1 h2 h3 h4 => ?_, s.sto.to ok (fun b hb => by rw [upd_ne (fun (z : b = a) => nr (by rw [← z]; exact hb))]) rfl, fun b z => ⟨?_, (s.al b z).2⟩, ⟨s.le.pre, fun b o e n => ?_, fun b o e => ?_, s.le.new, s.le.S, s.le.Sm⟩, s.sub, s.bal, fun p hp => (s.pin p hp).to ok fun c u z3 z4 z5 => ⟨by rw [upd_ne (nB c z5)]; exact z3, z4⟩⟩
  · rcases get_set ej with ⟨z1, z2⟩ | ⟨z1, z2⟩
    · subst z1 z2
      exact ⟨a, vs, ds, ha, rfl, upd_same, Reps.to ok _ _ r, f4, f5⟩
    · match sl, z2, s.slot j sl z2 with
      | none, _, _ => trivial
      | some (.frz, d), _, ⟨v, g1, g2⟩ => exact ⟨v, g1, Rep.to ok _ _ g2⟩
      | some (.own, d), z2, ⟨b, us, es, g1, g2, g3, rr, g4, g5⟩ =>
        refine ⟨b, us, es, g1, g2, ?_, Reps.to ok _ _ rr, g4, g5⟩
        rw [upd_ne (fun z => z1 (s.dist j i _ _ a z2 he (by rw [g1, z]) ha))]
        exact g3
      | some (.bor, d), _, ⟨b, us, es, g1, g2, rr, g4⟩ =>
        exact ⟨b, us, es, g1, g2, Reps.to ok _ _ rr, g4.to fun c u z3 z4 z5 => ⟨by rw [upd_ne (nB c z5)]; exact z3, z4⟩⟩
      | some (.exc, d), _, ⟨b, c, cls, dd, f, v0, ee, g1, g2, g3, g4, g5, g6, rx⟩ => exact ⟨b, c, cls, dd, f, v0, ee, g1, g2, g3, by rw [upd_ne (fun (z : dd = a) => g5 (by rw [z]; exact f4))]; exact g4, g5, g6, Rep.to ok _ _ rx⟩
  · rcases get_set h1 with ⟨z1, z2⟩ | ⟨z1, z2⟩
    · rcases get_set h2 with ⟨z3, z4⟩ | ⟨z3, z4⟩
      · rw [z1, z3]
      · subst z1; exact s.dist j k _ _ b he z4 h3 h4
    · rcases get_set h2 with ⟨z3, z4⟩ | ⟨z3, z4⟩
      · subst z3; exact s.dist j k _ _ b z2 he h3 h4
      · exact s.dist j k _ _ b z2 z4 h3 h4
  · by_cases hb : b = a
    · subst hb; rw [upd_same]; intro z; cases z
    · rw [upd_ne hb]; exact (s.al b z).1
  · rw [upd_ne (nB b (by rw [e]; intro z; cases z))]; exact s.le.fr b o e n
  · obtain ⟨o', e'⟩ := s.le.live b o e
    exact ⟨o', by rw [upd_ne (nB b (by rw [e]; intro z; cases z))]; exact e'⟩
end
end NC

/-! ### built-in functions and methods, own lists changed -/
namespace NC
open PySem L2
/-- is it None -/
def D.isNon : D → Bool
  | .non => true
  | _ => false

/-- what a built-in does with values -/
def BuS (G : Ct) (M : Mo) (m : Md) (ms : List Md) (u : Value) (k : List D → Sto → R D) : Prop := ∀ X C, Gd G M X C → ∃ r, CallR X u r ∧
  ∀ env σ w H st ds vs Q, Sim C.T C.B w env st σ H → RepL C.T.K w H ms vs ds → PostE C m env σ w H (k ds st) Q → r vs H Q
def bCall (k : List D → Sto → R D) (g : FL) : F := fun env st => (g env st).bind fun ds st1 => k ds st1
section
variable {G : Ct} {M : Mo} {m : Md} {ms : List Md} {X : Cx} {C : Cf} {a b c e tg : Expr} {es : List Expr} {f g h : F} {fl : FL} {p1 pos : Pos} {i : Nat} {x : Str} {k : List D → Sto → R D} {id T : String}
theorem sn_callB (hc : BuS G M m ms (.builtin id) k) (hg : G.sc.names.lookup x = some .globalImplicit) (hm : M.mg x = none) (hv : bootBuiltins x = some (.builtin id)) (ha : SndL G M ms (e :: es) fl) (hn : x ≠ "__name__" := by decide) (hdb : (x == ("__debug__" : Str)) = false := by decide)
    (he : ∀ env, starEach (e :: es) env = (false, eval e env) :: starEach es env := by intro _; rfl) (hpl : ∀ env, (backTo pos (starEach es env)).any (·.1) = false := by intro _; rfl) : SndE G M m (.Call (.Name x p1) (e :: es) [] pos) (bCall k fl) := by
  intro X C gd
  obtain ⟨r, h1, h2⟩ := hc X C gd
  refine (pe_callB h1 (by show X.env.scope.names.lookup _ = _; rw [gd.sc]; exact hg) (by rw [gd.mg]; exact hm) hv (ha X C gd) hn hdb (he _) (hpl _)).imp fun σ H Q ⟨w, env, st, s, p⟩ => ⟨w, env, st, s, ?_⟩
  exact PostE.bindL p fun ds st1 w1 vs H1 l1 s1 r1 p1 => h2 env σ w1 H1 st1 ds vs Q s1 r1 p1
theorem sn_callTy (hc : BuS G M m ms (.type T) k) (hg : G.sc.names.lookup x = some .globalImplicit) (hm : M.mg x = none) (hv : bootBuiltins x = some (.type T)) (ha : SndL G M ms (e :: es) fl) (hn : x ≠ "__name__" := by decide) (hdb : (x == ("__debug__" : Str)) = false := by decide)
    (he : ∀ env, starEach (e :: es) env = (false, eval e env) :: starEach es env := by intro _; rfl) (hpl : ∀ env, (backTo pos (starEach es env)).any (·.1) = false := by intro _; rfl) : SndE G M m (.Call (.Name x p1) (e :: es) [] pos) (bCall k fl) := by
  intro X C gd
  obtain ⟨r, h1, h2⟩ := hc X C gd
  refine (pe_callTy h1 (by show X.env.scope.names.lookup _ = _; rw [gd.sc]; exact hg) (by rw [gd.mg]; exact hm) hv (ha X C gd) hn hdb (he _) (hpl _)).imp fun σ H Q ⟨w, env, st, s, p⟩ => ⟨w, env, st, s, ?_⟩
  exact PostE.bindL p fun ds st1 w1 vs H1 l1 s1 r1 p1 => h2 env σ w1 H1 st1 ds vs Q s1 r1 p1
theorem RepL.rd1 {K : PySem.W.Frag} {w : Wd} {H : Hp} {vs : List V} {ds : List D} (h : RepL K w H [.rd] vs ds) : ∃ v d, vs = [v] ∧ ds = [d] ∧ RepR K w H v d := by
  cases h with
  | rd h t => cases t; exact ⟨_, _, rfl, rfl, h⟩
theorem RepL.rd2 {K : PySem.W.Frag} {w : Wd} {H : Hp} {vs : List V} {ds : List D} (h : RepL K w H [.rd, .rd] vs ds) : ∃ v u d e, vs = [v, u] ∧ ds = [d, e] ∧ RepR K w H v d ∧ RepR K w H u e := by
  cases h with
  | rd h t =>
    obtain ⟨u, e, rfl, rfl, q⟩ := t.rd1
    exact ⟨_, _, _, _, rfl, rfl, h, q⟩

def kAbs : List D → Sto → R D
  | [.int i], st => .ok (.int (if i < 0 then -i else i)) st
  | _, _ => .stuck
theorem bu_abs : BuS G M m [.rd] (.builtin "abs") kAbs := by
  refine fun X C gd => ⟨_, call_abs, fun env σ w H st ds vs Q s r0 p => ?_⟩
  obtain ⟨v, d, rfl, rfl, r⟩ := r0.rd1
  cases d with
  | int i => exact ⟨i, by rw [r.int], PostE.done p s (RepM.int _)⟩
  | _ => exact p.elim
def kMax2 : List D → Sto → R D
  | [.int i, .int j], st => .ok (.int (if j > i then j else i)) st
  | _, _ => .stuck
def kMin2 : List D → Sto → R D
  | [.int i, .int j], st => .ok (.int (if j < i then j else i)) st
  | _, _ => .stuck
theorem bu_max2 (hm : M.hot = false) : BuS G M m [.rd, .rd] (.builtin "max") kMax2 := by
  refine fun X C gd => ⟨_, call_max2 (gd.cold hm).1, fun env σ w H st ds vs Q s r0 p => ?_⟩
  obtain ⟨v, u, d, e, rfl, rfl, r1, r2⟩ := r0.rd2
  unfold kMax2 at p
  split at p
  · rename_i hh; cases hh
    exact ⟨_, _, by rw [r1.int, r2.int], p.done s (RepM.int _)⟩
  · exact p.elim
theorem bu_min2 (hm : M.hot = false) : BuS G M m [.rd, .rd] (.builtin "min") kMin2 := by
  refine fun X C gd => ⟨_, call_min2 (gd.cold hm).1, fun env σ w H st ds vs Q s r0 p => ?_⟩
  obtain ⟨v, u, d, e, rfl, rfl, r1, r2⟩ := r0.rd2
  unfold kMin2 at p
  split at p
  · rename_i hh; cases hh
    exact ⟨_, _, by rw [r1.int, r2.int], p.done s (RepM.int _)⟩
  · exact p.elim
def kInt : List D → Sto → R D
  | [.int i], st => .ok (.int i) st
  | [.bl b], st => .ok (.int (if b then 1 else 0)) st
  | [.str x], st => if x.length ≤ 640 then match PySem.intText? x with
      | some n => .ok (.int n) st
      | none => .stuck
    else .stuck
  | _, _ => .stuck
theorem bu_int : BuS G M m [.rd] (.type "int") kInt := by
  refine fun X C gd => ⟨_, call_int1.or call_int_str, fun env σ w H st ds vs Q s r0 p => ?_⟩
  obtain ⟨v, d, rfl, rfl, r⟩ := r0.rd1
  cases d with
  | int i => exact .inl (.inl ⟨i, by rw [r.int], PostE.done p s (RepM.int _)⟩)
  | bl b => exact .inl (.inr ⟨b, by rw [r.bl], PostE.done p s (RepM.int _)⟩)
  | str x =>
    have p' : PostE C m env σ w H (if x.length ≤ 640 then match PySem.intText? x with | some n => .ok (.int n) st | none => .stuck else .stuck) Q := p
    split at p'
    · cases e : PySem.intText? x with
      | none => rw [e] at p'; exact p'.elim
      | some n => rw [e] at p'; exact .inr ⟨x, n, by rw [r.str], e, by assumption, PostE.done p' s (RepM.int _)⟩
    · exact p'.elim
  | _ => exact p.elim
def kBool : List D → Sto → R D
  | [.int i], st => .ok (.bl (i != 0)) st
  | [.bl b], st => .ok (.bl b) st
  | _, _ => .stuck
theorem bu_bool : BuS G M m [.rd] (.type "bool") kBool := by
  refine fun X C gd => ⟨_, call_bool1, fun env σ w H st ds vs Q s r0 p => ?_⟩
  obtain ⟨v, d, rfl, rfl, r⟩ := r0.rd1
  cases d with
  | int i => exact .inl ⟨i, by rw [r.int], PostE.done p s (RepM.bl _)⟩
  | bl b => exact .inr ⟨b, by rw [r.bl], PostE.done p s (RepM.bl _)⟩
  | _ => exact p.elim
def kStr : List D → Sto → R D
  | [.int i], st => if i.natAbs.log2 < 1920 then .ok (.str (toString i)) st else .stuck
  | [.str x], st => .ok (.str x) st
  | _, _ => .stuck
theorem bu_str : BuS G M m [.rd] (.type "str") kStr := by
  refine fun X C gd => ⟨_, call_str_int.or SkE.call_str_str, fun env σ w H st ds vs Q s r0 p => ?_⟩
  obtain ⟨v, d, rfl, rfl, r⟩ := r0.rd1
  cases d with
  | int i =>
    have p' : PostE C m env σ w H (if i.natAbs.log2 < 1920 then .ok (.str (toString i)) st else .stuck) Q := p
    split at p'
    · exact .inl ⟨i, by rw [r.int], by assumption, PostE.done p' s (RepM.str _)⟩
    · exact p'.elim
  | str x => exact .inr ⟨x, by rw [r.str], PostE.done p s (RepM.str _)⟩
  | _ => exact p.elim
def kLen : List D → Sto → R D
  | [.lst ds], st => .ok (.int (ds.length : Nat)) st
  | [.tup ds], st => .ok (.int (ds.length : Nat)) st
  | [.str x], st => if x.length ≤ sizeLine then .ok (.int (x.length : Nat)) st else .stuck
  | [.loc n], st => match st[n]? with
    | some (.lst ds) => .ok (.int (ds.length : Nat)) st
    | _ => .stuck
  | _, _ => .stuck
theorem bu_len : BuS G M m [.rd] (.builtin "len") kLen := by
  refine fun X C gd => ⟨_, call_len_seq.or call_len_str, fun env σ w H st ds vs Q s r0 p => ?_⟩
  rw [show X.K = C.T.K from gd.K.trans (by rw [gd.T])]
  obtain ⟨v, d, rfl, rfl, r⟩ := r0.rd1
  cases d with
  | lst ds =>
    obtain ⟨a, us, rfl, e3, n, rs⟩ := r.lst
    exact .inl ⟨a, us, rfl, .inl e3.sq, by rw [rs.length]; exact PostE.done p s (RepM.int _)⟩
  | tup ds =>
    obtain ⟨a, us, rfl, e3, rs⟩ := r.tup
    exact .inl ⟨a, us, rfl, .inr e3, by rw [rs.length]; exact PostE.done p s (RepM.int _)⟩
  | str x =>
    have p' : PostE C m env σ w H (if x.length ≤ sizeLine then .ok (.int (x.length : Nat)) st else .stuck) Q := p
    split at p'
    · exact .inr ⟨x, by rw [r.str], by assumption, PostE.done p' s (RepM.int _)⟩
    · exact p'.elim
  | loc n =>
    obtain ⟨a, rfl, ea⟩ := r.loc
    have p' : PostE C m env σ w H (match st[n]? with | some (.lst ds) => .ok (.int (ds.length : Nat)) st | _ => .stuck) Q := p
    cases q : st[n]? with
    | none => rw [q] at p'; exact p'.elim
    | some c =>
      rw [q] at p'
      cases c with
      | lst ds =>
        obtain ⟨us, h1, h2⟩ := s.sto.at_ _ _ _ q ea
        exact .inl ⟨a, us, rfl, .inl (SqL.of h1), by rw [h2.length]; exact PostE.done p' s (RepM.int _)⟩
      | _ => exact p'.elim
  | _ => exact p.elim
def kList : List D → Sto → R D
  | [.lst ds], st => .ok (.lst ds) st
  | [.tup ds], st => .ok (.lst ds) st
  | [.loc n], st => match st[n]? with
    | some (.lst ds) => .ok (.lst ds) st
    | _ => .stuck
  | _, _ => .stuck
theorem bu_list : BuS G M .fr [.rd] (.type "list") kList := by
  refine fun X C gd => ⟨_, call_list_of, fun env σ w H st ds vs Q s r0 p => ?_⟩
  rw [show X.K = C.T.K from gd.K.trans (by rw [gd.T])]
  obtain ⟨v, d, rfl, rfl, r⟩ := r0.rd1
  cases d with
  | lst ds =>
    obtain ⟨a, us, rfl, e3, n, rs⟩ := r.lst
    exact ⟨a, us, rfl, .inl e3.sq, fun pp hp => PostE.lst p s rs hp⟩
  | tup ds =>
    obtain ⟨a, us, rfl, e3, rs⟩ := r.tup
    exact ⟨a, us, rfl, .inr e3, fun pp hp => PostE.lst p s rs hp⟩
  | loc n =>
    obtain ⟨a, rfl, ea⟩ := r.loc
    have p' : PostE C .fr env σ w H (match st[n]? with | some (.lst ds) => .ok (.lst ds) st | _ => .stuck) Q := p
    cases q : st[n]? with
    | none => rw [q] at p'; exact p'.elim
    | some c =>
      rw [q] at p'
      cases c with
      | lst ds =>
        obtain ⟨us, h1, h2⟩ := s.sto.at_ _ _ _ q ea
        exact ⟨a, us, rfl, .inl (SqL.of h1), fun pp hp => PostE.lst (ds := ds) p' s h2 hp⟩
      | _ => exact p'.elim
  | _ => exact p.elim
def kTuple : List D → Sto → R D
  | [.lst ds], st => .ok (.tup ds) st
  | [.tup ds], st => .ok (.tup ds) st
  | [.loc n], st => match st[n]? with
    | some (.lst ds) => .ok (.tup ds) st
    | _ => .stuck
  | _, _ => .stuck
theorem bu_tuple : BuS G M m [.rd] (.type "tuple") kTuple := by
  refine fun X C gd => ⟨_, call_tuple_of, fun env σ w H st ds vs Q s r0 p => ?_⟩
  rw [show X.K = C.T.K from gd.K.trans (by rw [gd.T])]
  obtain ⟨v, d, rfl, rfl, r⟩ := r0.rd1
  cases d with
  | lst ds =>
    obtain ⟨a, us, rfl, e3, n, rs⟩ := r.lst
    exact ⟨a, us, rfl, .inl ⟨e3.sq, fun pp hp => PostE.tup p s rs hp⟩⟩
  | tup ds =>
    obtain ⟨a, us, rfl, e3, rs⟩ := r.tup
    exact ⟨a, us, rfl, .inr ⟨e3, PostE.done p s (RepM.tup (.tup e3 rs))⟩⟩
  | loc n =>
    obtain ⟨a, rfl, ea⟩ := r.loc
    have p' : PostE C m env σ w H (match st[n]? with | some (.lst ds) => .ok (.tup ds) st | _ => .stuck) Q := p
    cases q : st[n]? with
    | none => rw [q] at p'; exact p'.elim
    | some c =>
      rw [q] at p'
      cases c with
      | lst ds =>
        obtain ⟨us, h1, h2⟩ := s.sto.at_ _ _ _ q ea
        exact ⟨a, us, rfl, .inl ⟨SqL.of h1, fun pp hp => PostE.tup (ds := ds) p' s h2 hp⟩⟩
      | _ => exact p'.elim
  | _ => exact p.elim

/-! all, any, sum, max, min of a list -/
def blsD : List D → Option (List Bool)
  | [] => some []
  | .bl b :: r => (blsD r).map (b :: ·)
  | _ => none
def intsD : List D → Option (List Int)
  | [] => some []
  | .int b :: r => (intsD r).map (b :: ·)
  | _ => none
def strsD : List D → Option (List Str)
  | [] => some []
  | .str b :: r => (strsD r).map (b :: ·)
  | _ => none
theorem blsD_v {K : PySem.W.Frag} {w : Wd} {H : Hp} : ∀ {ds : List D} {vs : List V} {bs : List Bool}, blsD ds = some bs → Reps K w H vs ds → vs = bs.map V.bl
  | _, _, _, h, .nil => by cases h; rfl
  | d :: ds, _, bs, h, .cons r t => by
    cases d with
    | bl b =>
      unfold blsD at h
      cases e : blsD ds with
      | none => rw [e] at h; cases h
      | some l => rw [e] at h; cases h; cases r; rw [blsD_v e t]; rfl
    | _ => cases h
theorem intsD_v {K : PySem.W.Frag} {w : Wd} {H : Hp} : ∀ {ds : List D} {vs : List V} {bs : List Int}, intsD ds = some bs → Reps K w H vs ds → vs = bs.map V.int
  | _, _, _, h, .nil => by cases h; rfl
  | d :: ds, _, bs, h, .cons r t => by
    cases d with
    | int b =>
      unfold intsD at h
      cases e : intsD ds with
      | none => rw [e] at h; cases h
      | some l => rw [e] at h; cases h; cases r; rw [intsD_v e t]; rfl
    | _ => cases h
theorem strsD_v {K : PySem.W.Frag} {w : Wd} {H : Hp} : ∀ {ds : List D} {vs : List V} {bs : List Str}, strsD ds = some bs → Reps K w H vs ds → vs = bs.map V.str
  | _, _, _, h, .nil => by cases h; rfl
  | d :: ds, _, bs, h, .cons r t => by
    cases d with
    | str b =>
      unfold strsD at h
      cases e : strsD ds with
      | none => rw [e] at h; cases h
      | some l => rw [e] at h; cases h; cases r; rw [strsD_v e t]; rfl
    | _ => cases h
theorem blsD_map (bs : List Bool) : blsD (bs.map D.bl) = some bs := by
  induction bs with
  | nil => rfl
  | cons b r ih => rw [List.map_cons, blsD, ih]; rfl
theorem intsD_map (bs : List Int) : intsD (bs.map D.int) = some bs := by
  induction bs with
  | nil => rfl
  | cons b r ih => rw [List.map_cons, intsD, ih]; rfl
theorem strsD_map (bs : List Str) : strsD (bs.map D.str) = some bs := by
  induction bs with
  | nil => rfl
  | cons b r ih => rw [List.map_cons, strsD, ih]; rfl
def kAll : List D → Sto → R D
  | [.lst ds], st => match blsD ds with
    | some bs => .ok (.bl (bs.all fun b => b)) st
    | none => .stuck
  | _, _ => .stuck
def kAny : List D → Sto → R D
  | [.lst ds], st => match blsD ds with
    | some bs => .ok (.bl (bs.any fun b => b)) st
    | none => .stuck
  | _, _ => .stuck
theorem bu_all (hm : M.hot = false) : BuS G M m [.rd] (.builtin "all") kAll := by
  refine fun X C gd => ⟨_, cr_all (gd.cold hm).1, fun env σ w H st ds vs Q s r0 p => ?_⟩
  rw [show X.K = C.T.K from gd.K.trans (by rw [gd.T])]
  obtain ⟨v, d, rfl, rfl, r⟩ := r0.rd1
  cases d with
  | lst ds =>
    obtain ⟨a, us, rfl, e3, n, rs⟩ := r.lst
    have p' : PostE C m env σ w H (match blsD ds with | some bs => .ok (.bl (bs.all fun b => b)) st | none => .stuck) Q := p
    cases e : blsD ds with
    | none => rw [e] at p'; exact p'.elim
    | some bs => rw [e] at p'; exact ⟨a, bs, rfl, by rw [← blsD_v e rs]; exact e3.sq, PostE.done p' s (RepM.bl _)⟩
  | _ => exact p.elim
theorem bu_any (hm : M.hot = false) : BuS G M m [.rd] (.builtin "any") kAny := by
  refine fun X C gd => ⟨_, cr_any (gd.cold hm).1, fun env σ w H st ds vs Q s r0 p => ?_⟩
  rw [show X.K = C.T.K from gd.K.trans (by rw [gd.T])]
  obtain ⟨v, d, rfl, rfl, r⟩ := r0.rd1
  cases d with
  | lst ds =>
    obtain ⟨a, us, rfl, e3, n, rs⟩ := r.lst
    have p' : PostE C m env σ w H (match blsD ds with | some bs => .ok (.bl (bs.any fun b => b)) st | none => .stuck) Q := p
    cases e : blsD ds with
    | none => rw [e] at p'; exact p'.elim
    | some bs => rw [e] at p'; exact ⟨a, bs, rfl, by rw [← blsD_v e rs]; exact e3.sq, PostE.done p' s (RepM.bl _)⟩
  | _ => exact p.elim
def kSum : List D → Sto → R D
  | [.lst ds], st => match intsD ds with
    | some bs => .ok (.int bs.sum) st
    | none => .stuck
  | _, _ => .stuck
theorem bu_sum (hm : M.hot = false) : BuS G M m [.rd] (.builtin "sum") kSum := by
  refine fun X C gd => ⟨_, cr_sum (gd.cold hm).1, fun env σ w H st ds vs Q s r0 p => ?_⟩
  rw [show X.K = C.T.K from gd.K.trans (by rw [gd.T])]
  obtain ⟨v, d, rfl, rfl, r⟩ := r0.rd1
  cases d with
  | lst ds =>
    obtain ⟨a, us, rfl, e3, n, rs⟩ := r.lst
    have p' : PostE C m env σ w H (match intsD ds with | some bs => .ok (.int bs.sum) st | none => .stuck) Q := p
    cases e : intsD ds with
    | none => rw [e] at p'; exact p'.elim
    | some bs => rw [e] at p'; exact ⟨a, bs, rfl, by rw [← intsD_v e rs]; exact e3.sq, PostE.done p' s (RepM.int _)⟩
  | _ => exact p.elim

/-! isinstance of the built-in kinds -/
def tyD (d : D) (st : Sto) : Option String := match d with
  | .non => some "NoneType" | .bl _ => some "bool" | .int _ => some "int" | .str _ => some "str" | .lst _ => some "list" | .tup _ => some "tuple"
  | .loc n => match st[n]? with
    | some (.lst _) => some "list"
    | some (.dic _ _) => some "dict"
    | _ => none
theorem tyD_v {T : Tb} {w : Wd} {H : Hp} {v : V} {d : D} {t : String} {st : Sto} (h : tyD d st = some t) (r : RepR T.K w H v d) (s : Stok T w H st) : TyX T.K H v (.type t) := by
  cases d with
  | non => cases h; rw [r.non]; exact .base .non
  | bl b => cases h; rw [r.bl]; exact .base (.bl _)
  | int b => cases h; rw [r.int]; exact .base (.int _)
  | str b => cases h; rw [r.str]; exact .base (.str _)
  | lst ds =>
    cases h
    obtain ⟨a, us, rfl, e3, n, rs⟩ := r.lst
    rcases e3 with (e3 | ⟨o, e3⟩) | ⟨its, n, e3, _⟩
    · exact .base (.lst e3)
    · exact .base (.frz e3)
    · exact .kList e3 rfl
  | tup ds =>
    cases h
    obtain ⟨a, us, rfl, e3, rs⟩ := r.tup
    rcases e3 with (e3 | ⟨o, e3⟩) | ⟨o, its, n, k1, k2, _⟩
    · exact .base (.tup e3)
    · exact .fTuple e3
    · exact .kTuple k1 k2
  | loc n =>
    obtain ⟨a, rfl, ea⟩ := r.loc
    unfold tyD at h
    simp only at h
    cases q : st[n]? with
    | none => rw [q] at h; cases h
    | some c =>
      rw [q] at h
      cases c with
      | lst ds =>
        cases h
        obtain ⟨us, h1, h2⟩ := s.at_ _ _ _ q ea
        exact .base (.lst h1)
      | dic t kvs =>
        cases h
        cases t with
        | false => obtain ⟨us, h1, h2⟩ := s.at_ _ _ _ q ea; exact .base (.dK h1)
        | true => obtain ⟨us, h1, h2⟩ := s.at_ _ _ _ q ea; exact .base (.dT h1)
      | ins c fs => cases h
def isB (a b : String) : Option Bool := if b = "int" then some (a == "int" || a == "bool") else if b = "bool" ∨ b = "str" ∨ b = "list" ∨ b = "tuple" then some (a == b) else none
theorem isB_kit {a b : String} {r : Bool} (ha : a = "NoneType" ∨ a = "bool" ∨ a = "int" ∨ a = "str" ∨ a = "list" ∨ a = "tuple" ∨ a = "dict") (h : isB a b = some r) : kitB a b = some r := by
  unfold isB at h
  split at h
  · rename_i e; subst e
    cases h
    rcases ha with rfl | rfl | rfl | rfl | rfl | rfl | rfl <;> decide +kernel
  · split at h
    · rename_i e
      cases h
      rcases ha with rfl | rfl | rfl | rfl | rfl | rfl | rfl <;> rcases e with rfl | rfl | rfl | rfl <;> decide +kernel
    · cases h
theorem tyD_in {d : D} {st : Sto} {t : String} (h : tyD d st = some t) : t = "NoneType" ∨ t = "bool" ∨ t = "int" ∨ t = "str" ∨ t = "list" ∨ t = "tuple" ∨ t = "dict" := by
  unfold tyD at h
  split at h
  any_goals (cases h; simp; done)
  split at h
  any_goals (cases h; simp; done)
  cases h
def bIsi (t : String) (f : F) : F := fun env st => (f env st).bind fun d st1 => match (tyD d st1).bind fun a => isB a t with
  | some b => .ok (.bl b) st1
  | none => .stuck
theorem sn_isi {t : String} {tx : Str} {p2 : Pos} (hg : G.sc.names.lookup ("isinstance" : Str) = some .globalImplicit) (hm : M.mg ("isinstance" : Str) = none) (hg2 : G.sc.names.lookup tx = some .globalImplicit) (hm2 : M.mg tx = none) (hv2 : bootBuiltins tx = some (.type t))
    (ha : SndE G M .rd a f) (hs : ∀ env, starEach (a :: [.Name tx p2]) env = (false, eval a env) :: starEach [.Name tx p2] env := by intro _; rfl) (hn : tx ≠ "__name__" := by decide) (hdb : (tx == ("__debug__" : Str)) = false := by decide) :
    SndE G M m (.Call (.Name "isinstance" p1) [a, .Name tx p2] [] pos) (bIsi t f) := by
  intro X C gd
  have gl : ∀ {y : Str}, G.sc.names.lookup y = some .globalImplicit → Gl X y := fun {y} z => by show X.env.scope.names.lookup _ = _; rw [gd.sc]; exact z
  refine (pe_callB call_isi (gl hg) (by rw [gd.mg]; exact hm) (by decide +kernel) (pa_cons (ha X C gd) (pa_cons (pe_bltn (v := .ty t) (gl hg2) (by rw [gd.mg]; exact hm2) hv2 rfl hn hdb) pa_nil) (hs _)) (by decide) (by decide) (hs _) (by rfl)).imp fun σ H Q ⟨w, env, st, s, p⟩ => ⟨w, env, st, s, ?_⟩
  rw [show X.K = C.T.K from gd.K.trans (by rw [gd.T])]
  refine p.bind fun d st1 w1 v1 H1 l1 s1 r1 p1 => ?_
  cases e : tyD d st1 with
  | none => rw [e] at p1; exact p1.elim
  | some t1 =>
    rw [e] at p1
    rw [Option.bind_some] at p1
    cases e2 : isB t1 t with
    | none => rw [e2] at p1; exact p1.elim
    | some bb =>
      rw [e2] at p1
      exact ⟨v1, .ty t, .type t1, .type t, bb, rfl, .ty t, tyD_v e r1 s1.sto, kit_ty (isB_kit (tyD_in e) e2), PostE.done p1 s1 (RepM.bl _)⟩

/-! is None -/
def bIsN (f : F) : F := fun env st => (f env st).bind fun d st1 => match d with
  | .non => .ok (.bl true) st1
  | _ => .ok (.bl false) st1
def bNotN (f : F) : F := fun env st => (f env st).bind fun d st1 => match d with
  | .non => .ok (.bl false) st1
  | _ => .ok (.bl true) st1
theorem RepR.isN {K : PySem.W.Frag} {w : Wd} {H : Hp} {v : V} {d : D} (r : RepR K w H v d) : decide (v = .non) = d.isNon := by
  cases d with
  | non => rw [r.non]; rfl
  | bl b => rw [r.bl]; rfl
  | int b => rw [r.int]; rfl
  | str b => rw [r.str]; rfl
  | lst ds => obtain ⟨a, us, rfl, _⟩ := r.lst; rfl
  | tup ds => obtain ⟨a, us, rfl, _⟩ := r.tup; rfl
  | loc n => obtain ⟨a, rfl, ea⟩ := r.loc; rfl
theorem isN_post {r : R D} {env : Ev} {σ : St} {w : Wd} {H : Hp} {Q : VK} (p : PostE C m env σ w H (r.bind fun d st1 => match d with | .non => .ok (.bl true) st1 | _ => .ok (.bl false) st1) Q) : PostE C .rd env σ w H r (fun x H1 => Q (.bl (decide (x = .non))) H1) :=
  p.bind fun d st1 w1 v1 H1 l1 s1 r1 p1 => by
    rw [RepR.isN r1]
    cases d <;> exact PostE.done p1 s1 (RepM.bl _)
theorem notN_post {r : R D} {env : Ev} {σ : St} {w : Wd} {H : Hp} {Q : VK} (p : PostE C m env σ w H (r.bind fun d st1 => match d with | .non => .ok (.bl false) st1 | _ => .ok (.bl true) st1) Q) : PostE C .rd env σ w H r (fun x H1 => Q (.bl (!decide (x = .non))) H1) :=
  p.bind fun d st1 w1 v1 H1 l1 s1 r1 p1 => by
    rw [RepR.isN r1]
    cases d <;> exact PostE.done p1 s1 (RepM.bl _)
theorem sn_isN {j p2} (ha : SndE G M .rd a f) : SndE G M m (.Compare a [.Is] [.Constant .none j p2] pos) (bIsN f) := fun X C gd =>
  (pe_cmp (pc_isN (ha X C gd)) (by rfl)).imp fun σ H Q ⟨w, env, st, s, p⟩ => ⟨w, env, st, s, isN_post p⟩
theorem sn_notN {j p2} (ha : SndE G M .rd a f) : SndE G M m (.Compare a [.IsNot] [.Constant .none j p2] pos) (bNotN f) := fun X C gd =>
  (pe_cmp (pc_notN (ha X C gd)) (by rfl)).imp fun σ H Q ⟨w, env, st, s, p⟩ => ⟨w, env, st, s, notN_post p⟩
theorem rBl_post {r : R D} {env : Ev} {σ : St} {w : Wd} {H : Hp} {Q : Bool → Hp → Prop} (p : PostT C env σ w H (rBl r) Q) : PostE C .rd env σ w H r (fun x H1 => ∃ c, x = .bl c ∧ Q c H1) :=
  PostT.bindE p fun d st1 w1 v1 H1 l1 s1 r1 p1 => by
    cases d with
    | bl b => exact ⟨b, RepR.bl r1, PostT.done p1 s1⟩
    | _ => exact p1.elim
theorem sn_tisN {j p2} (ha : SndE G M .rd a f) : SndT G M (.Compare a [.Is] [.Constant .none j p2] pos) (bTst (bIsN f)) := fun X C gd =>
  (pt_cmp (pc_isN (ha X C gd)) (by rfl)).imp fun σ H Q ⟨w, env, st, s, p⟩ => ⟨w, env, st, s, isN_post (m := .rd) (rBl_post p)⟩
theorem sn_tnotN {j p2} (ha : SndE G M .rd a f) : SndT G M (.Compare a [.IsNot] [.Constant .none j p2] pos) (bTst (bNotN f)) := fun X C gd =>
  (pt_cmp (pc_notN (ha X C gd)) (by rfl)).imp fun σ H Q ⟨w, env, st, s, p⟩ => ⟨w, env, st, s, notN_post (m := .rd) (rBl_post p)⟩

/-! methods of texts -/
def kSplit : D → D → Sto → R D
  | .str a, .str b, st => if (b.length == 0) = false ∧ a.length + 2 ≤ sizeLine then .ok (.lst ((Txt.split a b).map D.str)) st else .stuck
  | _, _, _ => .stuck
def kJoin : D → D → Sto → R D
  | .str a, .lst ds, st => match strsD ds with
    | some ys => if (ys.map (·.length)).sum + ys.length * a.length ≤ 16777216 then .ok (.str (Txt.join a ys)) st else .stuck
    | none => .stuck
  | .str a, .tup ds, st => match strsD ds with
    | some ys => if (ys.map (·.length)).sum + ys.length * a.length ≤ 16777216 then .ok (.str (Txt.join a ys)) st else .stuck
    | none => .stuck
  | _, _, _ => .stuck
theorem reps_strs {K : PySem.W.Frag} {w : Wd} {H : Hp} : ∀ ys : List Str, Reps K w H (ys.map V.str) (ys.map D.str)
  | [] => .nil
  | y :: ys => .cons (.str y) (reps_strs ys)
/-- o.m(e), o a text -/
def bMethS (k : D → D → Sto → R D) (f g : F) : F := fun env st => (f env st).bind fun d st1 => match d with
  | .str x => (g env st1).bind fun d2 st2 => k (.str x) d2 st2
  | _ => .stuck
theorem sn_split {p2 : Pos} (ha : SndE G M .rd a f) (hb : SndE G M .rd b g) (hs : ∀ env, starEach [b] env = [(false, eval b env)] := by intro _; rfl) (hbase : ∀ env, attributeBase a "split" env (eval a env) = eval a env := by intro _; rfl) (hline : (p2.endLine == pos.line) = true := by rfl) :
    SndE G M .fr (.Call (.Attribute a "split" p2) [b] [] pos) (bMethS kSplit f g) := by
  intro X C gd
  refine (pe_split (ha X C gd) (hb X C gd) (hs _) (hbase _) hline).imp fun σ H Q ⟨w, env, st, s, p⟩ => ⟨w, env, st, s, ?_⟩
  refine p.bind fun d st1 w1 v1 H1 l1 s1 r1 p1 => ?_
  cases d with
  | str x =>
    refine ⟨⟨x, RepR.str r1⟩, w1, env, st1, s1, PostE.bind p1 fun d2 st2 w2 v2 H2 l2 s2 r2 p2 => ?_⟩
    cases d2 with
    | str y =>
      have p' : PostE C .fr env σ w2 H2 (if (y.length == 0) = false ∧ x.length + 2 ≤ sizeLine then .ok (.lst ((Txt.split x y).map D.str)) st2 else .stuck) Q := p2
      split at p'
      · rename_i hc
        exact ⟨x, y, RepR.str r1, by rw [RepR.str r2], hc.1, hc.2, fun pp hp => p'.lst s2 (reps_strs _) hp⟩
      · exact p'.elim
    | _ => exact p2.elim
  | _ => exact p1.elim
theorem sn_join {p2 : Pos} (ha : SndE G M .rd a f) (hb : SndE G M .rd b g) (hs : ∀ env, starEach [b] env = [(false, eval b env)] := by intro _; rfl) (hbase : ∀ env, attributeBase a "join" env (eval a env) = eval a env := by intro _; rfl) (hline : (p2.endLine == pos.line) = true := by rfl) :
    SndE G M m (.Call (.Attribute a "join" p2) [b] [] pos) (bMethS kJoin f g) := by
  intro X C gd
  refine (pe_join (ha X C gd) (hb X C gd) (hs _) (hbase _) hline).imp fun σ H Q ⟨w, env, st, s, p⟩ => ⟨w, env, st, s, ?_⟩
  rw [show X.K = C.T.K from gd.K.trans (by rw [gd.T])]
  refine p.bind fun d st1 w1 v1 H1 l1 s1 r1 p1 => ?_
  cases d with
  | str x =>
    refine ⟨⟨x, RepR.str r1⟩, w1, env, st1, s1, PostE.bind p1 fun d2 st2 w2 v2 H2 l2 s2 r2 p2 => ?_⟩
    cases d2 with
    | lst ds =>
      have p' : PostE C m env σ w2 H2 (match strsD ds with | some ys => if (ys.map (·.length)).sum + ys.length * x.length ≤ 16777216 then .ok (.str (Txt.join x ys)) st2 else .stuck | none => .stuck) Q := p2
      obtain ⟨aa, us, rfl, e3, n, rs⟩ := RepR.lst r2
      cases e : strsD ds with
      | none => rw [e] at p'; exact p'.elim
      | some ys =>
        rw [e] at p'
        dsimp only at p'
        split at p'
        · exact ⟨x, aa, ys, RepR.str r1, rfl, .inl (by rw [← strsD_v e rs]; exact e3.sq), by assumption, p'.done s2 (RepM.str _)⟩
        · exact p'.elim
    | tup ds =>
      have p' : PostE C m env σ w2 H2 (match strsD ds with | some ys => if (ys.map (·.length)).sum + ys.length * x.length ≤ 16777216 then .ok (.str (Txt.join x ys)) st2 else .stuck | none => .stuck) Q := p2
      obtain ⟨aa, us, rfl, e3, rs⟩ := RepR.tup r2
      cases e : strsD ds with
      | none => rw [e] at p'; exact p'.elim
      | some ys =>
        rw [e] at p'
        dsimp only at p'
        split at p'
        · exact ⟨x, aa, ys, RepR.str r1, rfl, .inr (by rw [← strsD_v e rs]; exact e3), by assumption, p'.done s2 (RepM.str _)⟩
        · exact p'.elim
    | _ => exact p2.elim
  | _ => exact p1.elim

/-! own lists changed -/
def rExtendR (K : PySem.W.Frag) : V → List V → Hp → VK → Prop := fun x vs H Q => ∃ l b xs zs, x = .ref l ∧ vs = [.ref b] ∧ H l = some (.lst xs) ∧ LstAt K H b zs ∧ xs.length + zs.length ≤ sizeLine ∧ Q .non (upd H l (.lst (xs ++ zs)))
theorem mt_extendR {X : Cx} : MtR X "list.extend" (rExtendR X.K) := by
  intro pins s σ H x xs v us Q I rx rv h
  obtain ⟨l, b, xs, zs, rfl, rfl, hH, hB, hz, q⟩ := h
  cases rx
  obtain ⟨u, rfl, ru⟩ := rv.one
  cases ru
  obtain ⟨z, its, n, r, hl, e⟩ := I.lstM hH
  obtain ⟨z2, its2, n2, r2, hl2, e2⟩ := I.lstR hB
  have hsz : its.toArray.size + its2.toArray.size ≤ sizeLine := by rw [List.size_toArray, List.size_toArray]; omega
  have hlong : ¬ (!its.toArray.isEmpty && Builtin.List.listTooLong (its.toArray.size + its2.toArray.size)) = true := by
    rw [notLongL hsz, Bool.and_false]
    exact Bool.false_ne_true
  refine call_meets F.slot_list_extend ⟨_, e, rfl⟩ F.entry_list_extend (F.args_list_extend_2 _ _)
    (AutoSeq1.list_extend_list_list_0 l its.toArray n b its2.toArray n2 hlong (by rw [List.size_toArray]; omega) (by omega)) ⟨e, e2, ?_⟩
  refine ⟨.non, _, I.lset (its' := its ++ its2) hH e (by simp) (r.append r2) ?_, rfl, q⟩
  rw [List.length_append]
  omega
/-- x.append(e), x.extend(e), the name's own list -/
def sApp (i : Nat) (f : F) : FS := fun env st => match env[i]? with
  | some (some (.own, .lst ds)) => (f env st).out env fun d st1 => if ds.length < sizeLine then .next (env.set i (some (.own, .lst (ds ++ [d])))) st1 else .stuck
  | _ => .stuck
def sExt (i : Nat) (f : F) : FS := fun env st => match env[i]? with
  | some (some (.own, .lst ds)) => (f env st).out env fun d st1 => match d with
    | .lst es => if ds.length + es.length ≤ sizeLine then .next (env.set i (some (.own, .lst (ds ++ es)))) st1 else .stuck
    | _ => .stuck
  | _ => .stuck
theorem ss_app {p2 p3 p4 : Pos} (hN : G.N[i]? = some x) (hv : Vis G.sc x) (he : SndE G M .esc e f) (hs : ∀ env, starEach (e :: []) env = (false, eval e env) :: starEach [] env := by intro _; rfl)
    (hd : (x == ("__debug__" : Str)) = false := by decide) (hcd : (x == ("__classdict__" : Str)) = false := by decide) (hline : (p3.endLine == p4.line) = true := by rfl) :
    SndS G M (.Expr (.Call (.Attribute (.Name x p2) "append" p3) [e] [] p4) pos) (sApp i f) := by
  intro X C gd
  refine (ps_expr (pe_bm F.plainAttrs_list F.slot_list_append F.type_list_append mt_append (pe_var (i := i) (x := x) (by rw [gd.N]; exact hN) (by rw [gd.sc]; exact hv) hd hcd) (pa_cons (he X C gd) pa_nil (hs _)) rfl (by first | rfl | (simp [hs, starEach, backTo, keywordEach, backToKw])) hline (hs _) rfl) (by rfl)).imp fun E σ H ⟨w, env, st, s, p⟩ => ?_
  rw [show X.K = C.T.K from gd.K.trans (by rw [gd.T])]
  unfold sApp at p
  split at p
  · rename_i ds hi
    obtain ⟨a, vs, ds', e1, e2, e3, r, f4, f5⟩ := s.slot i _ hi
    cases e2
    refine ⟨_, join_some e1, .inl ⟨rfl, _, SqL.of e3⟩, w, env, st, s, PostS.bind p fun d st1 w1 v1 H1 l1 s1 r1 p1 => ?_⟩
    obtain ⟨a', vs1, ds1, g1, g2, g3, rr, g4, g5⟩ := s1.slot i _ hi
    cases g2
    rw [e1] at g1
    cases g1
    split at p1
    · exact ⟨a, vs1, v1, rfl, rfl, g3, by rw [rr.length]; assumption, p1 w1 σ _ (s1.chg hi e1 (rr.append (.cons r1 .nil)))⟩
    · exact p1.elim
  · exact p.elim
theorem ss_ext {p2 p3 p4 : Pos} (hN : G.N[i]? = some x) (hv : Vis G.sc x) (he : SndE G M .rd e f) (hs : ∀ env, starEach (e :: []) env = (false, eval e env) :: starEach [] env := by intro _; rfl)
    (hd : (x == ("__debug__" : Str)) = false := by decide) (hcd : (x == ("__classdict__" : Str)) = false := by decide) (hline : (p3.endLine == p4.line) = true := by rfl) :
    SndS G M (.Expr (.Call (.Attribute (.Name x p2) "extend" p3) [e] [] p4) pos) (sExt i f) := by
  intro X C gd
  refine (ps_expr (pe_bm F.plainAttrs_list F.slot_list_extend F.type_list_extend mt_extendR (pe_var (i := i) (x := x) (by rw [gd.N]; exact hN) (by rw [gd.sc]; exact hv) hd hcd) (pa_cons (he X C gd) pa_nil (hs _)) rfl (by first | rfl | (simp [hs, starEach, backTo, keywordEach, backToKw])) hline (hs _) rfl) (by rfl)).imp fun E σ H ⟨w, env, st, s, p⟩ => ?_
  rw [show X.K = C.T.K from gd.K.trans (by rw [gd.T])]
  unfold sExt at p
  split at p
  · rename_i ds hi
    obtain ⟨a, vs, ds', e1, e2, e3, r, f4, f5⟩ := s.slot i _ hi
    cases e2
    refine ⟨_, join_some e1, .inl ⟨rfl, _, SqL.of e3⟩, w, env, st, s, PostS.bind p fun d st1 w1 v1 H1 l1 s1 r1 p1 => ?_⟩
    obtain ⟨a', vs1, ds1, g1, g2, g3, rr, g4, g5⟩ := s1.slot i _ hi
    cases g2
    rw [e1] at g1
    cases g1
    split at p1
    · split at p1
      · obtain ⟨b, us, rfl, e5, n, rs⟩ := RepR.lst r1
        exact ⟨a, b, vs1, us, rfl, rfl, g3, e5, by rw [rr.length, rs.length]; assumption, p1 w1 σ _ (s1.chg hi e1 (rr.append rs))⟩
      · exact p1.elim
    · exact p1.elim
  · exact p.elim
/-- x[k] = e, the name's own list -/
def sSetIx (i : Nat) (fk fe : F) : FS := fun env st => (fe env st).out env fun d st1 => match env[i]? with
  | some (some (.own, .lst ds)) => (fk env st1).out env fun k st2 => match k with
    | .int k => match ixN ds.length k with
      | some j => .next (env.set i (some (.own, .lst (ds.set j d)))) st2
      | none => .stuck
    | _ => .stuck
  | _ => .stuck
theorem ss_setIx {k : Expr} {fk : F} {p2 p3 : Pos} (hN : G.N[i]? = some x) (hv : Vis G.sc x) (hk : SndE G M .rd k fk) (he : SndE G M .esc e f) (hd : (x == ("__debug__" : Str)) = false := by decide) (hcd : (x == ("__classdict__" : Str)) = false := by decide)
    (hs : ∀ env, swapsWithSole [.Subscript (.Name x p2) k p3] e pos.line env = pure false := by intro _; rfl) (hw : ∀ env, swappedStores [.Subscript (.Name x p2) k p3] e env = pure none := by intro _; rfl)
    (h1 : ∀ env, (assignEach [.Subscript (.Name x p2) k p3] env).map (·.2) = [assign (.Subscript (.Name x p2) k p3) env] := by intro _; rfl)
    (ha : ∀ env v, assign (.Subscript (.Name x p2) k p3) env v = (do
      let ov ← holding [v] (eval (.Name x p2) env)
      let iv ← holding [v, ov] (eval k env)
      standAt p3
      holding [v, ov, iv] (setItem ov iv v)
      release [v, ov, iv] []) := by intro _ _; rfl) :
    SndS G M (.Assign [.Subscript (.Name x p2) k p3] e pos) (sSetIx i fk f) := by
  intro X C gd
  refine (ps_asg (he X C gd) (pg_sub (pe_var (i := i) (x := x) (by rw [gd.N]; exact hN) (by rw [gd.sc]; exact hv) hd hcd) (hk X C gd) set_list (ha _)) (hs _) (hw _) (h1 _)).imp fun E σ H ⟨w, env, st, s, p⟩ => ⟨w, env, st, s, ?_⟩
  refine PostS.bind p fun d st1 w1 v1 H1 l1 s1 r1 p1 => ?_
  split at p1
  · rename_i ds hi
    obtain ⟨a, vs, ds', e1, e2, e3, r, f4, f5⟩ := s1.slot i _ hi
    cases e2
    refine ⟨_, join_some e1, w1, env, st1, s1, PostS.bind p1 fun d2 st2 w2 v2 H2 l2 s2 r2 p2 => ?_⟩
    obtain ⟨a', vs1, ds1, g1, g2, g3, rr, g4, g5⟩ := s2.slot i _ hi
    cases g2
    rw [e1] at g1
    cases g1
    cases d2 with
    | int kk =>
      have p' : PostS C E (match ixN ds.length kk with | some j => .next (env.set i (some (.own, .lst (ds.set j d)))) st2 | none => .stuck) := p2
      cases e : ixN ds.length kk with
      | none => rw [e] at p'; exact p'.elim
      | some j =>
        rw [e] at p'
        exact ⟨a, vs1, kk, j, rfl, RepR.int r2, g3, by rw [rr.length]; exact e, p' w2 σ _ (s2.chg hi e1 (rr.set (Rep.to (l2.ok2 s1.sto) _ _ r1) j))⟩
    | _ => exact p2.elim
  · exact p1.elim
end
end NC

/-! ### comprehensions, calls of the text's own defs -/
namespace NC
open PySem L2
theorem takesN {X : Cx} : L2N.Takes X (fun _ _ _ _ => False) := fun u s' ⟨_, _, _, _, _, _, _, _, _, _, _, _, _, _, _, _, z⟩ => z.elim

def R.nox {α : Type} : R α → R α
  | .exc _ _ => .stuck
  | r => r
def compL (t : Tg) (c : FB) (f : F) : List D → Ev → Sto → R (List D)
  | [], _, st => .ok [] st
  | d :: ds, env, st => match t d env with
    | none => .stuck
    | some env1 => (c env1 st).nox.bind fun b st1 => if b = true then (f env1 st1).nox.bind fun x st2 => (compL t c f ds env st2).bind fun xs st3 => .ok (x :: xs) st3 else compL t c f ds env st1
def wipeE (env : Ev) : List Nat → Ev
  | [] => env
  | i :: is => (wipeE env is).set i none
def bComp (own : List Nat) (fi : FL) (t : Tg) (c : FB) (f : F) : F := fun env st => match fi env st with
  | .ok ds st1 => (compL t c f ds (wipeE env own) st1).bind fun xs st2 => .ok (.lst xs) st2
  | .exc x st1 => .exc x st1
  | .stuck => .stuck
def SndTs (G : Ct) (M : Mo) (ifs : List Expr) (f : FB) : Prop := ∀ X C, Gd G M X C → PTs X ifs (tT C f)
def cYes : FB := fun _ st => .ok true st
theorem _root_.L2.PTs.imp {X : Cx} {e : List Expr} {t t' : TT} (h : PTs X e t) (k : ∀ σ H Q, t' σ H Q → t σ H Q) : PTs X e t' := ⟨fun pins s σ H Q I q => h.run pins s σ H Q I (k _ _ _ q)⟩
section
variable {G : Ct} {M : Mo} {m : Md} {X : Cx} {C : Cf} {a b c e tg : Expr} {es : List Expr} {f g h : F} {fb : FB} {fi fl : FL} {pos : Pos} {i : Nat} {x : Str} {t : Tg}
theorem st_nil : SndTs G M [] cYes := fun X C gd => pts_nil.imp fun σ H Q ⟨w, env, st, s, p⟩ => PostT.done p s
theorem st_one (h : SndT G M e fb) : SndTs G M [e] fb := fun X C gd => pts_one (h X C gd)

theorem wipeE_len (env : Ev) : ∀ is, (wipeE env is).length = env.length
  | [] => rfl
  | i :: is => by unfold wipeE; rw [List.length_set, wipeE_len env is]
theorem wipe_eq {σ σ' : St} (hl : σ.length = σ'.length) : ∀ {vs : List Nat}, (∀ j, j ∉ vs → σ'[j]? = σ[j]?) → wipe σ' vs = wipe σ vs := by
  intro vs h
  apply List.ext_getElem?
  intro j
  have key : ∀ (τ : St) (vs : List Nat), (wipe τ vs)[j]? = if j ∈ vs ∧ j < τ.length then some none else τ[j]? := by
    intro τ vs
    induction vs with
    | nil => simp [wipe]
    | cons v vs ih =>
      unfold wipe
      rw [List.getElem?_set, wipe_length]
      by_cases hv : v = j
      · subst hv
        by_cases hj : v < τ.length
        · simp [hj]
        · simp [hj]
      · have hv' : ¬ j = v := fun z => hv z.symm
        rw [if_neg hv, ih]
        simp [hv']
  rw [key, key]
  by_cases hj : j ∈ vs
  · by_cases hl2 : j < σ.length
    · rw [if_pos ⟨hj, hl ▸ hl2⟩, if_pos ⟨hj, hl2⟩]
    · rw [if_neg (fun z => hl2 (by rw [hl]; exact z.2)), if_neg (fun z => hl2 z.2), List.getElem?_eq_none (by omega), List.getElem?_eq_none (by omega)]
  · rw [if_neg (fun z => hj z.1), if_neg (fun z => hj z.1), h j hj]
theorem wipeE_get {env : Ev} {j : Nat} {s : Fl × D} : ∀ {is : List Nat}, (wipeE env is)[j]? = some (some s) → env[j]? = some (some s) ∧ j ∉ is
  | [], h => ⟨h, by simp⟩
  | i :: is, h => by
    unfold wipeE at h
    rcases get_set h with ⟨h1, h2⟩ | ⟨h1, h2⟩
    · cases h2
    · obtain ⟨q1, q2⟩ := wipeE_get h2
      exact ⟨q1, by simp only [List.mem_cons, not_or]; exact ⟨h1, q2⟩⟩
theorem wipe_keep {σ : St} {j : Nat} : ∀ {is : List Nat}, j ∉ is → (wipe σ is)[j]? = σ[j]?
  | [], _ => rfl
  | i :: is, h => by
    simp only [List.mem_cons, not_or] at h
    unfold wipe
    rw [List.getElem?_set_ne (Ne.symm h.1), wipe_keep h.2]
theorem Sim.wipe {T : Tb} {B : Bs} {w : Wd} {env : Ev} {st : Sto} {σ : St} {H : Hp} (s : Sim T B w env st σ H) (is : List Nat) : Sim T B w (wipeE env is) st (L2.wipe σ is) H := by
  refine ⟨by rw [wipeE_len, wipe_length]; exact s.len, fun j sl e => ?_, fun j k d e b h1 h2 h3 h4 => ?_, s.sto, s.al, s.le, s.sub, s.bal, s.pin⟩
  · cases sl with
    | none => trivial
    | some sl =>
      obtain ⟨e1, e2⟩ := wipeE_get e
      rw [wipe_keep e2]
      exact s.slot j _ e1
  · obtain ⟨e1, e2⟩ := wipeE_get h1
    obtain ⟨f1, f2⟩ := wipeE_get h2
    rw [wipe_keep e2] at h3
    rw [wipe_keep f2] at h4
    exact s.dist j k d e b e1 f1 h3 h4

/-- a list under way is one longer -/
theorem Sim.grow {T : Tb} {B : Bs} {w : Wd} {env : Ev} {st : Sto} {σ : St} {H : Hp} {p : Addr} {xs ys : List V} (s : Sim T B w env st σ H) (hp : H p = some (.lst xs)) (hS : w.S p) (hB : B.H p = none) (hn : ∀ (j : Nat) (d : D), env[j]? = some (some (.own, d)) → (σ[j]?).join ≠ some (.ref p)) :
    Sim T B w env st σ (upd H p (.lst ys)) := by
  have nr := (s.al p hS).2
  have ok : Ok2 w H w (upd H p (.lst ys)) := by
    refine ⟨fun _ _ e => e, fun b o e im => ?_, fun b o e n1 n2 => ⟨?_, n1, n2⟩⟩
    · rw [upd_ne (fun z => by subst z; rw [hp] at e; cases e; exact im)]; exact e
    · rw [upd_ne (fun (z : b = p) => n1 (by rw [z]; exact hS))]; exact e
  have nB : ∀ b, B.H b ≠ none → b ≠ p := fun b hb z => hb (z ▸ hB)
  refine ⟨s.len, fun j sl ej => ?_, s.dist, s.sto.to ok (fun b hb => by rw [upd_ne (fun (z : b = p) => nr (by rw [← z]; exact hb))]) rfl, fun b z => ⟨?_, (s.al b z).2⟩, ⟨s.le.pre, fun b o e n => ?_, fun b o e => ?_, s.le.new, s.le.S, s.le.Sm⟩, s.sub, s.bal, fun q hq => (s.pin q hq).to ok fun c u z3 z4 z5 => ⟨by rw [upd_ne (nB c z5)]; exact z3, z4⟩⟩
  · match sl, ej, s.slot j sl ej with
    | none, _, _ => trivial
    | some (.frz, d), _, ⟨v, g1, g2⟩ => exact ⟨v, g1, Rep.to ok _ _ g2⟩
    | some (.own, d), z2, ⟨b, us, es, g1, g2, g3, rr, g4, g5⟩ =>
      refine ⟨b, us, es, g1, g2, ?_, Reps.to ok _ _ rr, g4, g5⟩
      rw [upd_ne (fun z => hn j d z2 (by rw [g1, z]))]
      exact g3
    | some (.bor, d), _, ⟨b, us, es, g1, g2, rr, g4⟩ =>
      exact ⟨b, us, es, g1, g2, Reps.to ok _ _ rr, g4.to fun c u z3 z4 z5 => ⟨by rw [upd_ne (nB c z5)]; exact z3, z4⟩⟩
    | some (.exc, d), _, ⟨b, c, cls, dd, f, v0, ee, g1, g2, g3, g4, g5, g6, rx⟩ => exact ⟨b, c, cls, dd, f, v0, ee, g1, g2, g3, by rw [upd_ne (fun (z : dd = p) => g5 (by rw [z]; exact hS))]; exact g4, g5, g6, Rep.to ok _ _ rx⟩
  · by_cases hb : b = p
    · subst hb; rw [upd_same]; intro z; cases z
    · rw [upd_ne hb]; exact (s.al b z).1
  · rw [upd_ne (nB b (by rw [e]; intro z; cases z))]; exact s.le.fr b o e n
  · obtain ⟨o', e'⟩ := s.le.live b o e
    exact ⟨o', by rw [upd_ne (nB b (by rw [e]; intro z; cases z))]; exact e'⟩

/-- the names of the block -/
def Ct.blk (G : Ct) (scope : Scope) : Ct := ⟨G.N, relS scope G.sc, some scope⟩
theorem Gd.blk (gd : Gd G M X C) (s : Shared) (H : Hp) (scope : Scope) (Ce : Addr) (cl : List (Str × Addr)) (fp : List Addr) (B : Bs) (hm : M.hot = false) (hB : B.ex = none) : Gd (G.blk scope) M (X.blk s H scope (compEnvC scope cl Ce X.env) fp) ⟨C.T, B, fun _ _ _ _ => False⟩ :=
  ⟨gd.p, gd.w, gd.K, gd.T, gd.mg, gd.base, gd.N, (by show relS scope X.env.scope = relS scope G.sc; rw [gd.sc]), gd.nd, (fun h => ⟨(gd.cold h).1, (gd.cold h).2.1, hB⟩), (fun h => by cases h), (fun h => absurd (hm.symm.trans h) (by decide)), (fun a c cls dd e => absurd (hB.symm.trans e) (by intro z; cases z)), rfl, PassesOwn.never, takesN⟩
theorem nox_post {C C' : Cf} {m : Md} {env : Ev} {σ : St} {w : Wd} {H : Hp} {r : R D} {Q : VK} (h : PostE C m env σ w H r.nox Q) : ∃ d st, r = .ok d st := by
  cases r with
  | ok d st => exact ⟨d, st, rfl⟩
  | exc x st => exact h.elim
  | stuck => exact h.elim

/-- what a comprehension walks: its own frame's lists, too -/
def ItOkC (C : Cf) (pin : List (V × D)) (J : It) (ds : List D) (env0 : Ev) (σ0 : St) : Prop :=
  ∀ (B' : Bs), B'.w = C.B.w → B'.H = C.B.H → (∀ p ∈ pin, p ∈ B'.pin) → ∀ w st H, Sim C.T B' w env0 st σ0 H → ∀ i : Nat,
    (∀ d, ds[i]? = some d → J.go i H ∧ ∀ x H', J.yld i H x H' → ∃ w', Le w H w' H' ∧ Sim C.T B' w' env0 st σ0 H' ∧ Rep C.T.K w' H' x d) ∧ (ds.length ≤ i → J.stop i H)
def PostIC (C : Cf) (own : List Nat) (env : Ev) (σ : St) (w : Wd) (H : Hp) (r : R (List D)) (Q : It → Hp → Prop) : Prop := match r with
  | .ok ds st' => ∀ w' H' J pin, Le w H w' H' → Sim C.T C.B w' env st' σ H' → (∀ p ∈ pin, PinOk C.T.K C.B w' H' p) → ItOkC C pin J ds (wipeE env own) (L2.wipe σ own) → ds.length ≤ sizeLine → Q J H'
  | .exc x st' => ∀ w' H' c dx, Le w H w' H' → Sim C.T C.B w' env st' σ H' → XRep C.T w' H' x c dx → C.W c dx σ H'
  | .stuck => False
def tIC (C : Cf) (own : List Nat) (f : FL) : TI := fun σ H Q => ∃ w env st, Sim C.T C.B w env st σ H ∧ PostIC C own env σ w H (f env st) Q
def SndIc (G : Ct) (M : Mo) (own : List Nat) (tg e : Expr) (f : FL) : Prop := ∀ X C, Gd G M X C → PI X tg e (tIC C own f)
theorem SndI.toC {own : List Nat} (h : SndI G M tg e fi) : SndIc G M own tg e fi := fun X C gd => (h X C gd).imp fun σ H Q ⟨w, env, st, s, p⟩ => ⟨w, env, st, s, by
  cases q : fi env st with
  | ok ds st' => rw [q] at p; exact fun w' H' J pin l s' hp hJ hz => p w' H' J pin l s' hp (fun B' e1 e2 h3 w st H s i => hJ B' e1 e2 h3 w _ st _ H s i) hz
  | exc x st' => rw [q] at p; exact p
  | stuck => rw [q] at p; exact p⟩
def iVarC (i : Nat) : FL := fun env st => match env[i]? with
  | some (some (.exc, _)) => .stuck
  | some (some (_, .lst ds)) => .ok ds st
  | some (some (_, .tup ds)) => .ok ds st
  | some (some (.frz, .str z)) => if z.length ≤ sizeLine then .ok (chrs z) st else .stuck
  | _ => .stuck
theorem wipeE_keep {env : Ev} {j : Nat} : ∀ {is : List Nat}, j ∉ is → (wipeE env is)[j]? = env[j]?
  | [], _ => rfl
  | i :: is, h => by
    simp only [List.mem_cons, not_or] at h
    unfold wipeE
    rw [List.getElem?_set_ne (Ne.symm h.1), wipeE_keep h.2]
theorem slot_lst {K : PySem.W.Frag} {B : Bs} {w : Wd} {H : Hp} {o : Option V} {fl : Fl} {ds : List D} (h : SlotOk K B w H o (some (fl, .lst ds))) : ∃ a vs, o = some (.ref a) ∧ LstAt K H a vs ∧ Reps K w H vs ds := by
  cases fl with
  | frz =>
    obtain ⟨v, e1, r⟩ := h
    obtain ⟨aa, vs, rfl, h1, _, h4⟩ := RepR.lst (.inl r)
    exact ⟨aa, vs, e1, h1, h4⟩
  | own => obtain ⟨a, vs, ds', e1, e2, e3, r, _⟩ := h; cases e2; exact ⟨a, vs, e1, .inl (.inl e3), r⟩
  | bor => obtain ⟨a, vs, ds', e1, e2, r, b⟩ := h; cases e2; exact ⟨a, vs, e1, b.at_, r⟩
  | exc => obtain ⟨a, c, cls, dd, f, v0, e, e1, e2, e3, _⟩ := h; cases e3
theorem slot_tup {K : PySem.W.Frag} {B : Bs} {w : Wd} {H : Hp} {o : Option V} {fl : Fl} {ds : List D} (hx : fl ≠ .exc) (h : SlotOk K B w H o (some (fl, .tup ds))) : ∃ a vs, o = some (.ref a) ∧ SqT K H a vs ∧ Reps K w H vs ds := by
  cases fl with
  | frz =>
    obtain ⟨v, e1, r⟩ := h
    obtain ⟨aa, vs, rfl, h1, h4⟩ := RepR.tup (.inl r)
    exact ⟨aa, vs, e1, h1, h4⟩
  | own => obtain ⟨a, vs, ds', e1, e2, e3, r, _⟩ := h; cases e2
  | bor => obtain ⟨a, vs, ds', e1, e2, r, b⟩ := h; cases e2
  | exc => exact absurd rfl hx
theorem sic_var {own : List Nat} (hN : G.N[i]? = some x) (hv : Vis G.sc x) (ho : i ∉ own) (hd : (x == ("__debug__" : Str)) = false := by decide) (hcd : (x == ("__classdict__" : Str)) = false := by decide) : SndIc G M own tg (.Name x pos) (iVarC i) := by
  intro X C gd
  have pv := pe_var (X := X) (pos := pos) (i := i) (x := x) (by rw [gd.N]; exact hN) (by rw [gd.sc]; exact hv) hd hcd
  refine ((pi_listB pv).or ((pi_tupB pv).or (pi_str pv))).imp fun σ H Q ⟨w, env, st, s, p⟩ => ?_
  rw [show X.K = C.T.K from gd.K.trans (by rw [gd.T])]
  unfold iVarC at p
  split at p
  · exact p.elim
  · rename_i fl ds hi
    obtain ⟨a, vs, e1, h1, h4⟩ := slot_lst (s.slot i _ hi)
    refine .inl ⟨_, join_some e1, _, rfl, _, h1.sq, fun hz => p w H _ [] (.refl _ _) s (fun q hq => by cases hq) ?_ (by rw [← h4.length]; exact hz)⟩
    intro B' _ _ _ w2 st2 H2 s2 j
    obtain ⟨a', us, g1, k1, k4⟩ := slot_lst (s2.slot i _ (by rw [wipeE_keep ho]; exact hi))
    rw [wipe_keep ho, e1] at g1
    cases g1
    refine ⟨fun d hd => ?_, fun hi => ⟨_, k1.sq, by rw [k4.length]; exact hi⟩⟩
    obtain ⟨v, hv, rv⟩ := k4.get hd
    refine ⟨⟨_, v, k1.sq, hv⟩, fun x H' hy => ?_⟩
    obtain ⟨rfl, hy⟩ := hy
    have := hy _ k1.sq
    rw [hv] at this
    cases this
    exact ⟨w2, .refl _ _, s2, rv⟩
  · rename_i fl ds hx hi
    obtain ⟨a, vs, e1, h1, h4⟩ := slot_tup hx (s.slot i _ hi)
    refine .inr (.inl ⟨_, join_some e1, _, rfl, _, h1, fun hz => p w H _ [] (.refl _ _) s (fun q hq => by cases hq) ?_ (by rw [← h4.length]; exact hz)⟩)
    intro B' _ _ _ w2 st2 H2 s2 j
    obtain ⟨a', us, g1, k1, k4⟩ := slot_tup hx (s2.slot i _ (by rw [wipeE_keep ho]; exact hi))
    rw [wipe_keep ho, e1] at g1
    cases g1
    refine ⟨fun d hd => ?_, fun hi => ⟨_, k1, by rw [k4.length]; exact hi⟩⟩
    obtain ⟨v, hv, rv⟩ := k4.get hd
    refine ⟨⟨_, v, k1, hv⟩, fun x H' hy => ?_⟩
    obtain ⟨rfl, hy⟩ := hy
    have := hy _ k1
    rw [hv] at this
    cases this
    exact ⟨w2, .refl _ _, s2, rv⟩
  · rename_i z hi
    obtain ⟨v, e1, r⟩ := s.slot i _ hi
    split at p
    · exact .inr (.inr ⟨_, join_some e1, z, RepR.str (.inl r), p w H _ [] (.refl _ _) s (fun q hq => by cases hq) (fun B' e1 e2 h3 w st H s i => str_it (C := C) B' e1 e2 h3 w _ st _ H s i) (by rw [chrs_len]; assumption)⟩)
    · exact p.elim
  · exact p.elim

theorem sn_comp {elt iter : Expr} {ifs : List Expr} {scope : Scope} {own : List (Str × Nat)} {is : List Nat} (hm : M.hot = false) (hi : SndIc G M (own.map (·.2)) tg iter fi) (ok : blkC G.N G.sc scope own = true)
    (hg : SndG (G.blk scope) M tg is t) (ht : SndTs (G.blk scope) M ifs fb) (he : SndE (G.blk scope) M .esc elt f) (hsub : ∀ j ∈ is, j ∈ own.map (·.2)) (hs : ∀ env x, foldedSetIterable iter env x = pure x := by intro _ _; rfl) :
    SndE G M .fr (.ListComp elt [⟨tg, iter, ifs, 0⟩] scope pos) (bComp (own.map (·.2)) fi t fb f) ∧
    ∀ {i : Nat} {y : Str} {py spos : Pos}, G.N[i]? = some y → G.sc.names.lookup y = some .local → G.sc.kind = .function → TgOk G y → (py.line == pos.line) = true → (scope.names.any fun (n, k) => n == y && (k == .local || k == .cell)) = false →
      SndS G M (.Assign [.Name y py] (.ListComp elt [⟨tg, iter, ifs, 0⟩] scope pos) spos) (sSet i (bComp (own.map (·.2)) fi t fb f)) := by
  -- what both share
  have core : ∀ X C, Gd G M X C → ∃ (wi : TI) (g : TG) (tt : TT) (te : TE), PI X tg iter wi ∧
      (∀ (s : Shared) (H : Hp) (C : Addr) (cl : List (Str × Addr)) (fp : List Addr), PG (X.blk s H scope (compEnvC scope cl C X.env) fp) tg g) ∧
      (∀ (s : Shared) (H : Hp) (C : Addr) (cl : List (Str × Addr)) (fp : List Addr), PTs (X.blk s H scope (compEnvC scope cl C X.env) fp) ifs tt) ∧
      (∀ (s : Shared) (H : Hp) (C : Addr) (cl : List (Str × Addr)) (fp : List Addr), PE (X.blk s H scope (compEnvC scope cl C X.env) fp) elt te) ∧
      ∀ σ H Q, tE C .fr (bComp (own.map (·.2)) fi t fb f) σ H Q → tLc wi g tt te (own.map (·.2)) σ H Q := by
    intro X C gd
    let Cb : Bs → Cf := fun B => ⟨C.T, B, fun _ _ _ _ => False⟩
    refine ⟨tIC C (own.map (·.2)) fi, fun v σ H Q => ∃ B, B.ex = none ∧ tG (Cb B) is t v σ H Q, fun σ H Q => ∃ B, B.ex = none ∧ tT (Cb B) fb σ H Q, fun σ H Q => ∃ B, B.ex = none ∧ tE (Cb B) .esc f σ H Q, hi X C gd, fun s H Ce cl fp => ?_, fun s H Ce cl fp => ?_, fun s H Ce cl fp => ?_, ?_⟩
    · exact ⟨fun pins s' σ H v u Q I r ⟨B, hB, q⟩ => (hg _ (Cb B) (gd.blk s _ scope Ce cl fp B hm hB)).run pins s' σ H v u Q I r q⟩
    · exact ⟨fun pins s' σ H Q I ⟨B, hB, q⟩ => (ht _ (Cb B) (gd.blk s _ scope Ce cl fp B hm hB)).run pins s' σ H Q I q⟩
    · exact ⟨fun pins s' σ H Q I ⟨B, hB, q⟩ => (he _ (Cb B) (gd.blk s _ scope Ce cl fp B hm hB)).run pins s' σ H Q I q⟩
    · rintro σ H Q ⟨w, env, st, s, p⟩
      refine ⟨w, env, st, s, ?_⟩
      unfold bComp at p
      cases e1 : fi env st with
      | stuck => rw [e1] at p; exact p.elim
      | exc x st' => rw [e1] at p; exact p
      | ok ds st1 =>
        rw [e1] at p
        dsimp only at p
        intro w1 H1 J pin l1 s1 hpin hJ hz Dp hD
        have p1 := PostE.le p l1
        let B' : Bs := ⟨C.B.w, C.B.H, pin ++ C.B.pin, C.B.ex⟩
        have hBx : B'.ex = none := (gd.cold hm).2.2
        have l0 : Le w1 H1 (w1.add Dp) (upd H1 Dp (.lst [])) := (Le.push hD).add hD
        have BD : C.B.H Dp = none := s1.le.back hD
        have s1' : Sim C.T B' w1 env st1 σ H1 := s1.topin rfl rfl rfl fun q hq => (List.mem_append.mp hq).elim (hpin q) (s1.pin q)
        have s2 : Sim C.T B' (w1.add Dp) (wipeE env (own.map (·.2))) st1 (L2.wipe σ (own.map (·.2))) (upd H1 Dp (.lst [])) := (s1'.wipe _).pushO hD
        have noslot : ∀ (j : Nat) (d : D), (wipeE env (own.map (·.2)))[j]? = some (some (.own, d)) → ((L2.wipe σ (own.map (·.2)))[j]?).join ≠ some (.ref Dp) := fun j d hj hq => by
          obtain ⟨a', vs', ds', g1, g2, g3, _⟩ := (s1'.wipe (own.map (·.2))).slot j _ hj
          rw [g1] at hq
          cases hq
          rw [hD] at g3
          cases g3
        refine ⟨fun i m H2 => m = ds.length - i ∧ i ≤ ds.length ∧ ∃ w2 st2 acc xs, Le w1 H1 w2 H2 ∧ Sim C.T B' w2 (wipeE env (own.map (·.2))) st2 (L2.wipe σ (own.map (·.2))) H2 ∧ H2 Dp = some (.lst acc) ∧ w2.S Dp ∧ Reps C.T.K w2 H2 acc xs ∧ acc.length ≤ i ∧
            PostE C .fr env σ w1 H1 ((compL t fb f (ds.drop i) (wipeE env (own.map (·.2))) st2).bind fun ys st3 => .ok (.lst (xs ++ ys)) st3) Q,
          ⟨ds.length, rfl, Nat.zero_le _, w1.add Dp, st1, [], [], l0, s2, upd_same, .inr rfl, .nil, Nat.le_refl _, p1⟩, ?_⟩
        rintro i m H2 ⟨rfl, hi', w2, st2, acc, xs, l2, s2, hacc, hS, rx, hl, p2⟩
        obtain ⟨j1, j2⟩ := hJ B' rfl rfl (fun q hq => List.mem_append_left _ hq) w2 st2 H2 s2 i
        by_cases hlt : i < ds.length
        · have hd : ds[i]? = some ds[i] := List.getElem?_eq_getElem hlt
          obtain ⟨g1, g2⟩ := j1 _ hd
          rw [List.drop_eq_getElem_cons hlt] at p2
          refine .inr ⟨g1, fun H' => ∃ w2 st2 acc xs, Le w1 H1 w2 H' ∧ Sim C.T B' w2 (wipeE env (own.map (·.2))) st2 (L2.wipe σ (own.map (·.2))) H' ∧ H' Dp = some (.lst acc) ∧ w2.S Dp ∧ Reps C.T.K w2 H' acc xs ∧ acc.length ≤ i + 1 ∧
            PostE C .fr env σ w1 H1 ((compL t fb f (ds.drop (i + 1)) (wipeE env (own.map (·.2))) st2).bind fun ys st3 => .ok (.lst (xs ++ ys)) st3) Q, fun H' hN => ⟨ds.length - (i + 1), by omega, rfl, hlt, hN⟩, fun x H' hy => ?_⟩
          obtain ⟨w3, l3, s3, r3⟩ := g2 x H' hy
          refine ⟨B', hBx, w3, _, st2, ds[i], s3, r3, ?_⟩
          unfold compL at p2
          cases q : t ds[i] (wipeE env (own.map (·.2))) with
          | none => rw [q] at p2; exact p2.elim
          | some env3 =>
            rw [q] at p2
            dsimp only at p2
            intro σ4 s4 hk
            have hwipe : L2.wipe σ4 (own.map (·.2)) = L2.wipe σ (own.map (·.2)) := by
              exact (wipe_eq (σ := L2.wipe σ (own.map (·.2))) (σ' := σ4) hk.1.symm fun j hj => hk.2 j fun z => hj (hsub j z)).trans (wipe_eq (wipe_length _ _).symm fun j hj => wipe_keep hj)
            refine ⟨hwipe, B', hBx, w3, env3, st2, s4, ?_⟩
            have hacc3 : x = x := rfl
            cases q2 : fb env3 st2 with
            | stuck => rw [q2] at p2; exact p2.elim
            | exc x st' => rw [q2] at p2; exact p2.elim
            | ok bb st3 =>
              rw [q2] at p2
              intro w5 H5 l5 s5
              -- the world behind the test, for the wiped frame
              have lA : Le w2 H2 w5 H5 := l3.trans l5
              have sA : Sim C.T B' w5 (wipeE env (own.map (·.2))) st3 (L2.wipe σ (own.map (·.2))) H5 := s2.go lA lA.Sm s5.sto s5.al
              have haccA : H5 Dp = some (.lst acc) := lA.fr _ _ hacc (s2.al _ hS).2
              have rxA : Reps C.T.K w5 H5 acc xs := Reps.to (lA.ok2 s2.sto) _ _ rx
              cases bb with
              | false =>
                rw [if_neg Bool.false_ne_true]
                exact ⟨w5, st3, acc, xs, l2.trans lA, sA, haccA, lA.Sm _ hS, rxA, by omega, p2⟩
              | true =>
                rw [if_pos rfl]
                refine ⟨B', hBx, w5, env3, st3, s5, ?_⟩
                have p3 : PostE C .fr env σ w1 H1 (((f env3 st3).nox.bind fun x st2 => (compL t fb f (ds.drop (i + 1)) (wipeE env (own.map (·.2))) st2).bind fun xs st3 => .ok (x :: xs) st3).bind fun ys st3 => .ok (.lst (xs ++ ys)) st3) Q := p2
                cases q3 : f env3 st3 with
                | stuck => rw [q3] at p3; exact p3.elim
                | exc x st' => rw [q3] at p3; exact p3.elim
                | ok dd st4 =>
                  rw [q3] at p3
                  intro w6 y H6 l6 s6 r6
                  have lB : Le w2 H2 w6 H6 := lA.trans l6
                  have haccB : H6 Dp = some (.lst acc) := lB.fr _ _ hacc (s2.al _ hS).2
                  have sB : Sim C.T B' w6 (wipeE env (own.map (·.2))) st4 (L2.wipe σ (own.map (·.2))) H6 := s2.go lB lB.Sm s6.sto s6.al
                  refine ⟨acc, haccB, by omega, ?_⟩
                  have hS6 : w6.S Dp := lB.Sm _ hS
                  have okg : Ok2 w6 H6 w6 (upd H6 Dp (.lst (acc ++ [y]))) := by
                    refine ⟨fun _ _ e => e, fun b o e im => ?_, fun b o e n1 n2 => ⟨?_, n1, n2⟩⟩
                    · rw [upd_ne (fun z => by subst z; rw [haccB] at e; cases e; exact im)]; exact e
                    · rw [upd_ne (fun (z : b = Dp) => n1 (by rw [z]; exact hS6))]; exact e
                  have lC : Le w1 H1 w6 (upd H6 Dp (.lst (acc ++ [y]))) := by
                    have l7 : Le w1 H1 w6 H6 := l2.trans lB
                    refine ⟨l7.pre, fun b o e n => ?_, fun b o e => ?_, l7.new, l7.S, l7.Sm⟩
                    · rw [upd_ne (ne_of_none e hD)]; exact l7.fr b o e n
                    · rw [upd_ne (ne_of_none e hD)]; exact l7.live b o e
                  refine ⟨w6, st4, acc ++ [y], xs ++ [dd], lC, sB.grow haccB hS6 BD noslot, upd_same, hS6, Reps.to okg _ _ ((Reps.to (lB.ok2 s2.sto) _ _ rx).append (.cons r6 .nil)), by rw [List.length_append, List.length_singleton]; omega, ?_⟩
                  change PostE C .fr env σ w1 H1 (((compL t fb f (ds.drop (i + 1)) (wipeE env (own.map (·.2))) st4).bind fun xs st3 => .ok (dd :: xs) st3).bind fun ys st3 => .ok (.lst (xs ++ ys)) st3) Q at p3
                  cases q4 : compL t fb f (ds.drop (i + 1)) (wipeE env (own.map (·.2))) st4 with
                  | stuck => rw [q4] at p3; exact p3
                  | exc x st' => rw [q4] at p3; exact p3
                  | ok zs st5 =>
                    rw [q4] at p3
                    have p4 : PostE C .fr env σ w1 H1 (.ok (.lst (xs ++ dd :: zs)) st5) Q := p3
                    show PostE C .fr env σ w1 H1 (.ok (.lst ((xs ++ [dd]) ++ zs)) st5) Q
                    rw [List.append_assoc]
                    exact p4
        · have e : ds.drop i = [] := List.drop_eq_nil_of_le (by omega)
          rw [e] at p2
          have p3 : PostE C .fr env σ w1 H1 (.ok (.lst (xs ++ [])) st2) Q := p2
          rw [List.append_nil] at p3
          exact .inl ⟨j2 (by omega), p3 w2 _ H2 l2 (s1.go l2 l2.Sm s2.sto s2.al) ⟨Dp, acc, rfl, hacc, hD, hS, rx⟩⟩
  refine ⟨fun X C gd => ?_, fun {i y py spos} hN hy hk ht hl hn X C gd => ?_⟩
  · obtain ⟨wi, g, tt, te, h1, h2, h3, h4, h5⟩ := core X C gd
    exact (pe_lc (gd.cold hm).1 gd.nd h1 (blkOk_by (by rw [gd.N, gd.sc]; exact ok)) h2 h3 h4 (hs _)).imp h5
  · obtain ⟨wi, g, tt, te, h1, h2, h3, h4, h5⟩ := core X C gd
    refine (ps_setLc (i := i) (gd.cold hm).1 gd.nd (by rw [gd.N]; exact hN) (by rw [gd.sc]; exact hy) (sw_true (by rw [gd.sc]; exact hk) (by rw [gd.sc]; exact hy) hl hn) h1 (blkOk_by (by rw [gd.N, gd.sc]; exact ok)) h2 h3 h4 (hs _)).imp fun E σ H ⟨w, env, st, s, p⟩ => h5 σ H _ ⟨w, env, st, s, ?_⟩
    refine PostS.bind p fun d st1 w1 v1 H1 l1 s1 r1 p1 => ?_
    split at p1
    · exact p1 w1 _ H1 (s.setF s1 (by assumption) r1)
    · exact p1.elim
end
end NC

/-! ### calls of defs, the whole program's runs, the law's end -/
namespace NC
open PySem L2

def PostC (T : Tb) (B : Bs) (r : R D) (Q : VK) (E : XK) : Prop := match r with
  | .ok d st' => ∀ v H', RetOk T B st' H' v d → Q v H'
  | .exc x st' => ∀ r H' c dx, Le B.w B.H ⟨B.w.S, r⟩ H' → Stok T ⟨B.w.S, r⟩ H' st' → XRep T ⟨B.w.S, r⟩ H' x c dx → E c dx H'
  | .stuck => False
/-- the promise of a def -/
def spOf (T : Tb) (cl : Calls) (x : Str) : Sp := fun vs H Q E => ∃ (as : List (Md × D)) (w : Wd) (st : Sto), RepL T.K w H (as.map (·.1)) vs (as.map (·.2)) ∧ Stok T w H st ∧ (∀ a, w.S a → H a ≠ none ∧ a ∉ w.r) ∧ PostC T ⟨w, H, [], none⟩ (cl x as st) Q E
structure CallOk (M : Mo) (x : Str) : Prop where
  ex : ∃ (fa : Addr) (fd : FuncData) (ps : List Str), M.mg x = some (.ref fa) ∧ PySem.W.keepIn M.T.K (.ref fa) = true ∧ Binds M.T.K fd ps [] ∧ (M.hot = false → FnOk M.P M.w M.T.K M.mg M.base (L2N.CX M.P M.w) M.n fa fd ps (spOf M.T M.cl x)) ∧ (M.hot = true → L2H.FnH M.P M.w M.T.K M.mg M.base (L2N.CX M.P M.w) M.n fa fd ps (spOf M.T M.cl x))
def bDef (cl : Calls) (x : Str) (ms : List Md) (g : FL) : F := fun env st => (g env st).bind fun ds st1 => cl x (ms.zip ds) st1
theorem zip_fst {α β : Type} : ∀ {l : List α} {l' : List β}, l.length = l'.length → (l.zip l').map (·.1) = l
  | [], _, _ => by simp
  | a :: l, [], h => by cases h
  | a :: l, b :: l', h => by rw [List.zip_cons_cons, List.map_cons, zip_fst (Nat.succ.inj h)]
theorem zip_snd {α β : Type} : ∀ {l : List α} {l' : List β}, l.length = l'.length → (l.zip l').map (·.2) = l'
  | [], [], _ => rfl
  | [], _ :: _, h => by cases h
  | a :: l, [], h => by cases h
  | a :: l, b :: l', h => by rw [List.zip_cons_cons, List.map_cons, zip_snd (Nat.succ.inj h)]
theorem RepL.len2 {K : PySem.W.Frag} {w : Wd} {H : Hp} {ms : List Md} {vs : List V} {ds : List D} (h : RepL K w H ms vs ds) : ms.length = ds.length := by
  induction h with
  | nil => rfl
  | esc _ _ ih => rw [List.length_cons, List.length_cons, ih]
  | rd _ _ ih => rw [List.length_cons, List.length_cons, ih]
section
variable {G : Ct} {M : Mo} {m : Md} {ms : List Md} {X : Cx} {C : Cf} {a b c e tg : Expr} {es : List Expr} {f g h : F} {fb : FB} {fi fl : FL} {p1 pos : Pos} {i : Nat} {x : Str} {t : Tg}
/-- behind a call -/
theorem Sim.back {T : Tb} {B : Bs} {w : Wd} {env : Ev} {st st' : Sto} {σ : St} {H H' : Hp} {r : List Addr} (s : Sim T B w env st σ H) (l : Le w H ⟨w.S, r⟩ H') (hst : Stok T ⟨w.S, r⟩ H' st') : Sim T B ⟨w.S, r⟩ env st' σ H' := by
  refine s.go l (fun _ z => z) hst fun a z => ⟨?_, fun z2 => ?_⟩
  · cases e : H a with
    | none => exact absurd e (s.al a z).1
    | some o => obtain ⟨o', e'⟩ := l.live a o e; rw [e']; intro z; cases z
  · rcases l.new a z2 with q | q
    · exact (s.al a z).2 q
    · exact (s.al a z).1 q
theorem PostE.call {env : Ev} {σ : St} {w : Wd} {H : Hp} {st : Sto} {r : R D} {Q : VK} (p : PostE C .esc env σ w H r Q) (s : Sim C.T C.B w env st σ H) : PostC C.T ⟨w, H, [], none⟩ r Q (WE C.W σ) := by
  cases r with
  | ok d st' =>
    rintro v H' ⟨r, l, hst, rep⟩
    exact p ⟨w.S, r⟩ v H' l (s.back l hst) rep
  | exc x st' => exact fun r H' c dx l hst xr => p ⟨w.S, r⟩ H' c dx l (s.back l hst) xr
  | stuck => exact p
theorem sn_call (hc : CallOk M x) (hg : G.sc.names.lookup x = some .globalImplicit) (ha : SndL G M ms (e :: es) fl) (hdb : (x == ("__debug__" : Str)) = false := by decide)
    (he : ∀ env, starEach (e :: es) env = (false, eval e env) :: starEach es env := by intro _; rfl) (hpl : ∀ env, (backTo pos (starEach es env)).any (·.1) = false := by intro _; rfl) : SndE G M .esc (.Call (.Name x p1) (e :: es) [] pos) (bDef M.cl x ms fl) := by
  obtain ⟨fa, fd, ps, h1, h2, h3, h4, h5⟩ := hc.ex
  intro X C gd
  have key : ∀ σ H Q, tE C .esc (bDef M.cl x ms fl) σ H Q → tCallS (spOf M.T M.cl x) (WE C.W) (tL C ms fl) σ H Q := fun σ H Q ⟨w, env, st, s, p⟩ => ⟨w, env, st, s, by
    refine PostE.bindL p fun ds st1 w1 vs H1 l1 s1 r1 p1 => ?_
    rw [← gd.T]
    exact ⟨ms.zip ds, w1, st1, by rw [zip_fst r1.len2, zip_snd r1.len2]; exact r1, s1.sto, s1.al, p1.call s1⟩⟩
  have gl : Gl X x := by show X.env.scope.names.lookup _ = _; rw [gd.sc]; exact hg
  cases hh : M.hot with
  | false =>
    have F : FnOk X.prog X.w X.K X.mg X.base (L2N.CX X.prog X.w) M.n fa fd ps (spOf M.T M.cl x) := by rw [gd.p, gd.w, gd.K, gd.mg, gd.base]; exact h4 hh
    exact (pe_callS (E := WE C.W) F (gd.cold hh).2.1 gl (by rw [gd.mg]; exact h1) (by rw [gd.K]; exact h2) (by rw [gd.K]; exact h3) (fun σ => L2N.passAt gd.tk σ) (ha X C gd) hdb (he _) (hpl _)).imp key
  | true =>
    have F : L2H.FnH X.prog X.w X.K X.mg X.base (L2N.CX X.prog X.w) M.n fa fd ps (spOf M.T M.cl x) := by rw [gd.p, gd.w, gd.K, gd.mg, gd.base]; exact h5 hh
    exact (L2H.pe_callH (E := WE C.W) F (gd.hotr hh).1 (gd.hotr hh).2 gl (by rw [gd.mg]; exact h1) (by rw [gd.K]; exact h2) (by rw [gd.K]; exact h3) (fun σ => L2N.passAt gd.tk σ) (ha X C gd) hdb (he _) (hpl _)).imp key
end

/-! the run of a def -/
def slotA : Md × D → Slot
  | (.rd, .lst ds) => some (.bor, .lst ds)
  | (_, d) => some (.frz, d)
def startE (as : List (Md × D)) (ns : Nat) : Ev := as.map slotA ++ List.replicate (ns - as.length) none
def fin : Out → R D
  | .next _ st => .ok .non st
  | .ret d st => .ok d st
  | .exc x _ st => .exc x st
  | _ => .stuck
def runD (np ns : Nat) (sh : FS) (as : List (Md × D)) (st : Sto) : R D := if as.length = np then fin (sh (startE as ns) st) else .stuck
structure Df where
  run : Calls → List (Md × D) → Sto → R D
/-- a def; a def with so many arguments left out -/
def dfD (np ns : Nat) (sh : Calls → FS) : Df := ⟨fun cl => runD np ns (sh cl)⟩
/-- the program's runs, at most so deep -/
def interp (Δ : Str → Option Df) : Nat → Calls
  | 0, _, _, _ => .stuck
  | n + 1, x, as, st => match Δ x with
    | none => .stuck
    | some d => d.run (interp Δ n) as st
theorem interp_eq {Δ : Str → Option Df} {n : Nat} {x : Str} {d : Df} (h : Δ x = some d) (as : List (Md × D)) (st : Sto) : interp Δ (n + 1) x as st = d.run (interp Δ n) as st := by
  show (match Δ x with | none => _ | some d => _) = _
  rw [h]

theorem RepL.get {K : PySem.W.Frag} {w : Wd} {H : Hp} {as : List (Md × D)} : ∀ {vs : List V}, RepL K w H (as.map (·.1)) vs (as.map (·.2)) → ∀ {i : Nat} {p : Md × D}, as[i]? = some p → ∃ v, vs[i]? = some v ∧ ((p.1 = .esc ∧ Rep K w H v p.2) ∨ (p.1 = .rd ∧ RepR K w H v p.2)) := by
  induction as with
  | nil => intro vs h i p e; simp at e
  | cons a as ih =>
    intro vs h i p e
    obtain ⟨am, ad⟩ := a
    rw [List.map_cons, List.map_cons] at h
    cases h with
    | esc r t =>
      cases i with
      | zero => simp at e; subst e; exact ⟨_, rfl, .inl ⟨rfl, r⟩⟩
      | succ i =>
        obtain ⟨v, h1, h2⟩ := ih t (i := i) (p := p) (by simpa using e)
        exact ⟨v, by simpa using h1, h2⟩
    | rd r t =>
      cases i with
      | zero => simp at e; subst e; exact ⟨_, rfl, .inr ⟨rfl, r⟩⟩
      | succ i =>
        obtain ⟨v, h1, h2⟩ := ih t (i := i) (p := p) (by simpa using e)
        exact ⟨v, by simpa using h1, h2⟩
theorem slotA_ok {T : Tb} {w : Wd} {H : Hp} {st : Sto} {p : Md × D} {v : V} (hs : Stok T w H st) (r : (p.1 = .esc ∧ Rep T.K w H v p.2) ∨ (p.1 = .rd ∧ RepR T.K w H v p.2)) : SlotOk T.K ⟨w, H, [], none⟩ w H (some v) (slotA p) := by
  obtain ⟨pm, d⟩ := p
  rcases r with ⟨rfl, r⟩ | ⟨rfl, r⟩
  · exact ⟨v, rfl, r⟩
  · cases d with
    | lst ds =>
      rcases r with r | ⟨a, vs, ds', e1, e2, e3, r⟩
      · cases r with
        | lst h1 h2 h3 h4 =>
          refine ⟨_, _, ds, rfl, rfl, h4, .inl ⟨h1, h3, ?_⟩⟩
          rcases h1 with h1 | ⟨o, h1⟩ <;> (show H _ ≠ none; rw [h1]; intro z; cases z)
        | klst h1 h4 => exact ⟨_, _, ds, rfl, rfl, h4, .inr h1⟩
      · cases e2
        subst e1
        refine ⟨_, _, ds, rfl, rfl, r, e3.imp (fun z => ⟨z.1, z.2, ?_⟩) fun z => z⟩
        rcases z.1 with h1 | ⟨o, h1⟩ <;> (show H _ ≠ none; rw [h1]; intro z; cases z)
    | non => exact ⟨v, rfl, by rw [r.non]; exact .non⟩
    | bl b => exact ⟨v, rfl, by rw [r.bl]; exact .bl b⟩
    | int b => exact ⟨v, rfl, by rw [r.int]; exact .int b⟩
    | str b => exact ⟨v, rfl, by rw [r.str]; exact .str b⟩
    | tup ds => obtain ⟨a, us, rfl, e3, rs⟩ := RepR.tup r; exact ⟨_, rfl, .tup e3 rs⟩
    | loc n => obtain ⟨a, rfl, e3⟩ := RepR.loc r; exact ⟨_, rfl, .loc e3⟩
theorem slotA_noOwn {p : Md × D} {d : D} : slotA p ≠ some (.own, d) := by
  obtain ⟨pm, e⟩ := p
  cases pm <;> cases e <;> (intro z; cases z)
theorem sim_start {T : Tb} {w : Wd} {H : Hp} {st : Sto} {as : List (Md × D)} {vs : List V} {N : List Str} (r : RepL T.K w H (as.map (·.1)) vs (as.map (·.2))) (hs : Stok T w H st) (al : ∀ a, w.S a → H a ≠ none ∧ a ∉ w.r) (hl : as.length ≤ N.length) :
    Sim T ⟨w, H, [], none⟩ w (startE as N.length) st (L2.start N vs) H := by
  have e1 : vs.length = as.length := by rw [r.len, List.length_map]
  have noOwn : ∀ (i : Nat) d, (startE as N.length)[i]? ≠ some (some (.own, d)) := by
    intro i d h
    unfold startE at h
    by_cases hi : i < as.length
    · rw [List.getElem?_append_left (by simpa using hi), List.getElem?_map, List.getElem?_eq_getElem hi] at h
      exact slotA_noOwn (Option.some.inj h)
    · rw [List.getElem?_append_right (by simpa using hi), List.getElem?_replicate] at h
      split at h <;> cases h
  refine ⟨?_, fun i s h => ?_, fun i j d e a h1 => absurd h1 (noOwn i d), hs, al, .refl _ _, fun _ z => z, fun a z => (al a z).1, fun p hp => by cases hp⟩
  · unfold L2.start startE
    simp only [List.length_append, List.length_map, List.length_replicate]
    omega
  · unfold startE at h
    by_cases hi : i < as.length
    · rw [List.getElem?_append_left (by simpa using hi), List.getElem?_map, List.getElem?_eq_getElem hi] at h
      cases h
      obtain ⟨v, h1, h2⟩ := r.get (List.getElem?_eq_getElem hi)
      have h3 : ((L2.start N vs)[i]?).join = some v := by
        unfold L2.start
        rw [List.getElem?_append_left (by rw [List.length_map, e1]; exact hi), List.getElem?_map, h1]
        rfl
      rw [h3]
      exact slotA_ok hs h2
    · rw [List.getElem?_append_right (by simpa using hi), List.getElem?_replicate] at h
      split at h
      · cases h; trivial
      · cases h
section
variable {P : Program} {w0 : World} {T : Tb} {mg : Str → Option Value} {base : Heap} {cl cl' : Calls} {n : Nat} {x nm qual : Str} {st : Stmt} {f : Addr} {fd : FuncData} {N ps : List Str} {sh : FS}
theorem fn_ok (F : Fun T.K nm qual st f fd) (S : FnScope N ps (defScope st)) (snd : SndB ⟨N, defScope st, none⟩ ⟨P, w0, T, mg, base, cl, n, false⟩ (defBody st) sh)
    (hcl : ∀ as s, cl' x as s = runD ps.length N.length sh as s) : FnOk P w0 T.K mg base (L2N.CX P w0) (n + 1) f fd ps (spOf T cl' x) := by
  have hpl : ps.length ≤ N.length := by have := congrArg List.length S.pre; rw [List.length_take] at this; omega
  have asl : ∀ {as s T B Q E}, PostC T B (cl' x as s) Q E → as.length = ps.length := by
    intro as s T B Q E h
    rw [hcl] at h
    unfold runD at h
    split at h
    · assumption
    · exact h.elim
  obtain ⟨oc, od, kV, doc, pm, an, cdv, ct, osl, rfl, lk, hcd⟩ := F.ex
  refine fn_of lk hcd S (fun vs H Q E ⟨as, w, s, r, hs, al, p⟩ => ?_) (fun A outer s0 H vs Q E hr ⟨as, w, s, r, hs, al, p⟩ => ?_)
  · rw [r.len, List.length_map]; exact asl p
  · have hal := asl p
    rw [hcl] at p
    unfold runD at p
    rw [if_pos hal] at p
    let C : Cf := ⟨T, ⟨w, H, [], none⟩, fun c dx _ H => E c dx H⟩
    have gd : Gd ⟨N, defScope st, none⟩ ⟨P, w0, T, mg, base, cl, n, false⟩ (cxOf (L2N.CX P w0) P w0 T.K mg base N qual (defScope st) f cdv A outer s0 H E) C :=
      ⟨rfl, rfl, rfl, rfl, rfl, rfl, rfl, rfl, S.nd, (fun _ => ⟨rfl, hr, rfl⟩), (fun _ => ⟨rfl, rfl⟩), (fun h => Bool.noConfusion h), (fun a c cls dd e => by cases e), rfl, passes_of rfl, L2N.takes_of rfl rfl rfl rfl⟩
    refine ⟨_, snd _ C gd, w, startE as N.length, s, sim_start r hs al (by omega), ?_⟩
    have shrink : ∀ {w' : Wd} {env st σ H'}, Sim T C.B w' env st σ H' → Le w H ⟨w.S, w'.r⟩ H' ∧ Stok T ⟨w.S, w'.r⟩ H' st ∧ Ok2 w' H' ⟨w.S, w'.r⟩ H' := fun {w' env st σ H'} s' => by
      have ok : Ok2 w' H' ⟨w.S, w'.r⟩ H' := ⟨fun _ _ e => e, fun _ _ e _ => e, fun a o e n1 n2 => ⟨e, fun z => n1 (s'.sub a z), n2⟩⟩
      exact ⟨⟨s'.le.pre, s'.le.fr, s'.le.live, s'.le.new, fun a z => .inl z, fun a z => z⟩, s'.sto.to ok (fun _ _ => rfl) rfl, ok⟩
    cases e : sh (startE as N.length) s with
    | next env st' => rw [e] at p; exact fun w' σ H' s' => p .non H' (s'.ret .non)
    | ret d st' => rw [e] at p; exact fun v H' r' => p v H' r'
    | exc x env st' =>
      rw [e] at p
      intro w' σ H' c dx s' xr
      obtain ⟨l, hs', ok⟩ := shrink s'
      refine p w'.r H' c dx l hs' ?_
      obtain ⟨C', h1, h2, h3⟩ := xr
      refine ⟨C', h1, h2, h3.imp (fun z => z) fun ⟨d, fv, k1, k2, k3, k4, k5⟩ => ⟨d, fv, k1, k2, ⟨k3.1, Reps.to ok _ _ k3.2⟩, fun z => k4 (s'.sub d z), k5⟩⟩
    | brk env st' => rw [e] at p; exact p.elim
    | cont env st' => rw [e] at p; exact p.elim
    | stuck => rw [e] at p; exact p.elim
/-- nothing is promised at level 0 -/
theorem fn_ok0 (hcl : ∀ as s, cl' x as s = .stuck) : FnOk P w0 T.K mg base (L2N.CX P w0) 0 f fd ps (spOf T cl' x) := by
  refine ⟨fun vs H Q E ⟨as, w, s, r, hs, al, p⟩ => ?_, fun A outer s0 H args us vs Q E hr e0 hb hv ⟨as, w, s, r, hs, al, p⟩ => ?_⟩
  · rw [hcl] at p; exact p.elim
  · rw [hcl] at p; exact p.elim
end

open PySem.Spec PyProof.Rows
/-! ### the law's end: as L2.law_call, walk_of, with the script as an exact list -/
/-- the script at a -/
def ScrAt (K : PySem.W.Frag) (H : Hp) (a : Addr) (ns : List Int) : Prop := LstAt K H a (ns.map V.int)
theorem law_call' {P : Program} {w : World} {K : PySem.W.Frag} {mg mb : Str → Option Value} {CX : CXT} {k : Nat} {fa a : Addr} {fd : FuncData} {x : Str} {sp : Sp} {s₁ : Shared} {vs : List Value} {ns : List Int}
    (KX : K.In s₁.heap) (hns : s₁.heap.Ns mainGlobals mg) (hb : s₁.heap.Ns builtinsNs mb) (hbb : ∀ x : Str, x ≠ "__name__" → mb x = bootBuiltins x) (hlim : s₁.heap.NoLimit) (hg : s₁.gens = #[])
    (ha : s₁.heap.get? a = some { cls := .type "list", data := .seq vs.toArray }) (hi : IntsAre vs ns) (hl : ns.length ≤ sizeLine) (hr : Room k callerA)
    (F : ∀ base : Heap, K.In base → base.Ns mainGlobals mg → FnOk P w K mg base CX k fa fd [x] sp) (hbind : ∀ (s : Shared) (u : Value), BindsTo s fd ⟨[u], []⟩ [(x, u)])
    (hsp : ∀ H : Hp, Only H → LstAt K H a (ns.map V.int) → sp [.ref a] H (fun v _ => v = .bl true) fun _ _ _ => False)
    (hCX : ∀ H e s', CX [] H s₁ (fun _ _ _ => False) e s' → False) :
    codeAny (model P w) callerA (.call (.ref fa) ⟨[.ref a], []⟩) (fun r s' => r = .ok (.ret (.bool true)) ∧ OldK s₁.heap s'.heap ∧ s'.os = s₁.os ∧ AllBare s'.gens) s₁ := by
  refine law_call KX hns hb hbb hlim hg ha hi hl hr F hbind (fun H hO hS => hsp H hO ?_) hCX
  rcases hS with hS | ⟨o, its, n, h1, h2, h3, h4, h5, h6⟩
  · exact .inl hS
  · have e := KX a o h1
    rw [ha] at e
    cases e
    refine .inr ⟨vs, _, h1, by rw [List.length_map]; exact hl, ?_⟩
    cases h4
    simpa using h6
theorem walk_of' {l : PySem.W.OpenLaw} {n k : Nat} {q : Program} {loose : List Str} {XP : (Str → Option Value) → Heap → Prop} {YP : World → Heap → Prop} {d : DefRec} {K : Params → PySem.W.Frag} {CX : World → CXT} {sp : World → (Str → Option Value) → Sp} {x : Str}
    (hn : l.most = some n) (hn2 : n ≤ sizeLine) (hdf : d.params.defaults = []) (hr : Room k callerA)
    (hY : ∀ (w : World) (h : Heap), YP w h → (K w.params).In h)
    (F : ∀ (w : World) (mg : Str → Option Value) (fa : Addr) (h : Heap), (K w.params).In h → h.Ns mainGlobals mg → mg d.name = some (.ref fa) →
      ∃ fd : FuncData, (∀ (s : Shared) (u : Value), BindsTo s fd ⟨[u], []⟩ [(x, u)]) ∧
        ∀ base : Heap, (K w.params).In base → base.Ns mainGlobals mg → FnOk l.prog w (K w.params) mg base (CX w) k fa fd [x] (sp w mg))
    (hsp : ∀ (w : World) (mg : Str → Option Value) (H : Hp) (a : Addr) (ns : List Int), ns.length ≤ n → Only H → LstAt (K w.params) H a (ns.map V.int) → sp w mg [.ref a] H (fun v _ => v = .bl true) fun _ _ _ => False)
    (hCX : ∀ (w : World) (H : Hp) (s : Shared) (e : Value) (s' : Shared), CX w [] H s (fun _ _ _ => False) e s' → False) :
    PySem.W.WalkO q loose XP YP l.row.toRowW d [] (fun f vs => PySem.call f vs) := by
  refine Att.attach_call hn hdf fun w s₀ s₁ mg mb fa o pm cd doc a vs ns G Y ho hd hcd hmg hobj hints hlen hg => ?_
  have KX := hY w _ Y
  obtain ⟨fd, hb, hF⟩ := F w mg fa _ KX G.T.g hmg
  exact law_call' KX G.T.g G.T.b G.T.builtins G.T.nolimit hg hobj hints (Nat.le_trans hlen hn2) hr hF hb (fun H hO hS => hsp w mg H a ns hlen hO hS) fun H e s' => hCX w H s₁ e s'
theorem reps_ints {K : PySem.W.Frag} {w : Wd} {H : Hp} : ∀ ns : List Int, Reps K w H (ns.map V.int) (ns.map D.int)
  | [] => .nil
  | n :: ns => .cons (.int n) (reps_ints ns)
/-- the law's promise from its run -/
theorem sp_law {T : Tb} {cl : Calls} {H : Hp} {a : Addr} {ns : List Int} (hS : LstAt T.K H a (ns.map V.int)) (st' : Sto) (h : cl "law" [(.esc, .lst (ns.map D.int))] [] = .ok (.bl true) st') : spOf T cl "law" [.ref a] H (fun v _ => v = .bl true) fun _ _ _ => False := by
  refine ⟨[(.esc, .lst (ns.map D.int))], ⟨fun _ => False, []⟩, [], .esc ?_ .nil, ⟨rfl, List.nodup_nil, fun i c a h => by simp at h⟩, fun a z => z.elim, ?_⟩
  · rcases hS with hS | hS
    · exact .lst hS (fun z => z) (by simp) (reps_ints ns)
    · exact .klst hS (reps_ints ns)
  · rw [h]
    rintro v H' ⟨r, l, hst, rep⟩
    cases rep
    rfl
theorem noCX {P : Program} {w : World} {l : List PySem.Env} {H : Hp} {s : Shared} {e : Value} {s' : Shared} (h : L2N.CX P w l H s (fun _ _ _ => False) e s') : False := by
  obtain ⟨_, _, _, _, _, _, _, _, _, _, _, _, z⟩ := h
  exact z
end NC

/-! ### short words for printed derivations -/
namespace NC
open PySem L2

def visK : Option NameKind → Bool
  | some .local => true | some .cell => true | some .free => true
  | _ => false
/-- the name x stands in slot i and is seen -/
def varX (G : Ct) (i : Nat) (x : Str) : Bool := (match G.N[i]? with | some y => decide (y = x) | none => false) && visK (G.sc.names.lookup x) && !(x == ("__debug__" : Str)) && !(x == ("__classdict__" : Str))
theorem varX_ok {G : Ct} {i : Nat} {x : Str} (h : varX G i x = true) : G.N[i]? = some x ∧ Vis G.sc x ∧ (x == ("__debug__" : Str)) = false ∧ (x == ("__classdict__" : Str)) = false := by
  unfold varX at h
  rw [Bool.and_eq_true, Bool.and_eq_true, Bool.and_eq_true, Bool.not_eq_true', Bool.not_eq_true'] at h
  obtain ⟨⟨⟨h1, h2⟩, h3⟩, h4⟩ := h
  refine ⟨?_, ?_, h3, h4⟩
  · cases e : G.N[i]? with
    | none => rw [e] at h1; cases h1
    | some y => rw [e] at h1; rw [of_decide_eq_true h1]
  · unfold visK at h2
    split at h2 <;> first | exact .inl (by assumption) | exact .inr (.inl (by assumption)) | exact .inr (.inr (by assumption)) | cases h2
/-- .. and may be stored here -/
def tgX (G : Ct) (i : Nat) (x : Str) : Bool := varX G i x && (match G.sc.names.lookup x with | some .local => true | some .cell => (match G.bk with | none => true | some s => s.names.lookup x == some .cell) | _ => false)
theorem tgX_ok {G : Ct} {i : Nat} {x : Str} (h : tgX G i x = true) : G.N[i]? = some x ∧ Loc G.sc x ∧ TgOk G x := by
  unfold tgX at h
  rw [Bool.and_eq_true] at h
  obtain ⟨h1, h2⟩ := h
  refine ⟨(varX_ok h1).1, ?_⟩
  split at h2
  · exact ⟨.inl (by assumption), .inr (by assumption)⟩
  · exact ⟨.inr (by assumption), .inl h2⟩
  · cases h2
/-- x is a global name here -/
def glX (G : Ct) (x : Str) : Bool := (match G.sc.names.lookup x with | some .globalImplicit => true | _ => false) && !(x == ("__debug__" : Str)) && !decide (x = ("__name__" : Str))
theorem glX_ok {G : Ct} {x : Str} (h : glX G x = true) : G.sc.names.lookup x = some .globalImplicit ∧ (x == ("__debug__" : Str)) = false ∧ x ≠ ("__name__" : Str) := by
  unfold glX at h
  rw [Bool.and_eq_true, Bool.and_eq_true, Bool.not_eq_true', Bool.not_eq_true'] at h
  obtain ⟨⟨h1, h2⟩, h3⟩ := h
  refine ⟨?_, h2, of_decide_eq_false h3⟩
  split at h1
  · assumption
  · cases h1
/-- the built-in names that the module does not take -/
def Bn (M : Mo) : Prop := ∀ x : Str, (["len", "range", "isinstance", "int", "bool", "str", "list", "tuple", "abs", "max", "min", "sum", "all", "any", "sorted", "enumerate", "zip", "dict", "reversed", "super"] : List Str).contains x = true → M.mg x = none
section
variable {G : Ct} {M : Mo} {m : Md} {ms : List Md} {a b c d e tg : Expr} {es : List Expr} {f g : F} {fl : FL} {fi : FL} {k : D → D → Sto → R D} {kl : List D → Sto → R D} {pos p1 p2 p3 p4 : Pos} {x : Str} {id T : String} {s1 : FS} {ss : List Stmt} {t : Tg}
theorem v1 (i : Nat) (h : varX G i x = true := by decide +kernel) : SndE G M .esc (.Name x pos) (bVar i) := let h := varX_ok h; sn_var h.1 h.2.1 h.2.2.1 h.2.2.2
theorem vr (i : Nat) (h : varX G i x = true := by decide +kernel) : SndE G M .rd (.Name x pos) (bVarR i) := let h := varX_ok h; sn_varR h.1 h.2.1 h.2.2.1 h.2.2.2
theorem gl {dd : D} (hh : GlobOk M x dd) (h : glX G x = true := by decide +kernel) : SndE G M .esc (.Name x pos) (bC dd) := let h := glX_ok h; sn_glob hh h.1 h.2.1
theorem iv (i : Nat) (h : varX G i x = true := by decide +kernel) : SndI G M tg (.Name x pos) (iVar i) := let h := varX_ok h; si_var h.1 h.2.1 h.2.2.1 h.2.2.2
theorem ivc {own : List Nat} (i : Nat) (h : varX G i x = true := by decide +kernel) (ho : i ∉ own := by decide) : SndIc G M own tg (.Name x pos) (iVarC i) := let h := varX_ok h; sic_var h.1 h.2.1 ho h.2.2.1 h.2.2.2
theorem tn (i : Nat) (h : tgX G i x = true := by decide +kernel) : SndG G M (.Name x pos) [i] (tgName i) := let h := tgX_ok h; sg_name h.1 h.2.1 h.2.2
theorem rg1 (hb : Bn M) (he : SndE G M .rd e f) (h : glX G ("range" : Str) = true := by decide +kernel) (hs : ∀ env, starEach [e] env = [(false, eval e env)] := by intro _; rfl) : SndI G M tg (.Call (.Name "range" p1) [e] [] pos) (iRng1D f) := si_rng1 (glX_ok h).1 (hb _ (by decide +kernel)) he hs
theorem rg2 (hb : Bn M) (ha : SndE G M .rd a f) (hbb : SndE G M .rd b g) (h : glX G ("range" : Str) = true := by decide +kernel) (hs : ∀ env, starEach [a, b] env = [(false, eval a env), (false, eval b env)] := by intro _; rfl)
    (hs2 : ∀ env, starEach [b] env = [(false, eval b env)] := by intro _; rfl) : SndI G M tg (.Call (.Name "range" p1) [a, b] [] pos) (iRng2D f g) := si_rng2 (glX_ok h).1 (hb _ (by decide +kernel)) ha hbb hs hs2
theorem cB (hb : Bn M) (hc : BuS G M m ms (.builtin id) kl) (ha : SndL G M ms (e :: es) fl) (h : glX G x = true := by decide +kernel) (hx : (["len", "range", "isinstance", "int", "bool", "str", "list", "tuple", "abs", "max", "min", "sum", "all", "any", "sorted", "enumerate", "zip", "dict", "reversed", "super"] : List Str).contains x = true := by decide +kernel)
    (hv : bootBuiltins x = some (.builtin id) := by decide +kernel) (he : ∀ env, starEach (e :: es) env = (false, eval e env) :: starEach es env := by intro _; rfl) (hpl : ∀ env, (backTo pos (starEach es env)).any (·.1) = false := by intro _; rfl) : SndE G M m (.Call (.Name x p1) (e :: es) [] pos) (bCall kl fl) :=
  let h := glX_ok h; sn_callB hc h.1 (hb _ hx) hv ha h.2.2 h.2.1 he hpl
theorem cT (hb : Bn M) (hc : BuS G M m ms (.type T) kl) (ha : SndL G M ms (e :: es) fl) (h : glX G x = true := by decide +kernel) (hx : (["len", "range", "isinstance", "int", "bool", "str", "list", "tuple", "abs", "max", "min", "sum", "all", "any", "sorted", "enumerate", "zip", "dict", "reversed", "super"] : List Str).contains x = true := by decide +kernel)
    (hv : bootBuiltins x = some (.type T) := by decide +kernel) (he : ∀ env, starEach (e :: es) env = (false, eval e env) :: starEach es env := by intro _; rfl) (hpl : ∀ env, (backTo pos (starEach es env)).any (·.1) = false := by intro _; rfl) : SndE G M m (.Call (.Name x p1) (e :: es) [] pos) (bCall kl fl) :=
  let h := glX_ok h; sn_callTy hc h.1 (hb _ hx) hv ha h.2.2 h.2.1 he hpl
theorem isi {t : String} {tx : Str} (hb : Bn M) (ha : SndE G M .rd a f) (h : glX G ("isinstance" : Str) = true := by decide +kernel) (h2 : glX G tx = true := by decide +kernel) (hx : (["int", "bool", "str", "list", "tuple"] : List Str).contains tx = true := by decide +kernel)
    (hv : bootBuiltins tx = some (.type t) := by decide +kernel) (hs : ∀ env, starEach (a :: [.Name tx p2]) env = (false, eval a env) :: starEach [.Name tx p2] env := by intro _; rfl) : SndE G M m (.Call (.Name "isinstance" p1) [a, .Name tx p2] [] pos) (bIsi t f) := by
  have hm : M.mg tx = none := by
    refine hb _ ?_
    simp only [List.contains_iff_mem] at hx ⊢
    simp only [List.mem_cons, List.not_mem_nil, or_false] at hx ⊢
    rcases hx with hx | hx | hx | hx | hx <;> simp [hx]
  exact sn_isi (glX_ok h).1 (hb _ (by decide +kernel)) (glX_ok h2).1 hm hv ha hs (glX_ok h2).2.2 (glX_ok h2).2.1
theorem cD (hc : CallOk M x) (ha : SndL G M ms (e :: es) fl) (h : glX G x = true := by decide +kernel) (he : ∀ env, starEach (e :: es) env = (false, eval e env) :: starEach es env := by intro _; rfl) (hpl : ∀ env, (backTo pos (starEach es env)).any (·.1) = false := by intro _; rfl) : SndE G M .esc (.Call (.Name x p1) (e :: es) [] pos) (bDef M.cl x ms fl) :=
  sn_call hc (glX_ok h).1 ha (glX_ok h).2.1 he hpl
theorem rv (i : Nat) (h : varX G i x = true := by decide +kernel) : SndS G M (.Return (some (.Name x p2)) pos) (sRetV i) := let h := varX_ok h; ss_retV h.1 h.2.1 h.2.2.1 h.2.2.2
theorem st (i : Nat) (he : SndE G M .fr e f) (h : tgX G i x = true := by decide +kernel) (hs : ∀ env, swapsWith e (some (.Name x p2)) pos.line env = pure false := by intro _; rfl) : SndS G M (.Assign [.Name x p2] e pos) (sSet i f) := let h := tgX_ok h; ss_set h.1 h.2.1 h.2.2 he hs
theorem se (i : Nat) (he : SndE G M .esc e f) (h : tgX G i x = true := by decide +kernel) (hs : ∀ env, swapsWith e (some (.Name x p2)) pos.line env = pure false := by intro _; rfl) : SndS G M (.Assign [.Name x p2] e pos) (sAsg (tgName i) f) := let h := tgX_ok h; ss_setE h.1 h.2.1 h.2.2 he hs
theorem sap (i : Nat) (he : SndE G M .esc e f) (h : varX G i x = true := by decide +kernel) (hs : ∀ env, starEach (e :: []) env = (false, eval e env) :: starEach [] env := by intro _; rfl) (hline : (p3.endLine == p4.line) = true := by rfl) :
    SndS G M (.Expr (.Call (.Attribute (.Name x p2) "append" p3) [e] [] p4) pos) (sApp i f) := let h := varX_ok h; ss_app h.1 h.2.1 he hs h.2.2.1 h.2.2.2 hline
theorem sxt (i : Nat) (he : SndE G M .rd e f) (h : varX G i x = true := by decide +kernel) (hs : ∀ env, starEach (e :: []) env = (false, eval e env) :: starEach [] env := by intro _; rfl) (hline : (p3.endLine == p4.line) = true := by rfl) :
    SndS G M (.Expr (.Call (.Attribute (.Name x p2) "extend" p3) [e] [] p4) pos) (sExt i f) := let h := varX_ok h; ss_ext h.1 h.2.1 he hs h.2.2.1 h.2.2.2 hline
theorem six (i : Nat) {kx : Expr} {fk : F} (hk : SndE G M .rd kx fk) (he : SndE G M .esc e f) (h : varX G i x = true := by decide +kernel)
    (hs : ∀ env, swapsWithSole [.Subscript (.Name x p2) kx p3] e pos.line env = pure false := by intro _; rfl) (hw : ∀ env, swappedStores [.Subscript (.Name x p2) kx p3] e env = pure none := by intro _; rfl)
    (h1 : ∀ env, (assignEach [.Subscript (.Name x p2) kx p3] env).map (·.2) = [assign (.Subscript (.Name x p2) kx p3) env] := by intro _; rfl)
    (ha : ∀ env v, assign (.Subscript (.Name x p2) kx p3) env v = (do
      let ov ← holding [v] (eval (.Name x p2) env)
      let iv ← holding [v, ov] (eval kx env)
      standAt p3
      holding [v, ov, iv] (setItem ov iv v)
      release [v, ov, iv] []) := by intro _ _; rfl) : SndS G M (.Assign [.Subscript (.Name x p2) kx p3] e pos) (sSetIx i fk f) := let h := varX_ok h; ss_setIx h.1 h.2.1 hk he h.2.2.1 h.2.2.2 hs hw h1 ha
/-- comprehensions -/
theorem lc {elt iter : Expr} {ifs : List Expr} {scope : Scope} {is : List Nat} {fb : FB} (hm : M.hot = false) (own : List (Str × Nat)) (hi : SndIc G M (own.map (·.2)) tg iter fi) (hg : SndG (G.blk scope) M tg is t) (ht : SndTs (G.blk scope) M ifs fb) (he : SndE (G.blk scope) M .esc elt f)
    (ok : blkC G.N G.sc scope own = true := by decide +kernel) (hsub : ∀ j ∈ is, j ∈ own.map (·.2) := by decide +kernel) (hs : ∀ env x, foldedSetIterable iter env x = pure x := by intro _ _; rfl) :
    SndE G M .fr (.ListComp elt [⟨tg, iter, ifs, 0⟩] scope pos) (bComp (own.map (·.2)) fi t fb f) := (sn_comp hm hi ok hg ht he hsub hs).1
def swX (G : Ct) (y : Str) (scope : Scope) (py pos : Pos) : Bool := (match G.sc.names.lookup y with | some .local => true | _ => false) && (match G.sc.kind with | .function => true | _ => false) && (py.line == pos.line) && !(scope.names.any fun (n, k) => n == y && (k == .local || k == .cell))
/-- y = [..], y a plain local -/
theorem slc {elt iter : Expr} {ifs : List Expr} {scope : Scope} {is : List Nat} {fb : FB} {y : Str} {py spos : Pos} (hm : M.hot = false) (i : Nat) (own : List (Str × Nat)) (hi : SndIc G M (own.map (·.2)) tg iter fi) (hg : SndG (G.blk scope) M tg is t) (ht : SndTs (G.blk scope) M ifs fb) (he : SndE (G.blk scope) M .esc elt f)
    (ok : blkC G.N G.sc scope own = true := by decide +kernel) (hsub : ∀ j ∈ is, j ∈ own.map (·.2) := by decide +kernel) (h : tgX G i y = true := by decide +kernel) (hsw : swX G y scope py pos = true := by decide +kernel) (hs : ∀ env x, foldedSetIterable iter env x = pure x := by intro _ _; rfl) :
    SndS G M (.Assign [.Name y py] (.ListComp elt [⟨tg, iter, ifs, 0⟩] scope pos) spos) (sSet i (bComp (own.map (·.2)) fi t fb f)) := by
  unfold swX at hsw
  rw [Bool.and_eq_true, Bool.and_eq_true, Bool.and_eq_true, Bool.not_eq_true'] at hsw
  obtain ⟨⟨⟨h1, h2⟩, h3⟩, h4⟩ := hsw
  refine (sn_comp hm hi ok hg ht he hsub hs).2 (tgX_ok h).1 ?_ ?_ (tgX_ok h).2.2 h3 h4
  · split at h1
    · assumption
    · cases h1
  · split at h2
    · assumption
    · cases h2
theorem _root_.L2.ps_set' {X : Cx} {i : Nat} {x : Str} {e : Expr} {te : TE} {pos pos' : Pos} (hN : X.N.Nodup) (hi : X.N[i]? = some x) (hx : Loc X.env.scope x) (he : PE X e te) (hs : swapsWith e (some (.Name x pos')) pos.line X.env = pure false) (hf : X.fn x = true ∨ X.env.scope.names.lookup x = some .local) :
    PS X (.Assign [.Name x pos'] e pos) (tAsg te (gName i)) := ps_set hN hi hx he hs hf
/-- y = [..], y captured by a block, or its block's own name -/
theorem slc0 {elt iter : Expr} {ifs : List Expr} {scope : Scope} {is : List Nat} {fb : FB} {y : Str} {py spos : Pos} (hm : M.hot = false) (i : Nat) (own : List (Str × Nat)) (hi : SndIc G M (own.map (·.2)) tg iter fi) (hg : SndG (G.blk scope) M tg is t) (ht : SndTs (G.blk scope) M ifs fb) (he : SndE (G.blk scope) M .esc elt f)
    (ok : blkC G.N G.sc scope own = true := by decide +kernel) (hsub : ∀ j ∈ is, j ∈ own.map (·.2) := by decide +kernel) (h : tgX G i y = true := by decide +kernel) (hsw : ((match G.sc.names.lookup y with | some .local => false | _ => true) || !(py.line == pos.line) || (scope.names.any fun (n, k) => n == y && (k == .local || k == .cell))) = true := by decide +kernel) (hs : ∀ env x, foldedSetIterable iter env x = pure x := by intro _ _; rfl) :
    SndS G M (.Assign [.Name y py] (.ListComp elt [⟨tg, iter, ifs, 0⟩] scope pos) spos) (sSet i (bComp (own.map (·.2)) fi t fb f)) := by
  intro X C gd
  have h := tgX_ok h
  have hc := (sn_comp (pos := pos) hm hi ok hg ht he hsub hs).1
  refine (ps_set (i := i) gd.nd (by rw [gd.N]; exact h.1) (by rw [gd.sc]; exact h.2.1) (hc X C gd) ?_ (gd.fnOk h.2.2)).imp fun E σ H ⟨w, env, st, s, p⟩ => ⟨w, env, st, s, PostS.bind p fun d st1 w1 v1 H1 l1 s1 r1 p1 => by
    split at p1
    · exact p1 w1 _ H1 (s.setF s1 (by assumption) r1)
    · exact p1.elim⟩
  have hk : X.env.kindOf y = G.sc.names.lookup y := by show X.env.scope.names.lookup y = _; rw [gd.sc]
  unfold swapsWith
  show (pure (X.env.blockKind == .function && X.env.kindOf y == some .local && py.line == pos.line && !(scope.names.any fun (n, k) => n == y && (k == .local || k == .cell))) : Sem Bool) = pure false
  congr 1
  rw [hk]
  rw [Bool.or_eq_true, Bool.or_eq_true] at hsw
  rcases hsw with (hsw | hsw) | hsw
  · split at hsw
    · cases hsw
    · rename_i hne
      have : (G.sc.names.lookup y == some .local) = false := by
        cases q : G.sc.names.lookup y with
        | none => rfl
        | some kk => cases kk <;> first | rfl | exact absurd q hne
      rw [this, Bool.and_false, Bool.false_and, Bool.false_and]
  · rw [Bool.not_eq_true'] at hsw
    rw [hsw, Bool.and_false, Bool.false_and]
  · rw [hsw]
    simp
end
end NC

/-! ### reckoning with the shallow texts -/
namespace NC
open PySem L2
section
variable {α β : Type} {env : Ev} {st : Sto} {a : α} {x : Exn}
@[simp] theorem bind_ok (k : α → Sto → R β) : (R.ok a st).bind k = k a st := rfl
@[simp] theorem bind_exc (k : α → Sto → R β) : (R.exc x st).bind k = .exc x st := rfl
@[simp] theorem bind_stuck (k : α → Sto → R β) : (R.stuck : R α).bind k = .stuck := rfl
@[simp] theorem bind_ite (c : Prop) [Decidable c] (r s : R α) (k : α → Sto → R β) : (if c then r else s).bind k = if c then r.bind k else s.bind k := by split <;> rfl
@[simp] theorem out_ok (d : D) (k : D → Sto → Out) : (R.ok d st).out env k = k d st := rfl
@[simp] theorem out_exc (k : D → Sto → Out) : (R.exc x st).out env k = .exc x env st := rfl
@[simp] theorem out_stuck (k : D → Sto → Out) : (R.stuck).out env k = .stuck := rfl
@[simp] theorem out_ite (c : Prop) [Decidable c] (r s : R D) (k : D → Sto → Out) : (if c then r else s).out env k = if c then r.out env k else s.out env k := by split <;> rfl
@[simp] theorem outB_ok (d : Bool) (k : Bool → Sto → Out) : (R.ok d st).outB env k = k d st := rfl
@[simp] theorem outB_exc (k : Bool → Sto → Out) : (R.exc x st).outB env k = .exc x env st := rfl
@[simp] theorem outB_stuck (k : Bool → Sto → Out) : (R.stuck).outB env k = .stuck := rfl
@[simp] theorem outB_ite (c : Prop) [Decidable c] (r s : R Bool) (k : Bool → Sto → Out) : (if c then r else s).outB env k = if c then r.outB env k else s.outB env k := by split <;> rfl
@[simp] theorem nox_ok : (R.ok a st).nox = .ok a st := rfl
@[simp] theorem nox_ite (c : Prop) [Decidable c] (r s : R α) : (if c then r else s).nox = if c then r.nox else s.nox := by split <;> rfl
/-- one statement behind another -/
def Out.seq (o : Out) (g : FS) : Out := match o with
  | .next env' st' => g env' st'
  | o => o
@[simp] theorem seq_next (g : FS) (e : Ev) : (Out.next e st).seq g = g e st := rfl
@[simp] theorem seq_ret (g : FS) (d : D) : (Out.ret d st).seq g = .ret d st := rfl
@[simp] theorem seq_brk (g : FS) (e : Ev) : (Out.brk e st).seq g = .brk e st := rfl
@[simp] theorem seq_cont (g : FS) (e : Ev) : (Out.cont e st).seq g = .cont e st := rfl
@[simp] theorem seq_exc (g : FS) (e : Ev) : (Out.exc x e st).seq g = .exc x e st := rfl
@[simp] theorem seq_stuck (g : FS) : (Out.stuck).seq g = .stuck := rfl
@[simp] theorem seq_ite (c : Prop) [Decidable c] (r s : Out) (g : FS) : (if c then r else s).seq g = if c then r.seq g else s.seq g := by split <;> rfl
@[simp] theorem sCons_eq (f g : FS) : sCons f g env st = (f env st).seq g := by unfold sCons Out.seq; rfl
@[simp] theorem sNil_eq : sNil env st = .next env st := rfl
@[simp] theorem sPass_eq : sPass env st = .next env st := rfl
@[simp] theorem sBrk_eq : sBrk env st = .brk env st := rfl
@[simp] theorem sCont_eq : sCont env st = .cont env st := rfl
@[simp] theorem sRetN_eq : sRetN env st = .ret .non st := rfl
@[simp] theorem sRet_eq (f : F) : sRet f env st = (f env st).out env fun d st1 => .ret d st1 := rfl
@[simp] theorem sExpr_eq (f : F) : sExpr f env st = (f env st).out env fun d st1 => .next env st1 := rfl
@[simp] theorem sIf_eq (c : FB) (f g : FS) : sIf c f g env st = (c env st).outB env fun b st1 => if b = true then f env st1 else g env st1 := rfl
@[simp] theorem fin_next (e : Ev) : fin (.next e st) = .ok .non st := rfl
@[simp] theorem fin_ret (d : D) : fin (.ret d st) = .ok d st := rfl
@[simp] theorem fin_exc (e : Ev) : fin (.exc x e st) = .exc x st := rfl
@[simp] theorem fin_stuck : fin .stuck = .stuck := rfl
@[simp] theorem fin_ite (c : Prop) [Decidable c] (r s : Out) : fin (if c then r else s) = if c then fin r else fin s := by split <;> rfl
/-- expressions -/
@[simp] theorem bC_eq (d : D) : bC d env st = .ok d st := rfl
theorem bVar_of {i : Nat} {d : D} (h : env[i]? = some (some (.frz, d))) : bVar i env st = .ok d st := by unfold bVar; rw [h]
theorem bVarR_of {i : Nat} {fl : Fl} {d : D} (n : fl ≠ .exc) (h : env[i]? = some (some (fl, d))) : bVarR i env st = .ok d st := by unfold bVarR; rw [h]; cases fl <;> first | rfl | exact absurd rfl n
@[simp] theorem bVar_z (d : D) (r : Ev) : bVar 0 (some (.frz, d) :: r) st = .ok d st := rfl
@[simp] theorem bVar_s (i : Nat) (s : Slot) (r : Ev) : bVar (i + 1) (s :: r) st = bVar i r st := rfl
@[simp] theorem bVarR_z (d : D) (r : Ev) : bVarR 0 (some (.frz, d) :: r) st = .ok d st := rfl
@[simp] theorem bVarR_z1 (d : D) (r : Ev) : bVarR 0 (some (.own, d) :: r) st = .ok d st := rfl
@[simp] theorem bVarR_z2 (d : D) (r : Ev) : bVarR 0 (some (.bor, d) :: r) st = .ok d st := rfl
@[simp] theorem bVarR_s (i : Nat) (s : Slot) (r : Ev) : bVarR (i + 1) (s :: r) st = bVarR i r st := rfl
@[simp] theorem bBin_eq (k : D → D → Sto → R D) (f g : F) : bBin k f g env st = (f env st).bind fun a st1 => (g env st1).bind fun b st2 => k a b st2 := rfl
@[simp] theorem bCall_eq (k : List D → Sto → R D) (g : FL) : bCall k g env st = (g env st).bind fun ds st1 => k ds st1 := rfl
@[simp] theorem bDef_eq (cl : Calls) (x : Str) (ms : List Md) (g : FL) : bDef cl x ms g env st = (g env st).bind fun ds st1 => cl x (ms.zip ds) st1 := rfl
@[simp] theorem lNil_eq : lNil env st = .ok [] st := rfl
@[simp] theorem lCons_eq (f : F) (g : FL) : lCons f g env st = (f env st).bind fun d st1 => (g env st1).bind fun ds st2 => .ok (d :: ds) st2 := rfl
@[simp] theorem bTup_eq (g : FL) : bTup g env st = (g env st).bind fun ds st1 => .ok (.tup ds) st1 := rfl
@[simp] theorem bLst_eq (g : FL) : bLst g env st = (g env st).bind fun ds st1 => .ok (.lst ds) st1 := rfl
@[simp] theorem bIfE_eq (c : FB) (f g : F) : bIfE c f g env st = (c env st).bind fun b st1 => if b = true then f env st1 else g env st1 := rfl
@[simp] theorem bSl_eq (f : F) (l u : FO) : bSl f l u env st = (f env st).bind fun d st1 => (l env st1).bind fun lo st2 => (u env st2).bind fun hi st3 => kSl d lo hi st3 := rfl
@[simp] theorem oNone_eq : oNone env st = .ok none st := rfl
def toO (d : D) (st : Sto) : R (Option Int) := match d with
  | .int i => .ok (some i) st
  | _ => .stuck
@[simp] theorem toO_int (i : Int) : toO (.int i) st = .ok (some i) st := rfl
@[simp] theorem oSome_eq (f : F) : oSome f env st = (f env st).bind toO := rfl
@[simp] theorem bChain_eq (k k' : D → D → Sto → R D) (f g h : F) : bChain k k' f g h env st = (f env st).bind fun a st1 => (g env st1).bind fun b st2 => (rBl (k a b st2)).bind fun d st3 => if d = true then (h env st3).bind fun c st4 => k' b c st4 else .ok (.bl false) st3 := by
  unfold bChain rBl
  congr 1; funext a st1; congr 1; funext b st2
  cases k a b st2 with
  | ok d st' => cases d with
    | bl b => cases b <;> rfl
    | _ => rfl
  | exc x st' => rfl
  | stuck => rfl
def notV (d : D) (st : Sto) : R D := match d with
  | .bl b => .ok (.bl (!b)) st
  | _ => .stuck
@[simp] theorem notV_bl (b : Bool) : notV (.bl b) st = .ok (.bl (!b)) st := rfl
@[simp] theorem bNotV_eq (f : F) : bNotV f env st = (f env st).bind notV := rfl
def negV (d : D) (st : Sto) : R D := match d with
  | .int b => .ok (.int (-b)) st
  | _ => .stuck
@[simp] theorem negV_int (b : Int) : negV (.int b) st = .ok (.int (-b)) st := rfl
@[simp] theorem bNeg_eq (f : F) : bNeg f env st = (f env st).bind negV := rfl
@[simp] theorem bAndV_eq (f g : F) : bAndV f g env st = (rBl (f env st)).bind fun b st1 => if b = true then g env st1 else .ok (.bl false) st1 := by
  unfold bAndV rBl
  cases f env st with
  | ok d st' => cases d with
    | bl b => cases b <;> rfl
    | _ => rfl
  | exc x st' => rfl
  | stuck => rfl
@[simp] theorem bOrV_eq (f g : F) : bOrV f g env st = (rBl (f env st)).bind fun b st1 => if b = true then .ok (.bl true) st1 else g env st1 := by
  unfold bOrV rBl
  cases f env st with
  | ok d st' => cases d with
    | bl b => cases b <;> rfl
    | _ => rfl
  | exc x st' => rfl
  | stuck => rfl
@[simp] theorem bMethS_eq (k : D → D → Sto → R D) (f g : F) (x : Str) (h : f env st = .ok (.str x) st) : bMethS k f g env st = (g env st).bind fun d2 st2 => k (.str x) d2 st2 := by unfold bMethS; rw [h]; rfl
/-- tests -/
@[simp] theorem rBl_bl (b : Bool) : rBl (.ok (.bl b) st) = .ok b st := rfl
@[simp] theorem rBl_ite (c : Prop) [Decidable c] (r s : R D) : rBl (if c then r else s) = if c then rBl r else rBl s := by split <;> rfl
@[simp] theorem rBl_stuck : rBl .stuck = .stuck := rfl
@[simp] theorem rBl_exc : rBl (.exc x st) = .exc x st := rfl
@[simp] theorem bTst_eq (f : F) : bTst f env st = rBl (f env st) := rfl
@[simp] theorem bTru_eq (f : F) : bTru f env st = rTru (f env st) := rfl
@[simp] theorem rTru_bl (b : Bool) : rTru (.ok (.bl b) st) = .ok b st := rfl
@[simp] theorem rTru_int (i : Int) : rTru (.ok (.int i) st) = .ok (i != 0) st := rfl
@[simp] theorem rTru_non : rTru (.ok .non st) = .ok false st := rfl
@[simp] theorem rTru_lst (ds : List D) : rTru (.ok (.lst ds) st) = .ok (!ds.isEmpty) st := rfl
@[simp] theorem rTru_tup (ds : List D) : rTru (.ok (.tup ds) st) = .ok (!ds.isEmpty) st := rfl
@[simp] theorem rTru_str (y : Str) (h : y.length ≤ sizeLine) : rTru (.ok (.str y) st) = .ok ((y.length : Int) != 0) st := by
  show (match truD (.str y) st with | some b => R.ok b st | none => .stuck) = _
  unfold truD; simp only; rw [if_pos h]
@[simp] theorem rTru_ite (c : Prop) [Decidable c] (r s : R D) : rTru (if c then r else s) = if c then rTru r else rTru s := by split <;> rfl
@[simp] theorem bNotT_eq (f : FB) : bNotT f env st = (f env st).bind fun b st1 => .ok (!b) st1 := rfl
@[simp] theorem bAndT_eq (f g : FB) : bAndT f g env st = (f env st).bind fun b st1 => if b = true then g env st1 else .ok false st1 := rfl
@[simp] theorem bOrT_eq (f g : FB) : bOrT f g env st = (f env st).bind fun b st1 => if b = true then .ok true st1 else g env st1 := rfl
@[simp] theorem cYes_eq : cYes env st = .ok true st := rfl
/-- operations -/
@[simp] theorem kAdd_int (i j : Int) : kAdd (.int i) (.int j) st = .ok (.int (i + j)) st := rfl
@[simp] theorem kAdd_str (i j : Str) : kAdd (.str i) (.str j) st = if i.length + j.length ≤ sizeLine then .ok (.str (i ++ j)) st else .stuck := rfl
@[simp] theorem kAdd_lst (i j : List D) : kAdd (.lst i) (.lst j) st = if i.length + j.length ≤ sizeLine then .ok (.lst (i ++ j)) st else .stuck := rfl
@[simp] theorem kAdd_tup (i j : List D) : kAdd (.tup i) (.tup j) st = if i.length + j.length ≤ sizeLine then .ok (.tup (i ++ j)) st else .stuck := rfl
@[simp] theorem kSub_int (i j : Int) : kSub (.int i) (.int j) st = .ok (.int (i - j)) st := rfl
@[simp] theorem kMul_int (i j : Int) : kMul (.int i) (.int j) st = if (-(2 ^ 64) < i ∧ i < 2 ^ 64) ∨ (-(2 ^ 64) < j ∧ j < 2 ^ 64) then .ok (.int (i * j)) st else .stuck := rfl
@[simp] theorem kFdiv_int (i j : Int) : kFdiv (.int i) (.int j) st = if 0 < j ∧ j < 1073741824 then .ok (.int (i / j)) st else .stuck := rfl
@[simp] theorem kMod_int (i j : Int) : kMod (.int i) (.int j) st = if 0 < j then .ok (.int (i % j)) st else .stuck := rfl
@[simp] theorem kPow_int (i j : Int) : kPow (.int i) (.int j) st = if 0 ≤ j ∧ j ≤ 1000000 ∧ i.natAbs < 2 ^ 64 then .ok (.int (i ^ j.toNat)) st else .stuck := rfl
@[simp] theorem kCmp_int (p : Int → Int → Bool) (i j : Int) : kCmp p (.int i) (.int j) st = .ok (.bl (p i j)) st := rfl
@[simp] theorem kEq_int (i j : Int) : kEq (.int i) (.int j) st = .ok (.bl (decide (i = j))) st := rfl
@[simp] theorem kEq_str (i j : Str) : kEq (.str i) (.str j) st = .ok (.bl (decide (i = j))) st := rfl
@[simp] theorem kEq_bl (i j : Bool) : kEq (.bl i) (.bl j) st = .ok (.bl (decide (i = j))) st := rfl
@[simp] theorem kNe_int (i j : Int) : kNe (.int i) (.int j) st = .ok (.bl (!decide (i = j))) st := rfl
@[simp] theorem kNe_str (i j : Str) : kNe (.str i) (.str j) st = .ok (.bl (!decide (i = j))) st := rfl
@[simp] theorem kNe_bl (i j : Bool) : kNe (.bl i) (.bl j) st = .ok (.bl (!decide (i = j))) st := rfl
@[simp] theorem kIx_lst (ds : List D) (i : Int) : kIx (.lst ds) (.int i) st = match atI ds i with | some d => .ok d st | none => .stuck := rfl
@[simp] theorem kIx_tup (ds : List D) (i : Int) : kIx (.tup ds) (.int i) st = match atI ds i with | some d => .ok d st | none => .stuck := rfl
theorem kIx_lst_of {ds : List D} {i : Int} {d : D} (h : atI ds i = some d) : kIx (.lst ds) (.int i) st = .ok d st := by rw [kIx_lst, h]
theorem kIx_tup_of {ds : List D} {i : Int} {d : D} (h : atI ds i = some d) : kIx (.tup ds) (.int i) st = .ok d st := by rw [kIx_tup, h]
@[simp] theorem kAbs_int (i : Int) : kAbs [.int i] st = .ok (.int (if i < 0 then -i else i)) st := rfl
@[simp] theorem kMax2_int (i j : Int) : kMax2 [.int i, .int j] st = .ok (.int (if j > i then j else i)) st := rfl
@[simp] theorem kMin2_int (i j : Int) : kMin2 [.int i, .int j] st = .ok (.int (if j < i then j else i)) st := rfl
@[simp] theorem kInt_int (i : Int) : kInt [.int i] st = .ok (.int i) st := rfl
@[simp] theorem kInt_bl (b : Bool) : kInt [.bl b] st = .ok (.int (if b then 1 else 0)) st := rfl
@[simp] theorem kStr_int (i : Int) : kStr [.int i] st = if i.natAbs.log2 < 1920 then .ok (.str (toString i)) st else .stuck := rfl
@[simp] theorem kStr_str (i : Str) : kStr [.str i] st = .ok (.str i) st := rfl
@[simp] theorem kLen_lst (ds : List D) : kLen [.lst ds] st = .ok (.int (ds.length : Nat)) st := rfl
@[simp] theorem kLen_tup (ds : List D) : kLen [.tup ds] st = .ok (.int (ds.length : Nat)) st := rfl
@[simp] theorem kLen_str (y : Str) : kLen [.str y] st = if y.length ≤ sizeLine then .ok (.int (y.length : Nat)) st else .stuck := rfl
@[simp] theorem kList_lst (ds : List D) : kList [.lst ds] st = .ok (.lst ds) st := rfl
@[simp] theorem kList_tup (ds : List D) : kList [.tup ds] st = .ok (.lst ds) st := rfl
@[simp] theorem kTuple_lst (ds : List D) : kTuple [.lst ds] st = .ok (.tup ds) st := rfl
@[simp] theorem kTuple_tup (ds : List D) : kTuple [.tup ds] st = .ok (.tup ds) st := rfl
@[simp] theorem kSl_lst (ds : List D) (lo hi : Option Int) : kSl (.lst ds) lo hi st = .ok (.lst (cutD ds lo hi)) st := rfl
@[simp] theorem kSl_tup (ds : List D) (lo hi : Option Int) : kSl (.tup ds) lo hi st = .ok (.tup (cutD ds lo hi)) st := rfl
@[simp] theorem kSl_str (z : Str) (lo hi : Option Int) : kSl (.str z) lo hi st = if z.length ≤ sizeLine then .ok (.str (cutS z lo hi)) st else .stuck := rfl
/-- isinstance, is None -/
def isiV (t : String) (d : D) (st : Sto) : R D := match (tyD d st).bind fun a => isB a t with
  | some b => .ok (.bl b) st
  | none => .stuck
@[simp] theorem bIsi_eq (t : String) (f : F) : bIsi t f env st = (f env st).bind (isiV t) := rfl
theorem isiV_int_int (i : Int) : isiV "int" (.int i) st = .ok (.bl true) st := by rfl
theorem isiV_bool_int (i : Int) : isiV "bool" (.int i) st = .ok (.bl false) st := by rfl
theorem isiV_int_bl (i : Bool) : isiV "int" (.bl i) st = .ok (.bl true) st := by rfl
theorem isiV_bool_bl (i : Bool) : isiV "bool" (.bl i) st = .ok (.bl true) st := by rfl
theorem isiV_list_lst (i : List D) : isiV "list" (.lst i) st = .ok (.bl true) st := by rfl
theorem isiV_tuple_tup (i : List D) : isiV "tuple" (.tup i) st = .ok (.bl true) st := by rfl
theorem isiV_str_str (i : Str) : isiV "str" (.str i) st = .ok (.bl true) st := by rfl
theorem isiV_bool_non : isiV "bool" .non st = .ok (.bl false) st := by rfl
theorem isiV_int_non : isiV "int" .non st = .ok (.bl false) st := by rfl
def isN (d : D) (st : Sto) : R D := .ok (.bl d.isNon) st
@[simp] theorem bIsN_eq (f : F) : bIsN f env st = (f env st).bind isN := by
  show (f env st).bind _ = _
  congr 1; funext d st1; cases d <;> rfl
def notN (d : D) (st : Sto) : R D := .ok (.bl (!d.isNon)) st
@[simp] theorem bNotN_eq (f : F) : bNotN f env st = (f env st).bind notN := by
  show (f env st).bind _ = _
  congr 1; funext d st1; cases d <;> rfl
@[simp] theorem isN_non : isN .non st = .ok (.bl true) st := rfl
@[simp] theorem isN_int (i : Int) : isN (.int i) st = .ok (.bl false) st := rfl
@[simp] theorem isN_str (i : Str) : isN (.str i) st = .ok (.bl false) st := rfl
@[simp] theorem isN_tup (i : List D) : isN (.tup i) st = .ok (.bl false) st := rfl
@[simp] theorem isN_lst (i : List D) : isN (.lst i) st = .ok (.bl false) st := rfl
@[simp] theorem notN_non : notN .non st = .ok (.bl false) st := rfl
@[simp] theorem notN_int (i : Int) : notN (.int i) st = .ok (.bl true) st := rfl
@[simp] theorem notN_str (i : Str) : notN (.str i) st = .ok (.bl true) st := rfl
@[simp] theorem notN_tup (i : List D) : notN (.tup i) st = .ok (.bl true) st := rfl
@[simp] theorem notN_lst (i : List D) : notN (.lst i) st = .ok (.bl true) st := rfl
/-- stores -/
theorem sRetV_of {i : Nat} {fl : Fl} {d : D} (h : env[i]? = some (some (fl, d))) (n : fl ≠ .bor) (n2 : fl ≠ .exc) : sRetV i env st = .ret d st := by
  unfold sRetV; rw [h]; cases fl <;> first | rfl | exact absurd rfl n | exact absurd rfl n2
def setE (t : Tg) (env : Ev) (d : D) (st : Sto) : Out := match t d env with
  | some env' => .next env' st
  | none => .stuck
@[simp] theorem sAsg_eq (t : Tg) (f : F) : sAsg t f env st = (f env st).out env fun d st1 => setE t env d st1 := rfl
@[simp] theorem setE_name (i : Nat) (d : D) : setE (tgName i) env d st = if i < env.length then .next (env.set i (some (.frz, d))) st else .stuck := by
  unfold setE tgName
  by_cases h : i < env.length
  · rw [if_pos h, if_pos h]
  · rw [if_neg h, if_neg h]
@[simp] theorem sSet_eq (i : Nat) (f : F) : sSet i f env st = (f env st).out env fun d st1 => if i < env.length then .next (env.set i (slotOf d)) st1 else .stuck := rfl
@[simp] theorem slotOf_int (i : Int) : slotOf (.int i) = some (.frz, .int i) := rfl
@[simp] theorem slotOf_str (i : Str) : slotOf (.str i) = some (.frz, .str i) := rfl
@[simp] theorem slotOf_bl (i : Bool) : slotOf (.bl i) = some (.frz, .bl i) := rfl
@[simp] theorem slotOf_non : slotOf .non = some (.frz, .non) := rfl
@[simp] theorem slotOf_tup (i : List D) : slotOf (.tup i) = some (.frz, .tup i) := rfl
@[simp] theorem slotOf_lst (i : List D) : slotOf (.lst i) = some (.own, .lst i) := rfl
@[simp] theorem slotOf_loc (i : Nat) : slotOf (.loc i) = some (.frz, .loc i) := rfl
@[simp] theorem slotA_esc (d : D) : slotA (.esc, d) = some (.frz, d) := rfl
@[simp] theorem slotA_int (m : Md) (i : Int) : slotA (m, .int i) = some (.frz, .int i) := by cases m <;> rfl
@[simp] theorem slotA_str (m : Md) (i : Str) : slotA (m, .str i) = some (.frz, .str i) := by cases m <;> rfl
@[simp] theorem slotA_bl (m : Md) (i : Bool) : slotA (m, .bl i) = some (.frz, .bl i) := by cases m <;> rfl
@[simp] theorem slotA_non (m : Md) : slotA (m, .non) = some (.frz, .non) := by cases m <;> rfl
@[simp] theorem slotA_tup (m : Md) (i : List D) : slotA (m, .tup i) = some (.frz, .tup i) := by cases m <;> rfl
@[simp] theorem slotA_loc (m : Md) (i : Nat) : slotA (m, .loc i) = some (.frz, .loc i) := by cases m <;> rfl
def flM : Md → Fl
  | .rd => .bor
  | _ => .frz
@[simp] theorem slotA_lst (m : Md) (i : List D) : slotA (m, .lst i) = some (flM m, .lst i) := by cases m <;> rfl
@[simp] theorem bVarR_z3 (m : Md) (d : D) (r : Ev) : bVarR 0 (some (flM m, d) :: r) st = .ok d st := by cases m <;> rfl
@[simp] theorem flM_esc : flM .esc = .frz := rfl
@[simp] theorem flM_fr : flM .fr = .frz := rfl
@[simp] theorem flM_rd : flM .rd = .bor := rfl
theorem flM_own (m : Md) : flM m ≠ .own := by cases m <;> (intro z; cases z)
/-- runs -/
theorem runD_eq {np ns : Nat} {sh : FS} {as : List (Md × D)} (h : as.length = np) : runD np ns sh as st = fin (sh (startE as ns) st) := by unfold runD; rw [if_pos h]
@[simp] theorem sFor_eq (fi : FL) (t : Tg) (b : FS) (ds : List D) (h : fi env st = .ok ds st) : sFor fi t b env st = forL t b ds env st := by unfold sFor; rw [h]
/-- one turn -/
def turnO (t : Tg) (b : FS) (ds : List D) (o : Out) : Out := match o with
  | .next e s => forL t b ds e s
  | .cont e s => forL t b ds e s
  | .brk e s => .next e s
  | o => o
@[simp] theorem turn_next (t : Tg) (b : FS) (ds : List D) (e : Ev) : turnO t b ds (.next e st) = forL t b ds e st := rfl
@[simp] theorem turn_cont (t : Tg) (b : FS) (ds : List D) (e : Ev) : turnO t b ds (.cont e st) = forL t b ds e st := rfl
@[simp] theorem turn_brk (t : Tg) (b : FS) (ds : List D) (e : Ev) : turnO t b ds (.brk e st) = .next e st := rfl
@[simp] theorem turn_ret (t : Tg) (b : FS) (ds : List D) (d : D) : turnO t b ds (.ret d st) = .ret d st := rfl
@[simp] theorem turn_exc (t : Tg) (b : FS) (ds : List D) (e : Ev) : turnO t b ds (.exc x e st) = .exc x e st := rfl
@[simp] theorem turn_stuck (t : Tg) (b : FS) (ds : List D) : turnO t b ds .stuck = .stuck := rfl
@[simp] theorem turn_ite (c : Prop) [Decidable c] (t : Tg) (b : FS) (ds : List D) (r s : Out) : turnO t b ds (if c then r else s) = if c then turnO t b ds r else turnO t b ds s := by split <;> rfl
@[simp] theorem forL_nil (t : Tg) (b : FS) : forL t b [] env st = .next env st := rfl
theorem forL_cons {t : Tg} {b : FS} {d : D} {ds : List D} {env1 : Ev} (h : t d env = some env1) : forL t b (d :: ds) env st = turnO t b ds (b env1 st) := by
  show (match t d env with | none => _ | some env1 => _) = _
  rw [h]
  rfl
@[simp] theorem forL_name (i : Nat) (b : FS) (d : D) (ds : List D) (h : i < env.length) : forL (tgName i) b (d :: ds) env st = turnO (tgName i) b ds (b (env.set i (some (.frz, d))) st) := forL_cons (by unfold tgName; rw [if_pos h])
/-- a loop by what holds between its turns -/
theorem forL_inv {t : Tg} {b : FS} (Inv : Nat → Ev → Sto → Prop) {ds : List D} (h : ∀ i d env st, ds[i]? = some d → Inv i env st → ∃ env1 env2 st2, t d env = some env1 ∧ (b env1 st = .next env2 st2 ∨ b env1 st = .cont env2 st2) ∧ Inv (i + 1) env2 st2) :
    ∀ {env : Ev} {st : Sto}, Inv 0 env st → ∃ env' st', forL t b ds env st = .next env' st' ∧ Inv ds.length env' st' := by
  have key : ∀ (k : Nat) env st, k ≤ ds.length → Inv k env st → ∃ env' st', forL t b (ds.drop k) env st = .next env' st' ∧ Inv ds.length env' st' := by
    intro k
    induction hm : ds.length - k generalizing k with
    | zero =>
      intro env st hk hi
      have e : k = ds.length := by omega
      subst e
      rw [List.drop_length]
      exact ⟨env, st, rfl, hi⟩
    | succ m ih =>
      intro env st hk hi
      have hlt : k < ds.length := by omega
      obtain ⟨env1, env2, st2, h1, h2, h3⟩ := h k ds[k] env st (List.getElem?_eq_getElem hlt) hi
      rw [List.drop_eq_getElem_cons hlt, forL_cons h1]
      rcases h2 with h2 | h2 <;> rw [h2]
      · exact ih (k + 1) (by omega) env2 st2 (by omega) h3
      · exact ih (k + 1) (by omega) env2 st2 (by omega) h3
  intro env st h0
  have := key 0 env st (Nat.zero_le _) h0
  rwa [List.drop_zero] at this
theorem rngD_get {lo hi : Int} {i : Nat} {d : D} (h : (rngD lo hi)[i]? = some d) : d = .int (lo + i) ∧ (i : Int) < hi - lo := by
  have hi' : i < (hi - lo).toNat := by rw [← rngD_len]; exact (List.getElem?_eq_some_iff.mp h).1
  unfold rngD at h
  rw [List.getElem?_map, List.getElem?_range hi'] at h
  cases h
  exact ⟨rfl, by omega⟩
@[simp] theorem iRng1D_int (f : F) (n : Int) (h : f env st = .ok (.int n) st) (h1 : n ≤ sizeLine ∧ -(2 ^ 62) ≤ n) : iRng1D f env st = .ok (rngD 0 n) st := by
  unfold iRng1D; rw [h]; show (if _ then _ else _) = _; rw [if_pos h1]
@[simp] theorem iSeq_lst (f : F) (ds : List D) (h : f env st = .ok (.lst ds) st) : iSeq f env st = .ok ds st := by unfold iSeq; rw [h]; rfl
@[simp] theorem iSeq_tup (f : F) (ds : List D) (h : f env st = .ok (.tup ds) st) : iSeq f env st = .ok ds st := by unfold iSeq; rw [h]; rfl
end
end NC

/-! ### from the head's facts to the law -/
namespace NC
open PySem L2
/-- a def of the top -/
structure DefAt (K : PySem.W.Frag) (mg : Str → Option Value) (x : Str) (st : Stmt) : Prop where
  ex : ∃ (fa : Addr) (fd : FuncData), mg x = some (.ref fa) ∧ Fun K x x st fa fd
theorem defAt_mk {K : PySem.W.Frag} {mg : Str → Option Value} {h : Heap} {x : Str} {st : Stmt} {f : Addr} {oc : Value} {od an : Option Addr} {osl : Array (Option Value)} {kV doc pm cdv ct : Value} (X : K.In h) (G : h.Ns mainGlobals mg)
    (a : PySem.W.nsIn K mainGlobals x = some (some (.ref f))) (l : K.lookup f = some ⟨oc, od, .func (PySem.W.fnOf x x (defArgs st) (defBody st) (defScope st) .none kV doc pm an cdv ct), osl⟩)
    (c : PySem.W.codeIn K cdv x = true) (k : PySem.W.keepIn K (.ref f) = true) : DefAt K mg x st := ⟨f, _, PySem.W.mg_of X G a, fun_mk l c k⟩
def MoN (P : Program) (w : World) (T : Tb) (mg : Str → Option Value) (base : Heap) (Δ : Str → Option Df) (n : Nat) : Mo := ⟨P, w, T, mg, base, interp Δ n, n, false⟩
section
variable {P : Program} {w : World} {T : Tb} {mg : Str → Option Value} {base : Heap} {Δ : Str → Option Df} {n : Nat} {x : Str} {st : Stmt} {N ps : List Str} {sh : Calls → FS}
theorem callOk_zero (F : DefAt T.K mg x st)
    (hb : ∀ (kV doc pm : Value) (an : Option Addr) (cdv ct : Value) (us : List Value), us.length = ps.length → bindArgs (PySem.W.fnOf x x (defArgs st) (defBody st) (defScope st) .none kV doc pm an cdv ct) ⟨us, []⟩ = pure (ps.zip us)) : CallOk (MoN P w T mg base Δ 0) x := by
  obtain ⟨fa, fd, h1, h2⟩ := F.ex
  exact ⟨fa, fd, ps, h1, h2.kp, h2.binds hb, (fun _ => fn_ok0 fun _ _ => rfl), fun h => Bool.noConfusion h⟩
theorem callOk_succ (F : DefAt T.K mg x st) (S : FnScope N ps (defScope st))
    (hb : ∀ (kV doc pm : Value) (an : Option Addr) (cdv ct : Value) (us : List Value), us.length = ps.length → bindArgs (PySem.W.fnOf x x (defArgs st) (defBody st) (defScope st) .none kV doc pm an cdv ct) ⟨us, []⟩ = pure (ps.zip us))
    (snd : SndB ⟨N, defScope st, none⟩ (MoN P w T mg base Δ n) (defBody st) (sh (interp Δ n))) (hΔ : Δ x = some (dfD ps.length N.length sh)) : CallOk (MoN P w T mg base Δ (n + 1)) x := by
  obtain ⟨fa, fd, h1, h2⟩ := F.ex
  exact ⟨fa, fd, ps, h1, h2.kp, h2.binds hb, (fun _ => fn_ok h2 S snd fun as s => interp_eq hΔ as s), fun h => Bool.noConfusion h⟩
theorem globInt {M : Mo} {h : Heap} {K : PySem.W.Frag} {mg : Str → Option Value} {x : Str} {i : Int} {t : Tok} (hm : M.mg = mg) (X : K.In h) (G : h.Ns mainGlobals mg) (a : PySem.W.nsIn K mainGlobals x = some (some (.int i t))) : GlobOk M x (.int i) :=
  ⟨.int i, _, by rw [hm]; exact PySem.W.mg_of X G a, ⟨t, rfl⟩, fun _ _ => .int i⟩
theorem globStr {M : Mo} {h : Heap} {K : PySem.W.Frag} {mg : Str → Option Value} {x : Str} {i : Str} {t : Tok} (hm : M.mg = mg) (X : K.In h) (G : h.Ns mainGlobals mg) (a : PySem.W.nsIn K mainGlobals x = some (some (.str i t))) : GlobOk M x (.str i) :=
  ⟨.str i, _, by rw [hm]; exact PySem.W.mg_of X G a, ⟨t, rfl⟩, fun _ _ => .str i⟩
end
theorem bn_of {K : PySem.W.Frag} {h : Heap} {mg : Str → Option Value} (X : K.In h) (G : h.Ns mainGlobals mg)
    (a : ∀ x ∈ (["len", "range", "isinstance", "int", "bool", "str", "list", "tuple", "abs", "max", "min", "sum", "all", "any", "sorted", "enumerate", "zip", "dict", "reversed", "super"] : List Str), PySem.W.nsIn K mainGlobals x = some none) {M : Mo} (hm : M.mg = mg) : Bn M := fun x hx => by
  rw [hm]
  exact PySem.W.mg_none_of X G (a x (by simpa using hx))
end NC

/-! ### objects: fields, methods, classes -/
namespace NC
open PySem L2

theorem Flds.lookup {K : PySem.W.Frag} {w : Wd} {H : Hp} {f : Str} : ∀ {fd : List (Str × D)} {fv : List (Str × V)}, Flds K w H fv fd → (∀ d, fd.lookup f = some d → ∃ v, fv.lookup f = some v ∧ Rep K w H v d) ∧ (fd.lookup f = none → fv.lookup f = none)
  | [], fv, ⟨h1, h2⟩ => by
    cases fv with
    | nil => exact ⟨fun d e => by simp at e, fun _ => rfl⟩
    | cons p r => simp at h1
  | (g, x) :: fd, fv, ⟨h1, h2⟩ => by
    cases fv with
    | nil => simp at h1
    | cons p r =>
      obtain ⟨g', v⟩ := p
      rw [List.map_cons, List.map_cons] at h1 h2
      obtain ⟨e1, e2⟩ := List.cons.inj h1
      cases h2 with
      | cons r1 r2 =>
        obtain ⟨i1, i2⟩ := Flds.lookup (f := f) (fd := fd) (fv := r) ⟨e2, r2⟩
        simp only at e1
        subst e1
        by_cases hf : f = g'
        · subst hf
          exact ⟨fun d e => by simp [List.lookup] at e; subst e; exact ⟨v, by simp [List.lookup], r1⟩, fun e => by simp [List.lookup] at e⟩
        · have hb : (f == g') = false := by simpa using hf
          simp only [List.lookup, hb]
          exact ⟨i1, i2⟩
def putD (f : Str) (d : D) : List (Str × D) → List (Str × D)
  | [] => [(f, d)]
  | (g, x) :: r => if g = f then (g, d) :: r else (g, x) :: putD f d r
theorem Flds.put {K : PySem.W.Frag} {w : Wd} {H : Hp} {f : Str} {v : V} {d : D} (r : Rep K w H v d) : ∀ {fd : List (Str × D)} {fv : List (Str × V)}, Flds K w H fv fd → Flds K w H (putF f v fv) (putD f d fd)
  | [], fv, ⟨h1, h2⟩ => by
    cases fv with
    | nil => exact ⟨rfl, .cons r .nil⟩
    | cons p r => simp at h1
  | (g, x) :: fd, fv, ⟨h1, h2⟩ => by
    cases fv with
    | nil => simp at h1
    | cons p q =>
      obtain ⟨g', y⟩ := p
      rw [List.map_cons, List.map_cons] at h1 h2
      obtain ⟨e1, e2⟩ := List.cons.inj h1
      cases h2 with
      | cons r1 r2 =>
        simp only at e1
        subst e1
        unfold putD putF
        by_cases hf : g' = f
        · rw [if_pos hf, if_pos hf]
          exact ⟨by rw [List.map_cons, List.map_cons, e2], .cons r r2⟩
        · rw [if_neg hf, if_neg hf]
          obtain ⟨i1, i2⟩ := Flds.put (f := f) r (fd := fd) (fv := q) ⟨e2, r2⟩
          exact ⟨by rw [List.map_cons, List.map_cons, i1], .cons r1 i2⟩
theorem putD_keys {f : Str} {d : D} : ∀ {fs : List (Str × D)} {p : Str × D}, p ∈ putD f d fs → p.1 = f ∨ ∃ q ∈ fs, q.1 = p.1
  | [], p, h => by simp [putD] at h; subst h; exact .inl rfl
  | (g, x) :: r, p, h => by
    unfold putD at h
    split at h
    · rename_i e
      rcases List.mem_cons.mp h with h | h
      · subst h; exact .inl e
      · exact .inr ⟨p, List.mem_cons_of_mem _ h, rfl⟩
    · rcases List.mem_cons.mp h with h | h
      · subst h; exact .inr ⟨_, List.mem_cons_self .., rfl⟩
      · rcases putD_keys h with h | ⟨q, hq, e⟩
        · exact .inl h
        · exact .inr ⟨q, List.mem_cons_of_mem _ hq, e⟩
theorem Flds.len {K : PySem.W.Frag} {w : Wd} {H : Hp} {fd : List (Str × D)} {fv : List (Str × V)} (h : Flds K w H fv fd) : fv.length = fd.length := by
  have := congrArg List.length h.1
  simpa using this

/-- a cell of the store changes -/
theorem Le.cell {w : Wd} {H : Hp} {a : Addr} {o : HO} (ha : a ∈ w.r) : Le w H w (upd H a o) := by
  refine ⟨fun _ _ e => e, fun b u e n => ?_, fun b u e => ?_, fun _ h => .inl h, fun _ h => .inl h, fun _ h => h⟩
  · rw [upd_ne (fun z => n (by rw [z]; exact ha))]; exact e
  · by_cases hb : b = a
    · rw [hb, upd_same]; exact ⟨_, rfl⟩
    · rw [upd_ne hb]; exact ⟨u, e⟩
theorem nd_get {l : List Addr} (h : l.Nodup) {i j : Nat} {a : Addr} (h1 : l[i]? = some a) (h2 : l[j]? = some a) : i = j := by
  have hi : i < l.length := by
    rcases Nat.lt_or_ge i l.length with z | z
    · exact z
    · rw [List.getElem?_eq_none z] at h1; cases h1
  exact (List.getElem?_inj hi h).mp (h1.trans h2.symm)
theorem Sim.cell {T : Tb} {B : Bs} {w : Wd} {env : Ev} {st : Sto} {σ : L2.St} {H : Hp} {n : Nat} {a : Addr} {o : HO} {c' : Cell} (s : Sim T B w env st σ H) (ha : w.r[n]? = some a) (hc : CellOk T w (upd H a o) a c') : Sim T B w env (st.set n c') σ (upd H a o) := by
  have hm : a ∈ w.r := List.mem_of_getElem? ha
  have l : Le w H w (upd H a o) := Le.cell hm
  have k := l.ok2 s.sto
  refine s.go l (fun _ z => z) ⟨by rw [List.length_set]; exact s.sto.len, s.sto.nd, fun i c b h1 h2 => ?_⟩ fun b z => ?_
  · rcases Nat.decEq n i with q | q
    · rw [List.getElem?_set_ne q] at h1
      have hb : b ≠ a := fun e => q (nd_get s.sto.nd ha (e ▸ h2))
      exact (s.sto.at_ i c b h1 h2).to k (upd_ne hb)
    · subst q
      have hlt : n < st.length := by
        rcases Nat.lt_or_ge n st.length with z | z
        · exact z
        · rw [List.getElem?_eq_none (by simpa using z)] at h1; cases h1
      rw [List.getElem?_set_self hlt] at h1
      cases h1
      rw [ha] at h2
      cases h2
      exact hc
  · obtain ⟨h1, h2⟩ := s.al b z
    refine ⟨?_, h2⟩
    rw [upd_ne (fun e => h2 (by rw [e]; exact hm))]
    exact h1

/-! ### reading a field -/
def getF (f : Str) (st : Sto) : D → R D
  | .loc n => match st[n]? with
    | some (.ins _ fs) => match fs.lookup f with
      | some d => .ok d st
      | none => .stuck
    | _ => .stuck
  | _ => .stuck
theorem getF_cases {f : Str} {st : Sto} {n : Nat} : getF f st (.loc n) = .stuck ∨ ∃ c fs d, st[n]? = some (.ins c fs) ∧ fs.lookup f = some d ∧ getF f st (.loc n) = .ok d st := by
  unfold getF
  dsimp only
  cases q : st[n]? with
  | none => exact .inl rfl
  | some z =>
    cases z with
    | ins c fs =>
      dsimp only
      cases q2 : fs.lookup f with
      | none => exact .inl rfl
      | some d => exact .inr ⟨c, fs, d, rfl, q2, rfl⟩
    | lst ds => exact .inl rfl
    | dic t kvs => exact .inl rfl
def bAttr (f : Str) (e : F) : F := fun env st => (e env st).bind fun d st1 => getF f st1 d
section
variable {G : Ct} {M : Mo} {m : Md} {ms : List Md} {X : Cx} {C : Cf} {a b c e o tg : Expr} {es : List Expr} {f g h fe fo : F} {fb : FB} {fl : FL} {p1 pos pos' apos : Pos} {i : Nat} {x : Str}
theorem lookup_mem {f : Str} {d : D} : ∀ {fs : List (Str × D)}, fs.lookup f = some d → ∃ p ∈ fs, p.1 = f
  | [], h => by simp at h
  | (g, y) :: r, h => by
    by_cases hf : f = g
    · exact ⟨_, List.mem_cons_self .., hf.symm⟩
    · have hb : (f == g) = false := by simpa using hf
      simp only [List.lookup, hb] at h
      obtain ⟨p, hp, e⟩ := lookup_mem h
      exact ⟨p, List.mem_cons_of_mem _ hp, e⟩
theorem sn_attr (he : SndE G M .rd e fe) (hb : ∀ env, attributeBase e x env (eval e env) = eval e env := by intro _; rfl) : SndE G M .esc (.Attribute e x pos) (bAttr x fe) := fun X C gd => by
  have hK : X.K = C.T.K := by rw [gd.K, gd.T]
  refine (pe_fld (he X C gd) (hb _)).imp fun σ H Q ⟨w, env, st, s, p⟩ => ⟨w, env, st, s, PostE.bind p fun d st1 w1 v1 H1 l1 s1 r1 p1 => ?_⟩
  cases d with
  | loc n =>
    obtain ⟨a, rfl, e3⟩ := RepR.loc r1
    rcases getF_cases (f := x) (st := st1) (n := n) with z | ⟨c, fs, d, q, q2, z⟩
    · rw [z] at p1; exact p1.elim
    · rw [z] at p1
      obtain ⟨C0, dx, fv, ⟨k0, k1, k2⟩, k3, k4⟩ := s1.sto.at_ n _ a q e3
      obtain ⟨v, hv, rv⟩ := (Flds.lookup (f := x) k4).1 d q2
      obtain ⟨p0, hp0, e0⟩ := lookup_mem q2
      refine ⟨a, C0, dx, fv, v, rfl, k3, by rw [hK]; exact k1, by rw [hK, ← e0]; exact k2 p0 hp0, hv, ?_⟩
      exact p1 w1 v H1 (.refl _ _) s1 rv
  | _ => exact p1.elim

/-! ### storing a field -/
def setF (cs : List Str) (f : Str) (d : D) (st : Sto) : D → Option Sto
  | .loc n => match st[n]? with
    | some (.ins c fs) => if cs.contains c = true ∧ fs.length < 1000 then some (st.set n (.ins c (putD f d fs))) else none
    | _ => none
  | _ => none
theorem setF_cases {cs : List Str} {f : Str} {d : D} {st : Sto} {n : Nat} : setF cs f d st (.loc n) = none ∨ ∃ c fs, st[n]? = some (.ins c fs) ∧ cs.contains c = true ∧ fs.length < 1000 ∧ setF cs f d st (.loc n) = some (st.set n (.ins c (putD f d fs))) := by
  unfold setF
  dsimp only
  cases q : st[n]? with
  | none => exact .inl rfl
  | some z =>
    cases z with
    | ins c fs =>
      dsimp only
      by_cases h : cs.contains c = true ∧ fs.length < 1000
      · rw [if_pos h]; exact .inr ⟨c, fs, rfl, h.1, h.2, rfl⟩
      · rw [if_neg h]; exact .inl rfl
    | lst ds => exact .inl rfl
    | dic t kvs => exact .inl rfl
def sFldD (cs : List Str) (f : Str) (fo fe : F) : FS := fun env st => (fe env st).out env fun d st1 => (fo env st1).out env fun o st2 => match setF cs f d st2 o with
  | some st3 => .next env st3
  | none => .stuck
theorem ss_fld {cs : List Str} (ho : SndE G M .rd o fo) (he : SndE G M .esc e fe) (hn : ∀ c, cs.contains c = true → ∀ C, M.T.cls c = some C → NoAttr M.T.K C x)
    (hs : ∀ env, swapsWith e (some (.Attribute o x pos')) pos.line env = pure false := by intro _; rfl) : SndS G M (.Assign [.Attribute o x pos'] e pos) (sFldD cs x fo fe) := fun X C gd => by
  have hK : X.K = C.T.K := by rw [gd.K, gd.T]
  refine (ps_fld (ho X C gd) (he X C gd) (hs _)).imp fun E σ H ⟨w, env, st, s, p⟩ => ⟨w, env, st, s, PostS.bind p fun d st1 w1 v1 H1 l1 s1 r1 p1 => ⟨w1, env, st1, s1, PostS.bind p1 fun oo st2 w2 v2 H2 l2 s2 r2 p2 => ?_⟩⟩
  cases oo with
  | loc n =>
    obtain ⟨a, rfl, e3⟩ := RepR.loc r2
    rcases setF_cases (cs := cs) (f := x) (d := d) (st := st2) (n := n) with z | ⟨c, fs, q1, q2, q3, z⟩
    · rw [z] at p2; exact p2.elim
    · rw [z] at p2
      obtain ⟨C0, dx, fv, ⟨k0, k1, k2⟩, k3, k4⟩ := s2.sto.at_ n _ a q1 e3
      have rv : Rep C.T.K w2 H2 v1 d := Rep.to (l2.ok2 s1.sto) _ _ r1
      have nn : NoAttr C.T.K C0 x := by rw [gd.T]; exact hn c q2 C0 (by rw [← gd.T]; exact k0)
      refine ⟨a, C0, dx, fv, rfl, k3, by rw [hK]; exact k1, by rw [hK]; exact nn, by rw [k4.len]; exact q3, ?_⟩
      have hm : a ∈ w2.r := List.mem_of_getElem? e3
      have k := (Le.cell (H := H2) (o := .ins C0 dx (putF x v1 fv)) hm).ok2 s2.sto
      have k5 := Flds.put (f := x) rv k4
      have hc : CellOk C.T w2 (upd H2 a (.ins C0 dx (putF x v1 fv))) a (.ins c (putD x d fs)) := ⟨C0, dx, _, ⟨k0, k1, fun p hp => by
        rcases putD_keys hp with z | ⟨q, hq, z⟩
        · rw [z]; exact nn
        · rw [← z]; exact k2 q hq⟩, upd_same, k5.1, Reps.to k _ _ k5.2⟩
      exact p2 w2 σ _ (s2.cell e3 hc)
  | _ => exact p2.elim

/-! ### a new list as an object of the store -/
def bRef (f : F) : F := fun env st => (f env st).bind fun d st1 => match d with
  | .lst ds => .ok (.loc st1.length) (st1 ++ [.lst ds])
  | _ => .stuck
theorem sn_ref (hf : SndE G M .fr e f) : SndE G M .esc e (bRef f) := fun X C gd => by
  refine (hf X C gd).imp fun σ H Q ⟨w, env, st, s0, p⟩ => ⟨w, env, st, s0, ?_⟩
  unfold bRef at p
  cases q : f env st with
  | stuck => rw [q] at p; exact p.elim
  | exc x st' => rw [q] at p; exact p
  | ok d st' =>
    rw [q] at p
    intro w' v H' l s rep
    cases d with
    | lst ds =>
      obtain ⟨a, vs, e1, e2, e3, e4, e5⟩ := rep
      subst e1
      have nb : ∀ b, H b ≠ none → b ≠ a := fun b hb z => hb (z ▸ e3)
      have nr : a ∉ w'.r := (s.al a e4).2
      let w2 : Wd := ⟨fun b => w'.S b ∧ b ≠ a, w'.r ++ [a]⟩
      have pre2 : ∀ (n : Nat) b, w'.r[n]? = some b → w2.r[n]? = some b := fun n b e => by
        show (w'.r ++ [a])[n]? = some b
        rw [List.getElem?_append_left]
        · exact e
        · rcases Nat.lt_or_ge n w'.r.length with z | z
          · exact z
          · rw [List.getElem?_eq_none z] at e; cases e
      have nm : ∀ b, b ∉ w'.r → b ≠ a → b ∉ w2.r := fun b h1 h2 z => by
        rcases List.mem_append.mp z with z | z
        · exact h1 z
        · exact h2 (List.mem_singleton.mp z)
      have ok : Ok2 w' H' w2 H' := ⟨pre2, fun _ _ e _ => e, fun b u e n1 n2 => ⟨e, fun z => n1 z.1, nm b n2 fun z => n1 (z ▸ e4)⟩⟩
      have Ba : C.B.H a = none := by
        cases q1 : C.B.H a with
        | none => rfl
        | some o => obtain ⟨o', e'⟩ := s0.le.live a o q1; rw [e3] at e'; cases e'
      have nB : ∀ b, C.B.w.S b → b ≠ a := fun b z e => s.bal b z (e ▸ Ba)
      have s' : Sim C.T C.B w2 env (st' ++ [.lst ds]) σ H' := by
        refine ⟨s.len, fun i sl e => ?_, s.dist, ⟨?_, ?_, fun i c b h1 h2 => ?_⟩, fun b z => ⟨(s.al b z.1).1, nm b (s.al b z.1).2 z.2⟩, ⟨fun n b e => pre2 n b (s.le.pre n b e), s.le.fr, s.le.live, fun b z => ?_, fun b z => s.le.S b z.1, fun b z => ⟨s.sub b z, nB b z⟩⟩, fun b z => ⟨s.sub b z, nB b z⟩, s.bal,
          fun p hp => (s.pin p hp).to ok fun a0 u e n b => ⟨e, nm a0 n fun z => b (z ▸ Ba)⟩⟩
        · have q := s.slot i sl e
          have q0 := s0.slot i sl e
          match sl, q, q0 with
          | none, _, _ => trivial
          | some (.frz, d), ⟨v, e, r⟩, _ => exact ⟨v, e, Rep.to ok _ _ r⟩
          | some (.own, d), ⟨b, us, ds, f1, f2, f3, r, f4, f5⟩, ⟨b', us', ds', g1, g2, g3, _⟩ =>
            rw [g1] at f1; cases f1
            exact ⟨_, us, ds, g1, f2, f3, Reps.to ok _ _ r, ⟨f4, nb _ (by rw [g3]; intro z; cases z)⟩, f5⟩
          | some (.bor, d), ⟨b, us, ds, f1, f2, r, f4⟩, _ => exact ⟨b, us, ds, f1, f2, Reps.to ok _ _ r, f4.to fun a0 u e n bb => ⟨e, nm a0 n fun z => bb (z ▸ Ba)⟩⟩
          | some (.exc, d), ⟨b, c, cls, dd, f, v0, ee, g1, g2, g3, g4, g5, g6, r⟩, _ => exact ⟨b, c, cls, dd, f, v0, ee, g1, g2, g3, g4, fun z => g5 z.1, nm dd g6 fun z => g5 (by rw [z]; exact e4), Rep.to ok _ _ r⟩
        · show (st' ++ [Cell.lst ds]).length = (w'.r ++ [a]).length
          rw [List.length_append, List.length_append, s.sto.len]; rfl
        · show (w'.r ++ [a]).Nodup
          refine List.nodup_append.mpr ⟨s.sto.nd, by simp, fun b hb c hc e => nr ?_⟩
          rw [List.mem_singleton.mp hc] at e
          exact e ▸ hb
        · by_cases hi : i < st'.length
          · rw [List.getElem?_append_left hi] at h1
            have h2' : w'.r[i]? = some b := by
              have := h2
              rw [show w2.r = w'.r ++ [a] from rfl, List.getElem?_append_left (by rw [← s.sto.len]; exact hi)] at this
              exact this
            exact (s.sto.at_ i c b h1 h2').to ok rfl
          · have hi2 : st'.length ≤ i := Nat.le_of_not_lt hi
            rw [List.getElem?_append_right hi2] at h1
            rw [show w2.r = w'.r ++ [a] from rfl, List.getElem?_append_right (by rw [← s.sto.len]; exact hi2), ← s.sto.len] at h2
            match hk : i - st'.length, h1, h2 with
            | 0, h1, h2 =>
              cases h1; cases h2
              exact ⟨vs, e2, Reps.to ok _ _ e5⟩
            | k + 1, h1, h2 => simp at h1
        · rcases List.mem_append.mp z with z | z
          · exact s.le.new b z
          · rw [List.mem_singleton.mp z]; exact .inr Ba
      refine p w2 (.ref a) H' ⟨fun n b e => pre2 n b (l.pre n b e), l.fr, l.live, fun b z => ?_, fun b z => l.S b z.1, fun b z => ⟨l.Sm b z, nb b (s0.al b z).1⟩⟩ s' (.loc ?_)
      · rcases List.mem_append.mp z with z | z
        · exact l.new b z
        · rw [List.mem_singleton.mp z]; exact .inr e3
      · show (w'.r ++ [a])[st'.length]? = some a
        rw [s.sto.len, List.getElem?_append_right (Nat.le_refl _), Nat.sub_self]; rfl
    | _ => exact p.elim

/-! ### methods -/
def tMethD (X : Cx) (W : WX) (k : Nat) (m : Str) (ta : TE) (t : TA) : TE := fun σ H Q => ta σ H fun x H1 => ∃ (a C dx : Addr) (fs : List (Str × V)) (f : Addr) (fd : FuncData) (ps : List Str) (sp : Sp), x = .ref a ∧ H1 a = some (.ins C dx fs) ∧ Cls X.K C ∧ Meth X.K C m f ∧ fs.lookup m = none ∧ Binds X.K fd ps [] ∧
  FnOk X.prog X.w X.K X.mg X.base (L2N.CX X.prog X.w) k f fd ps sp ∧ t σ H1 fun vs H2 => sp (.ref a :: vs) H2 Q (WE W σ)
theorem pe_methD {X : Cx} {W : WX} {k : Nat} {m : Str} {ta : TE} {t : TA} {pl : Sem Bool} (he : PE X o ta) (hr : Room k X.A) (hx : ∀ σ, PassesAt (L2N.CX X.prog X.w) X σ (WE W σ)) (ha : PA X (e :: es) t)
    (hst : starEach (e :: es) X.env = (false, eval e X.env) :: starEach es X.env) (hpl : (backTo pos (starEach es X.env)).any (·.1) = false)
    (ht : eval (.Call (.Attribute o m apos) (e :: es) [] pos) X.env = (do
      let ov ← eval o X.env
      standAt apos.atName
      let (f, first) ← holding [ov] (getMethod ov m pl)
      callWith pos f first (backTo pos (starEach (e :: es) X.env)) (backToKw pos (keywordEach [] X.env)))) :
    PE X (.Call (.Attribute o m apos) (e :: es) [] pos) (tMethD X W k m ta t) := by
  refine ⟨fun pins s σ H Q I h => ?_⟩
  refine PySem.W.methodCall_KW (pl := pl) (thn (he.run pins s σ H _ I h) fun u s1 ⟨x, H1, I1, rx, a, C, dx, fs, f, fd, ps, sp, ex, ea, c, hm, l, hb, F, q⟩ => ?_) ht
  subst ex
  obtain rfl : u = Value.ref a := rx
  refine getmeth_ok I1 ea c hm l ?_
  refine PySem.W.callWith_K (first := [.ref a]) (h₀ := X.base) I.ok.mod.kin hm.kp (thn (ha.run pos pins s1 σ H1 _ I1 q) fun us s2 ⟨vs, H2, I2, r, q2⟩ => ⟨I2.kIn, ?_⟩) hst hpl
  exact run_fnS (us := .ref a :: us) (vs := .ref a :: vs) F hr hb (hx σ) I2 (.cons rfl r) q2
theorem pe_methD0 {X : Cx} {W : WX} {k : Nat} {m : Str} {ta : TE} {pl : Sem Bool} (he : PE X o ta) (hr : Room k X.A) (hx : ∀ σ, PassesAt (L2N.CX X.prog X.w) X σ (WE W σ))
    (ht : eval (.Call (.Attribute o m apos) [] [] pos) X.env = (do
      let ov ← eval o X.env
      standAt apos.atName
      let (f, first) ← holding [ov] (getMethod ov m pl)
      callWith pos f first (backTo pos (starEach [] X.env)) (backToKw pos (keywordEach [] X.env)))) :
    PE X (.Call (.Attribute o m apos) [] [] pos) (tMethD X W k m ta tNil) := by
  refine ⟨fun pins s σ H Q I h => ?_⟩
  refine PySem.W.methodCall_KW (pl := pl) (thn (he.run pins s σ H _ I h) fun u s1 ⟨x, H1, I1, rx, a, C, dx, fs, f, fd, ps, sp, ex, ea, c, hm, l, hb, F, q⟩ => ?_) ht
  subst ex
  obtain rfl : u = Value.ref a := rx
  refine getmeth_ok I1 ea c hm l ?_
  exact PySem.W.callWith_K0 (first := [.ref a]) I1.kIn hm.kp (run_fnS (us := [.ref a]) (vs := [.ref a]) F hr hb (hx σ) I1 (.cons rfl .nil) q)
end
end NC

/-! ### methods and classes that are called -/
namespace NC
open PySem L2


structure MethOk (M : Mo) (c m x : Str) : Prop where
  ex : ∃ (C fa : Addr) (fd : FuncData) (ps : List Str), M.T.cls c = some C ∧ Meth M.T.K C m fa ∧ Binds M.T.K fd ps [] ∧ FnOk M.P M.w M.T.K M.mg M.base (L2N.CX M.P M.w) M.n fa fd ps (spOf M.T M.cl x)
/-- which def a method's name means -/
def disp (tab : List (Str × Str)) (m : Str) (st : Sto) : D → Option Str
  | .loc n => match st[n]? with
    | some (.ins c fs) => if (fs.lookup m).isNone = true then tab.lookup c else none
    | _ => none
  | _ => none
theorem disp_cases {tab : List (Str × Str)} {m : Str} {st : Sto} {n : Nat} : disp tab m st (.loc n) = none ∨ ∃ c fs x, st[n]? = some (.ins c fs) ∧ fs.lookup m = none ∧ tab.lookup c = some x ∧ disp tab m st (.loc n) = some x := by
  unfold disp
  dsimp only
  cases q : st[n]? with
  | none => exact .inl rfl
  | some z =>
    cases z with
    | ins c fs =>
      dsimp only
      by_cases h : (fs.lookup m).isNone = true
      · rw [if_pos h]
        cases q2 : tab.lookup c with
        | none => exact .inl rfl
        | some x => exact .inr ⟨c, fs, x, rfl, Option.isNone_iff_eq_none.mp h, q2, rfl⟩
      · rw [if_neg h]; exact .inl rfl
    | lst ds => exact .inl rfl
    | dic t kvs => exact .inl rfl
def bMeth (cl : Calls) (tab : List (Str × Str)) (m : Str) (fo : F) (ms : List Md) (fl : FL) : F := fun env st => (fo env st).bind fun o st1 => match disp tab m st1 o with
  | some x => (fl env st1).bind fun ds st2 => cl x ((.esc, o) :: ms.zip ds) st2
  | none => .stuck
def bMeth0 (cl : Calls) (tab : List (Str × Str)) (m : Str) (fo : F) : F := fun env st => (fo env st).bind fun o st1 => match disp tab m st1 o with
  | some x => cl x [(.esc, o)] st1
  | none => .stuck
section
variable {G : Ct} {M : Mo} {m : Md} {ms : List Md} {X : Cx} {C : Cf} {a b c e o tg : Expr} {es : List Expr} {f g h fe fo : F} {fb : FB} {fl : FL} {p1 pos pos' apos : Pos} {i : Nat} {x : Str}
theorem sn_meth {tab : List (Str × Str)} (hm : M.hot = false) (htab : ∀ c y, tab.lookup c = some y → MethOk M c x y) (ho : SndE G M .rd o fo) (ha : SndL G M ms (e :: es) fl)
    (he : ∀ env, starEach (e :: es) env = (false, eval e env) :: starEach es env := by intro _; rfl) (hpl : ∀ env, (backTo pos (starEach es env)).any (·.1) = false := by intro _; rfl) {pl : Env → Sem Bool}
    (ht : ∀ env, eval (.Call (.Attribute o x apos) (e :: es) [] pos) env = (do
      let ov ← eval o env
      standAt apos.atName
      let (f, first) ← holding [ov] (getMethod ov x (pl env))
      callWith pos f first (backTo pos (starEach (e :: es) env)) (backToKw pos (keywordEach [] env))) := by intro _; rfl) : SndE G M .esc (.Call (.Attribute o x apos) (e :: es) [] pos) (bMeth M.cl tab x fo ms fl) := fun X C gd => by
  have hK : X.K = C.T.K := by rw [gd.K, gd.T]
  refine (pe_methD (W := C.W) (ho X C gd) (gd.cold hm).2.1 (fun σ => L2N.passAt gd.tk σ) (ha X C gd) (he _) (hpl _) (ht _)).imp fun σ H Q ⟨w, env, st, s, p⟩ => ⟨w, env, st, s, PostE.bind p fun d st1 w1 v1 H1 l1 s1 r1 p1 => ?_⟩
  cases d with
  | loc n =>
    obtain ⟨a, rfl, e3⟩ := RepR.loc r1
    rcases disp_cases (tab := tab) (m := x) (st := st1) (n := n) with z | ⟨c, fs, y, q, q2, q3, z⟩
    · rw [z] at p1; exact p1.elim
    · rw [z] at p1
      obtain ⟨C0, dx, fv, ⟨k0, k1, k2⟩, k3, k4⟩ := s1.sto.at_ n _ a q e3
      obtain ⟨C1, fa, fd, ps, j0, j1, j2, j3⟩ := (htab c y q3).ex
      rw [← gd.T, k0] at j0
      cases j0
      refine ⟨a, C0, dx, fv, fa, fd, ps, spOf M.T M.cl y, rfl, k3, by rw [hK]; exact k1, by rw [gd.K]; exact j1, (Flds.lookup (f := x) k4).2 q2, by rw [gd.K]; exact j2, by rw [gd.p, gd.w, gd.K, gd.mg, gd.base]; exact j3, w1, env, st1, s1, ?_⟩
      refine PostE.bindL p1 fun ds st2 w2 vs H2 l2 s2 r2 p2 => ?_
      rw [← gd.T]
      exact ⟨(.esc, .loc n) :: ms.zip ds, w2, st2, by rw [List.map_cons, List.map_cons, zip_fst r2.len2, zip_snd r2.len2]; exact .esc (.loc (l2.pre n a e3)) r2, s2.sto, s2.al, p2.call s2⟩
  | _ => exact p1.elim
theorem sn_meth0 {tab : List (Str × Str)} (hm : M.hot = false) (htab : ∀ c y, tab.lookup c = some y → MethOk M c x y) (ho : SndE G M .rd o fo) {pl : Env → Sem Bool}
    (ht : ∀ env, eval (.Call (.Attribute o x apos) [] [] pos) env = (do
      let ov ← eval o env
      standAt apos.atName
      let (f, first) ← holding [ov] (getMethod ov x (pl env))
      callWith pos f first (backTo pos (starEach [] env)) (backToKw pos (keywordEach [] env))) := by intro _; rfl) : SndE G M .esc (.Call (.Attribute o x apos) [] [] pos) (bMeth0 M.cl tab x fo) := fun X C gd => by
  have hK : X.K = C.T.K := by rw [gd.K, gd.T]
  refine (pe_methD0 (W := C.W) (ho X C gd) (gd.cold hm).2.1 (fun σ => L2N.passAt gd.tk σ) (ht _)).imp fun σ H Q ⟨w, env, st, s, p⟩ => ⟨w, env, st, s, PostE.bind p fun d st1 w1 v1 H1 l1 s1 r1 p1 => ?_⟩
  cases d with
  | loc n =>
    obtain ⟨a, rfl, e3⟩ := RepR.loc r1
    rcases disp_cases (tab := tab) (m := x) (st := st1) (n := n) with z | ⟨c, fs, y, q, q2, q3, z⟩
    · rw [z] at p1; exact p1.elim
    · rw [z] at p1
      obtain ⟨C0, dx, fv, ⟨k0, k1, k2⟩, k3, k4⟩ := s1.sto.at_ n _ a q e3
      obtain ⟨C1, fa, fd, ps, j0, j1, j2, j3⟩ := (htab c y q3).ex
      rw [← gd.T, k0] at j0
      cases j0
      refine ⟨a, C0, dx, fv, fa, fd, ps, spOf M.T M.cl y, rfl, k3, by rw [hK]; exact k1, by rw [gd.K]; exact j1, (Flds.lookup (f := x) k4).2 q2, by rw [gd.K]; exact j2, by rw [gd.p, gd.w, gd.K, gd.mg, gd.base]; exact j3, ?_⟩
      rw [← gd.T]
      exact ⟨[(.esc, .loc n)], w1, st1, .esc (.loc e3) .nil, s1.sto, s1.al, PostE.call p1 s1⟩
  | _ => exact p1.elim

/-! a class -/
open PyProof.Rows in
theorem run_makeS {X : Cx} {CX : CXT} {k : Nat} {f C : Addr} {fd : FuncData} {ps : List Str} {sp : Sp} {dvs : List V} {ds : List Value} {E : L2.St → XK} {pins : List (Addr × Obj)} {σ : L2.St} {H : Hp} {s : Shared} {Q : VK} {us : List Value} {vs : List V} (M : Mk X.K C f) (F : FnOk X.prog X.w X.K X.mg X.base CX k f fd ps sp) (hr : Room (k + 1) X.A) (hb : Binds X.K fd ps ds) (hd : Vals dvs ds)
    (hx : PassesAt CX X σ (E σ)) (I : Inv X pins σ H s) (r : Vals vs us)
    (h : ∀ x dx, H x = none → H dx = none → dx ≠ x → sp (.ref x :: (vs ++ dvs)) (upd (upd H dx (.own x)) x (.ins C dx [])) (fun v H2 => v = .non ∧ Q (.ref x) H2) (E σ)) :
    wpAny (model X.prog X.w) X.A (call (.ref C) us) (EP X pins σ Q) X.xe s := by
  have hq := h (s.heap.objs.size + 1) s.heap.objs.size (I.hok.fresh (Nat.le_succ _)) (I.hok.fresh (Nat.le_refl _)) (Nat.ne_of_lt (Nat.lt_succ_self _))
  have I2 := Inv.made (C := C) I
  have r2 : Vals (V.ref (s.heap.objs.size + 1) :: (vs ++ dvs)) (Value.ref (s.heap.objs.size + 1) :: (us ++ ds)) := .cons rfl (r.append hd)
  have hl : (Value.ref (s.heap.objs.size + 1) :: us ++ ds).length = ps.length := by
    have e := r2.length
    rw [F.len _ _ _ _ hq] at e
    exact e.symm
  refine wpAny_call (make_map (f := f) I.kIn M.makes M.init (beq_iff_eq.mp M.fn) (codeAny_mono (F.run _ X.stack _ _ ⟨Value.ref (s.heap.objs.size + 1) :: us, []⟩ (Value.ref (s.heap.objs.size + 1) :: (us ++ ds)) _ _ (E σ) (hr.make C us [])
    (I2.env0.make C us []) (hb _ (Value.ref (s.heap.objs.size + 1) :: us) I2.kIn hl) r2 hq) fun r s' hq' => ?_))
  cases r with
  | error e => exact hx pins _ _ e s' I2 hq'
  | ok fl =>
    cases fl with
    | ret u =>
      obtain ⟨v, H', I3, rv, ev, q3⟩ := I2.after hq'
      subst ev
      exact ⟨rv, ⟨V.ref (s.heap.objs.size + 1), H', I3, rfl, q3⟩⟩
    | next => exact False.elim hq'
    | brk => exact False.elim hq'
    | cont => exact False.elim hq'
def tMakeD (X : Cx) (W : WX) (C f : Addr) (t : TA) : TE := fun σ H Q => t σ H fun vs H1 => ∃ (k : Nat) (fd : FuncData) (ps : List Str) (sp : Sp) (dvs : List V) (ds : List Value), Room (k + 1) X.A ∧ Binds X.K fd ps ds ∧ Vals dvs ds ∧ FnOk X.prog X.w X.K X.mg X.base (L2N.CX X.prog X.w) k f fd ps sp ∧
  ∀ x dx, H1 x = none → H1 dx = none → dx ≠ x → sp (.ref x :: (vs ++ dvs)) (upd (upd H1 dx (.own x)) x (.ins C dx [])) (fun v H2 => v = .non ∧ Q (.ref x) H2) (WE W σ)
open PyProof.Rows in
theorem pe_makeD {X : Cx} {W : WX} {f C : Addr} {t : TA} {p : Pos} (M : Mk X.K C f) (hg : Gl X x) (hm : X.mg x = some (.ref C)) (hx : ∀ σ, PassesAt (L2N.CX X.prog X.w) X σ (WE W σ))
    (ha : PA X (e :: es) t) (hdb : (x == ("__debug__" : Str)) = false) (he : starEach (e :: es) X.env = (false, eval e X.env) :: starEach es X.env) (hpl : (backTo pos (starEach es X.env)).any (·.1) = false) :
    PE X (.Call (.Name x p) (e :: es) [] pos) (tMakeD X W C f t) := by
  refine ⟨fun pins s σ H Q I h => ?_⟩
  refine wpAny_Call_Name_kw (ld_glob I hg hm ?_ hdb)
  refine PySem.W.callWith_K (h₀ := X.base) I.ok.mod.kin M.kp (thn (ha.run pos pins s σ H _ I h) fun us s1 ⟨vs, H1, I1, r, k, fd, ps, sp, dvs, ds, hr, hb, hd, F, q⟩ => ⟨I1.kIn, ?_⟩) he hpl
  exact run_makeS M F hr hb hd (hx σ) I1 r q
end

def mkR (c : Str) (g : List (Md × D) → Sto → R D) (as : List (Md × D)) (st : Sto) : R D := match g ((.esc, .loc st.length) :: as) (st ++ [.ins c []]) with
  | .ok .non st2 => .ok (.loc st.length) st2
  | .ok _ _ => .stuck
  | .exc x st2 => .exc x st2
  | .stuck => .stuck
/-- a class: a new object, then its __init__ -/
def dfC (c init : Str) : Df := ⟨fun cl => mkR c (cl init)⟩
structure MakeOk (M : Mo) (c : Str) (dfl : List D) : Prop where
  ex : ∃ (C fa : Addr) (fd : FuncData) (ps : List Str) (dvs : List V) (ds : List Value), M.mg c = some (.ref C) ∧ M.T.cls c = some C ∧ Cls M.T.K C ∧ Mk M.T.K C fa ∧ Binds M.T.K fd ps ds ∧ Vals dvs ds ∧ (∀ w H, Reps M.T.K w H dvs dfl) ∧
    ((∀ as st, M.cl c as st = .stuck) ∨ ∃ (k : Nat) (cl' : Calls) (init : Str), M.n = k + 1 ∧ FnOk M.P M.w M.T.K M.mg M.base (L2N.CX M.P M.w) k fa fd ps (spOf M.T cl' init) ∧ ∀ as st, M.cl c as st = mkR c (cl' init) as st)
def esc1 (d : D) : Md × D := (.esc, d)
def bMk (cl : Calls) (c : Str) (ms : List Md) (g : FL) (dfl : List D) : F := fun env st => (g env st).bind fun ds st1 => cl c (ms.zip ds ++ dfl.map esc1) st1
theorem RepL.app {K : PySem.W.Frag} {w : Wd} {H : Hp} {ms : List Md} {vs : List V} {ds : List D} {dvs : List V} {dfl : List D} (h : RepL K w H ms vs ds) (r : Reps K w H dvs dfl) : RepL K w H (ms ++ (dfl.map esc1).map (·.1)) (vs ++ dvs) (ds ++ (dfl.map esc1).map (·.2)) := by
  have h0 : ∀ {dvs dfl}, Reps K w H dvs dfl → RepL K w H ((dfl.map esc1).map (·.1)) dvs ((dfl.map esc1).map (·.2)) := by
    intro dvs dfl r
    induction dfl generalizing dvs with
    | nil => cases r; exact .nil
    | cons d l ih =>
      cases r with
      | cons r1 r2 => exact .esc r1 (ih r2)
  induction h with
  | nil => exact h0 r
  | esc h1 _ ih => exact .esc h1 ih
  | rd h1 _ ih => exact .rd h1 ih
section
variable {G : Ct} {M : Mo} {m : Md} {ms : List Md} {X : Cx} {C : Cf} {a b c e o tg : Expr} {es : List Expr} {f g h fe fo : F} {fb : FB} {fl : FL} {p1 pos pos' apos : Pos} {i : Nat} {x : Str}
theorem sn_make {dfl : List D} (hm : M.hot = false) (hc : MakeOk M x dfl) (hg : G.sc.names.lookup x = some .globalImplicit) (ha : SndL G M ms (e :: es) fl) (hdb : (x == ("__debug__" : Str)) = false := by decide)
    (he : ∀ env, starEach (e :: es) env = (false, eval e env) :: starEach es env := by intro _; rfl) (hpl : ∀ env, (backTo pos (starEach es env)).any (·.1) = false := by intro _; rfl) : SndE G M .esc (.Call (.Name x p1) (e :: es) [] pos) (bMk M.cl x ms fl dfl) := fun X C gd => by
  obtain ⟨C0, fa, fd, ps, dvs, ds0, h1, h2, h3, h4, h5, h6, h7, h8⟩ := hc.ex
  refine (pe_makeD (W := C.W) (C := C0) (f := fa) (by rw [gd.K]; exact h4) (by show X.env.scope.names.lookup _ = _; rw [gd.sc]; exact hg) (by rw [gd.mg]; exact h1) (fun σ => L2N.passAt gd.tk σ) (ha X C gd) hdb (he _) (hpl _)).imp fun σ H Q ⟨w, env, st, s, p⟩ => ⟨w, env, st, s, ?_⟩
  refine PostE.bindL p fun ds st1 w1 vs H1 l1 s1 r1 p1 => ?_
  rcases h8 with h8 | ⟨k, cl', init, hn, F, hcl⟩
  · rw [h8] at p1; exact p1.elim
  · rw [hcl] at p1
    refine ⟨k, fd, ps, spOf M.T cl' init, dvs, ds0, by rw [← hn]; exact (gd.cold hm).2.1, by rw [gd.K]; exact h5, h6, by rw [gd.p, gd.w, gd.K, gd.mg, gd.base]; exact F, fun y dx hy hdx ne => ?_⟩
    let H2 : Hp := upd (upd H1 dx (.own y)) y (.ins C0 dx [])
    let w2 : Wd := ⟨w1.S, w1.r ++ [y]⟩
    have old : ∀ b u, H1 b = some u → H2 b = some u := fun b u z => by
      show upd (upd H1 dx (.own y)) y (.ins C0 dx []) b = some u
      rw [upd_ne (ne_of_none z hy), upd_ne (ne_of_none z hdx)]; exact z
    have nr : y ∉ w1.r := fun z => by
      obtain ⟨u, q, _⟩ := s1.sto.has z
      rw [hy] at q; cases q
    have pre2 : ∀ (n : Nat) b, w1.r[n]? = some b → w2.r[n]? = some b := fun n b e => by
      show (w1.r ++ [y])[n]? = some b
      rw [List.getElem?_append_left]
      · exact e
      · rcases Nat.lt_or_ge n w1.r.length with z | z
        · exact z
        · rw [List.getElem?_eq_none z] at e; cases e
    have l2 : Le w1 H1 w2 H2 := ⟨pre2, fun b u z _ => old b u z, fun b u z => ⟨u, old b u z⟩, fun b z => by
      rcases List.mem_append.mp z with z | z
      · exact .inl z
      · rw [List.mem_singleton.mp z]; exact .inr hy, fun b z => .inl z, fun b z => z⟩
    have ok := l2.ok2 s1.sto
    have at_n : w2.r[st1.length]? = some y := by
      show (w1.r ++ [y])[st1.length]? = some y
      rw [s1.sto.len, List.getElem?_append_right (Nat.le_refl _), Nat.sub_self]; rfl
    have sto2 : Stok C.T w2 H2 (st1 ++ [.ins x []]) := by
      refine ⟨?_, ?_, fun i c b q1 q2 => ?_⟩
      · show (st1 ++ [Cell.ins x []]).length = (w1.r ++ [y]).length
        rw [List.length_append, List.length_append, s1.sto.len]; rfl
      · show (w1.r ++ [y]).Nodup
        refine List.nodup_append.mpr ⟨s1.sto.nd, by simp, fun b hb c hc e => nr ?_⟩
        rw [List.mem_singleton.mp hc] at e
        exact e ▸ hb
      · by_cases hi : i < st1.length
        · rw [List.getElem?_append_left hi] at q1
          have q2' : w1.r[i]? = some b := by
            have := q2
            rw [show w2.r = w1.r ++ [y] from rfl, List.getElem?_append_left (by rw [← s1.sto.len]; exact hi)] at this
            exact this
          have q3 := s1.sto.at_ i c b q1 q2'
          obtain ⟨u, hu, _⟩ := q3.has
          exact q3.to ok (by rw [hu]; exact old b u hu)
        · have hi2 : st1.length ≤ i := Nat.le_of_not_lt hi
          rw [List.getElem?_append_right hi2] at q1
          rw [show w2.r = w1.r ++ [y] from rfl, List.getElem?_append_right (by rw [← s1.sto.len]; exact hi2), ← s1.sto.len] at q2
          match hk : i - st1.length, q1, q2 with
          | 0, q1, q2 =>
            cases q1; cases q2
            exact ⟨C0, dx, [], ⟨by rw [gd.T]; exact h2, by rw [gd.T]; exact h3, fun p hp => by cases hp⟩, upd_same, rfl, .nil⟩
          | k + 1, q1, q2 => simp at q1
    have al2 : ∀ a, w2.S a → H2 a ≠ none ∧ a ∉ w2.r := fun b z => by
      obtain ⟨z1, z2⟩ := s1.al b z
      cases q : H1 b with
      | none => exact absurd q z1
      | some u =>
        refine ⟨(by rw [old b u q]; intro z; cases z), fun z3 => ?_⟩
        rcases List.mem_append.mp z3 with z3 | z3
        · exact z2 z3
        · rw [List.mem_singleton.mp z3, hy] at q; cases q
    show spOf M.T cl' init _ _ _ _
    rw [← gd.T]
    refine ⟨(.esc, .loc st1.length) :: (ms.zip ds ++ dfl.map esc1), w2, st1 ++ [.ins x []], ?_, sto2, al2, ?_⟩
    · have r2 := RepL.app (RepL.le l2 s1.sto r1) (by rw [gd.T]; exact h7 w2 H2)
      rw [List.map_cons, List.map_cons, List.map_append, List.map_append, zip_fst r1.len2, zip_snd r1.len2]
      exact .esc (.loc at_n) r2
    · unfold mkR at p1
      cases q : cl' init ((.esc, .loc st1.length) :: (ms.zip ds ++ dfl.map esc1)) (st1 ++ [.ins x []]) with
      | stuck => rw [q] at p1; exact p1.elim
      | exc xx st2 =>
        rw [q] at p1
        intro r H' c dx' l3 hst xr
        have l4 := l2.trans l3
        exact p1 ⟨w1.S, r⟩ H' c dx' l4 (s1.back l4 hst) xr
      | ok d st2 =>
        rw [q] at p1
        cases d with
        | non =>
          rintro v H' ⟨r, l3, hst, rep⟩
          have l4 := l2.trans l3
          cases rep
          refine ⟨rfl, p1 ⟨w1.S, r⟩ (.ref y) H' l4 (s1.back l4 hst) (.loc (l3.pre _ _ at_n))⟩
        | _ => exact p1.elim
end
end NC

/-! ### from the head's facts to the law, with classes -/
namespace NC
open PySem L2
/-- the classes by their names at the top -/
def Tx (K : PySem.W.Frag) : Tb := ⟨K, fun x => match PySem.W.nsIn K mainGlobals x with
  | some (some (.ref C)) => some C
  | _ => none⟩
theorem Tx_cls {K : PySem.W.Frag} {x : Str} {C : Addr} (h : PySem.W.nsIn K mainGlobals x = some (some (.ref C))) : (Tx K).cls x = some C := by
  show (match PySem.W.nsIn K mainGlobals x with | some (some (.ref C)) => some C | _ => none) = _
  rw [h]
structure ClsAt (K : PySem.W.Frag) (mg : Str → Option Value) (c : Str) : Prop where
  ex : ∃ C : Addr, mg c = some (.ref C) ∧ PySem.W.nsIn K mainGlobals c = some (some (.ref C)) ∧ Cls K C ∧ PySem.W.makesIn K C = true ∧ PySem.W.keepIn K (.ref C) = true
structure MethAt (K : PySem.W.Frag) (c m q : Str) (st : Stmt) : Prop where
  ex : ∃ (C fa : Addr) (fd : FuncData), PySem.W.nsIn K mainGlobals c = some (some (.ref C)) ∧ Meth K C m fa ∧ Fun K m q st fa fd
structure NoAt (K : PySem.W.Frag) (c f : Str) : Prop where
  ex : ∃ C : Addr, PySem.W.nsIn K mainGlobals c = some (some (.ref C)) ∧ NoAttr K C f
theorem clsAt_mk {K : PySem.W.Frag} {mg : Str → Option Value} {h : Heap} {c : Str} {C : Addr} (X : K.In h) (G : h.Ns mainGlobals mg) (a : PySem.W.nsIn K mainGlobals c = some (some (.ref C))) (pg : PySem.W.plainGet K C Str.empty = true) (hd : PySem.W.hasDictIn K C = true) (po : PySem.W.plainOver K C = true)
    (sa : PySem.W.findIn K (.ref C) "__setattr__" = some (some (.builtin "object.__setattr__"))) (mk : PySem.W.makesIn K C = true) (kc : PySem.W.keepIn K (.ref C) = true) : ClsAt K mg c := ⟨C, PySem.W.mg_of X G a, a, ⟨pg, hd, po, sa⟩, mk, kc⟩
theorem methAt_mk {K : PySem.W.Frag} {c m q : Str} {st : Stmt} {C f : Addr} {oc : Value} {od an : Option Addr} {osl : Array (Option Value)} {kV doc pm cdv ct : Value}
    (a : PySem.W.nsIn K mainGlobals c = some (some (.ref C))) (a1 : PySem.W.findIn K (.ref C) m = some (some (.ref f))) (i1 : PySem.W.isFn K (.ref f) = true)
    (l : K.lookup f = some ⟨oc, od, .func (PySem.W.fnOf m q (defArgs st) (defBody st) (defScope st) .none kV doc pm an cdv ct), osl⟩)
    (cd : PySem.W.codeIn K cdv q = true) (k : PySem.W.keepIn K (.ref f) = true) : MethAt K c m q st := ⟨C, f, _, a, ⟨a1, i1, k⟩, fun_mk l cd k⟩
theorem noAt_mk {K : PySem.W.Frag} {c f : Str} {C : Addr} (a : PySem.W.nsIn K mainGlobals c = some (some (.ref C))) (n : PySem.W.findIn K (.ref C) f = some none) : NoAt K c f := ⟨C, a, n⟩
theorem NoAt.no {K : PySem.W.Frag} {c f : Str} (h : NoAt K c f) {C : Addr} (e : (Tx K).cls c = some C) : NoAttr K C f := by
  obtain ⟨C', a, n⟩ := h.ex
  rw [Tx_cls a] at e; cases e; exact n
theorem noF_mk {K : PySem.W.Frag} {T : Tb} {f : Str} {cs : List Str} (h : ∀ c ∈ cs, NoAt K c f) (hT : T = Tx K) : ∀ c, cs.contains c = true → ∀ C, T.cls c = some C → NoAttr T.K C f := fun c hc C e => by
  subst hT
  exact (h c (by simpa using hc)).no e
section
variable {P : Program} {w : World} {K : PySem.W.Frag} {mg : Str → Option Value} {base : Heap} {Δ : Str → Option Df} {n : Nat} {c m x : Str} {st : Stmt} {N ps : List Str} {sh : Calls → FS}
theorem methOk_zero (A : MethAt K c m x st)
    (hb : ∀ (kV doc pm : Value) (an : Option Addr) (cdv ct : Value) (us : List Value), us.length = ps.length → bindArgs (PySem.W.fnOf m x (defArgs st) (defBody st) (defScope st) .none kV doc pm an cdv ct) ⟨us, []⟩ = pure (ps.zip us)) : MethOk (MoN P w (Tx K) mg base Δ 0) c m x := by
  obtain ⟨C, fa, fd, h1, h2, h3⟩ := A.ex
  exact ⟨C, fa, fd, ps, Tx_cls h1, h2, h3.binds hb, fn_ok0 fun _ _ => rfl⟩
theorem methOk_succ (A : MethAt K c m x st) (S : FnScope N ps (defScope st))
    (hb : ∀ (kV doc pm : Value) (an : Option Addr) (cdv ct : Value) (us : List Value), us.length = ps.length → bindArgs (PySem.W.fnOf m x (defArgs st) (defBody st) (defScope st) .none kV doc pm an cdv ct) ⟨us, []⟩ = pure (ps.zip us))
    (snd : SndB ⟨N, defScope st, none⟩ (MoN P w (Tx K) mg base Δ n) (defBody st) (sh (interp Δ n))) (hΔ : Δ x = some (dfD ps.length N.length sh)) : MethOk (MoN P w (Tx K) mg base Δ (n + 1)) c m x := by
  obtain ⟨C, fa, fd, h1, h2, h3⟩ := A.ex
  exact ⟨C, fa, fd, ps, Tx_cls h1, h2, h3.binds hb, fn_ok (T := Tx K) h3 S snd fun as s => interp_eq hΔ as s⟩
theorem makeOk_zero (A : ClsAt K mg c) (B : MethOk (MoN P w (Tx K) mg base Δ 0) c "__init__" x) : MakeOk (MoN P w (Tx K) mg base Δ 0) c [] := by
  obtain ⟨C, a1, a2, a3, a4, a5⟩ := A.ex
  obtain ⟨C', fa, fd, ps, b1, b2, b3, b4⟩ := B.ex
  rw [show (MoN P w (Tx K) mg base Δ 0).T.cls c = some C from Tx_cls a2] at b1
  cases b1
  exact ⟨C, fa, fd, ps, [], [], a1, Tx_cls a2, a3, ⟨a4, b2.at_, b2.fn, a5⟩, b3, .nil, fun _ _ => .nil, .inl fun _ _ => rfl⟩
theorem makeOk_succ (A : ClsAt K mg c) (B : MethOk (MoN P w (Tx K) mg base Δ n) c "__init__" x) (hΔ : Δ c = some (dfC c x)) : MakeOk (MoN P w (Tx K) mg base Δ (n + 1)) c [] := by
  obtain ⟨C, a1, a2, a3, a4, a5⟩ := A.ex
  obtain ⟨C', fa, fd, ps, b1, b2, b3, b4⟩ := B.ex
  rw [show (MoN P w (Tx K) mg base Δ n).T.cls c = some C from Tx_cls a2] at b1
  cases b1
  exact ⟨C, fa, fd, ps, [], [], a1, Tx_cls a2, a3, ⟨a4, b2.at_, b2.fn, a5⟩, b3, .nil, fun _ _ => .nil, .inr ⟨n, interp Δ n, x, rfl, b4, fun as s => interp_eq hΔ as s⟩⟩
end
theorem tab_nil {M : Mo} {m : Str} : ∀ c y, ([] : List (Str × Str)).lookup c = some y → MethOk M c m y := fun c y h => by cases h
theorem tab_cons {M : Mo} {m c y : Str} {l : List (Str × Str)} (h : MethOk M c m y) (t : ∀ c y, l.lookup c = some y → MethOk M c m y) : ∀ c' y', ((c, y) :: l).lookup c' = some y' → MethOk M c' m y' := fun c' y' e => by
  by_cases hc : c' = c
  · subst hc
    simp [List.lookup] at e
    subst e
    exact h
  · have hb : (c' == c) = false := by simpa using hc
    simp only [List.lookup, hb] at e
    exact t c' y' e
/-- a constant: a tuple of texts -/
theorem globTup {M : Mo} {h : Heap} {K : PySem.W.Frag} {mg : Str → Option Value} {x : Str} {p : Addr} {od : Option Addr} {its : Array Value} {n : Nat} {sl : Array (Option Value)} {xs : List Str} (hm : M.mg = mg) (hT : M.T.K = K) (X : K.In h) (G : h.Ns mainGlobals mg) (a : PySem.W.nsIn K mainGlobals x = some (some (.ref p)))
    (l : K.lookup p = some ⟨.type "tuple", od, .seq its n, sl⟩) (v : Vals (xs.map V.str) its.toList) (hz : xs.length ≤ sizeLine := by decide) : GlobOk M x (.tup (xs.map D.str)) := by
  refine ⟨.ref p, _, by rw [hm]; exact PySem.W.mg_of X G a, rfl, fun w H => .tup (xs := xs.map V.str) (.inr ⟨_, its, n, by rw [hT]; exact l, rfl, rfl, ?_, v⟩) ?_⟩
  · have := v.length
    rw [List.length_map] at this
    rw [← Array.length_toList, ← this]
    exact hz
  · have : ∀ ys : List Str, Reps M.T.K w H (ys.map V.str) (ys.map D.str) := by
      intro ys
      induction ys with
      | nil => exact .nil
      | cons y ys ih => exact .cons (.str y) ih
    exact this xs
/-- code that is never come to -/
def bNever : F := fun _ _ => .stuck
theorem sn_neverE {G : Ct} {M : Mo} {m : Md} {e : Expr} : SndE G M m e bNever := fun X C gd => (⟨fun _ _ _ _ _ _ h => False.elim h⟩ : PE X e fun _ _ _ => False).imp fun σ H Q ⟨w, env, st, s, p⟩ => p
section
variable {G : Ct} {M : Mo} {ms : List Md} {e : Expr} {es : List Expr} {fl : FL} {p1 pos : Pos} {x : Str}
theorem mk {dfl : List D} (hm : M.hot = false) (hc : MakeOk M x dfl) (ha : SndL G M ms (e :: es) fl) (h : glX G x = true := by decide +kernel) (he : ∀ env, starEach (e :: es) env = (false, eval e env) :: starEach es env := by intro _; rfl) (hpl : ∀ env, (backTo pos (starEach es env)).any (·.1) = false := by intro _; rfl) : SndE G M .esc (.Call (.Name x p1) (e :: es) [] pos) (bMk M.cl x ms fl dfl) :=
  sn_make hm hc (glX_ok h).1 ha (glX_ok h).2.1 he hpl
end
end NC

/-! ### reckoning: comprehensions, loops that return, texts -/
namespace NC
open PySem L2
abbrev tx (l : List Nat) : Str := ⟨⟨l⟩⟩
abbrev ch (c : Nat) : Str := ⟨#[c]⟩
theorem tx_len (l : List Nat) : (tx l).length = l.length := rfl
theorem tx_eq (s : Str) : s = tx s.cps.toList := rfl
theorem chrs_tx (l : List Nat) : chrs (tx l) = l.map fun c => D.str (ch c) := rfl
section
variable {t : Tg} {c : FB} {f : F} {env : Ev} {st : Sto}
theorem compL_filter (p : D → Bool) (g : D → D) : ∀ {ds : List D}, (∀ d ∈ ds, ∃ env1, t d env = some env1 ∧ c env1 st = .ok (p d) st ∧ (p d = true → f env1 st = .ok (g d) st)) → compL t c f ds env st = .ok ((ds.filter p).map g) st
  | [], _ => rfl
  | d :: ds, h => by
    obtain ⟨env1, h1, h2, h3⟩ := h d (List.mem_cons_self ..)
    have ih := compL_filter p g (ds := ds) fun x hx => h x (List.mem_cons_of_mem _ hx)
    unfold compL
    rw [h1]
    dsimp only
    rw [h2]
    cases hp : p d with
    | true =>
      rw [List.filter_cons_of_pos hp, List.map_cons]
      show (if true = true then (f env1 st).nox.bind _ else compL t c f ds env st) = _
      rw [if_pos rfl, h3 hp]
      show (compL t c f ds env st).bind _ = _
      rw [ih]
      rfl
    | false =>
      rw [List.filter_cons_of_neg (by simp [hp])]
      exact ih
theorem compL_map (g : D → D) {ds : List D} (h : ∀ d ∈ ds, ∃ env1, t d env = some env1 ∧ f env1 st = .ok (g d) st) : compL t cYes f ds env st = .ok (ds.map g) st := by
  have := compL_filter (t := t) (c := cYes) (f := f) (env := env) (st := st) (fun _ => true) g (ds := ds) fun d hd => by
    obtain ⟨env1, h1, h2⟩ := h d hd
    exact ⟨env1, h1, rfl, fun _ => h2⟩
  rwa [List.filter_eq_self.mpr fun _ _ => rfl] at this
theorem bComp_of {own : List Nat} {fi : FL} {ds xs : List D} (h : fi env st = .ok ds st) (h2 : compL t c f ds (wipeE env own) st = .ok xs st) : bComp own fi t c f env st = .ok (.lst xs) st := by
  unfold bComp
  rw [h]
  dsimp only
  rw [h2]
  rfl
/-- a loop whose body may return -/
theorem forL_ret {b : FS} (bad : D → Bool) (r : D) (P : Ev → Prop) : ∀ {ds : List D}, (∀ d ∈ ds, ∀ e, P e → ∃ e1, t d e = some e1 ∧ (if bad d = true then b e1 st = .ret r st else ∃ e2, b e1 st = .next e2 st ∧ P e2)) → ∀ {env : Ev}, P env →
    if ds.any bad = true then forL t b ds env st = .ret r st else ∃ e', forL t b ds env st = .next e' st ∧ P e'
  | [], _, env, p => by
    rw [List.any_nil, if_neg Bool.false_ne_true]
    exact ⟨env, rfl, p⟩
  | d :: ds, h, env, p => by
    obtain ⟨e1, h1, h2⟩ := h d (List.mem_cons_self ..) env p
    rw [List.any_cons, forL_cons h1]
    cases hb : bad d with
    | true =>
      rw [hb, if_pos rfl] at h2
      rw [h2]
      simp
    | false =>
      rw [hb, if_neg Bool.false_ne_true] at h2
      obtain ⟨e2, h3, h4⟩ := h2
      rw [h3, Bool.false_or, turn_next]
      exact forL_ret bad r P (fun x hx => h x (List.mem_cons_of_mem _ hx)) h4
theorem blsD_mapF {α : Type} (p : α → Bool) (l : List α) : blsD (l.map fun x => D.bl (p x)) = some (l.map p) := by
  have := blsD_map (bs := l.map p)
  rwa [List.map_map] at this
theorem kAll_map {α : Type} (p : α → Bool) (l : List α) : kAll [.lst (l.map fun x => D.bl (p x))] st = .ok (.bl (l.all p)) st := by
  unfold kAll
  dsimp only
  rw [blsD_mapF]
  simp [List.all_map]; rfl
theorem kAny_map {α : Type} (p : α → Bool) (l : List α) : kAny [.lst (l.map fun x => D.bl (p x))] st = .ok (.bl (l.any p)) st := by
  unfold kAny
  dsimp only
  rw [blsD_mapF]
  simp [List.any_map]; rfl
theorem kJoin_map (a : Str) (l : List Str) (h : (l.map (·.length)).sum + l.length * a.length ≤ 16777216) : kJoin (.str a) (.lst (l.map D.str)) st = .ok (.str (Txt.join a l)) st := by
  unfold kJoin
  dsimp only
  rw [strsD_map]
  dsimp only
  rw [if_pos h]
theorem kIn_ch (c : Nat) (z : Str) : kIn (.str (ch c)) (.str z) st = .ok (.bl (decide (c ∈ z.cps.toList))) st := by
  unfold kIn inD
  rfl
theorem kNotIn_ch (c : Nat) (z : Str) : kNotIn (.str (ch c)) (.str z) st = .ok (.bl (!decide (c ∈ z.cps.toList))) st := by
  unfold kNotIn inD
  rfl
theorem all_atom (ys : List Str) : (ys.map D.str).all D.atom = true := by
  rw [List.all_map]; exact List.all_eq_true.mpr fun x _ => rfl
theorem any_eqA (x : Str) (ys : List Str) : ((ys.map D.str).any fun y => eqA y (.str x)) = decide (x ∈ ys) := by
  rw [List.any_map]
  induction ys with
  | nil => simp
  | cons y ys ih =>
    rw [List.any_cons, ih]
    show ((y == x) || _) = _
    by_cases h : y = x
    · subst h; simp
    · have : (y == x) = false := by simpa using h
      rw [this, Bool.false_or]
      have h2 : ¬ x = y := fun e => h e.symm
      simp [h2]
theorem kIn_strsT (x : Str) (ys : List Str) : kIn (.str x) (.tup (ys.map D.str)) st = .ok (.bl (decide (x ∈ ys))) st := by
  unfold kIn inD
  dsimp only
  rw [if_pos ⟨rfl, all_atom ys⟩, any_eqA]
theorem kIn_strsL (x : Str) (ys : List Str) : kIn (.str x) (.lst (ys.map D.str)) st = .ok (.bl (decide (x ∈ ys))) st := by
  unfold kIn inD
  dsimp only
  rw [if_pos ⟨rfl, all_atom ys⟩, any_eqA]
theorem kNotIn_strsT (x : Str) (ys : List Str) : kNotIn (.str x) (.tup (ys.map D.str)) st = .ok (.bl (!decide (x ∈ ys))) st := by
  unfold kNotIn inD
  dsimp only
  rw [if_pos ⟨rfl, all_atom ys⟩, any_eqA]
theorem kNotIn_strsL (x : Str) (ys : List Str) : kNotIn (.str x) (.lst (ys.map D.str)) st = .ok (.bl (!decide (x ∈ ys))) st := by
  unfold kNotIn inD
  dsimp only
  rw [if_pos ⟨rfl, all_atom ys⟩, any_eqA]
theorem kIx_str_of {z : Str} {i : Int} {c : Nat} (hz : z.length ≤ sizeLine) (h : atI z.cps.toList i = some c) : kIx (.str z) (.int i) st = .ok (.str (ch c)) st := by
  unfold kIx
  dsimp only
  rw [if_pos hz, h]
theorem kInt_str_of {z : Str} {i : Int} (hz : z.length ≤ 640) (h : PySem.intText? z = some i) : kInt [.str z] st = .ok (.int i) st := by
  unfold kInt
  dsimp only
  rw [if_pos hz, h]
theorem kSplit_of {a b : Str} (hb : (b.length == 0) = false) (hz : a.length + 2 ≤ sizeLine) : kSplit (.str a) (.str b) st = .ok (.lst ((Txt.split a b).map D.str)) st := by
  unfold kSplit
  dsimp only
  rw [if_pos ⟨hb, hz⟩]
@[simp] theorem iVarC_s (i : Nat) (s : Slot) (r : Ev) : iVarC (i + 1) (s :: r) st = iVarC i r st := rfl
@[simp] theorem iVarC_lst (ds : List D) (r : Ev) : iVarC 0 (some (.frz, .lst ds) :: r) st = .ok ds st := rfl
@[simp] theorem iVarC_lst1 (ds : List D) (r : Ev) : iVarC 0 (some (.own, .lst ds) :: r) st = .ok ds st := rfl
@[simp] theorem iVarC_lst2 (ds : List D) (r : Ev) : iVarC 0 (some (.bor, .lst ds) :: r) st = .ok ds st := rfl
@[simp] theorem iVarC_lst3 (m : Md) (ds : List D) (r : Ev) : iVarC 0 (some (flM m, .lst ds) :: r) st = .ok ds st := by cases m <;> rfl
@[simp] theorem iVarC_tup (ds : List D) (r : Ev) : iVarC 0 (some (.frz, .tup ds) :: r) st = .ok ds st := rfl
@[simp] theorem iVarC_str (z : Str) (r : Ev) : iVarC 0 (some (.frz, .str z) :: r) st = if z.length ≤ sizeLine then .ok (chrs z) st else .stuck := rfl
@[simp] theorem sRetV_s (i : Nat) (s : Slot) (r : Ev) : sRetV (i + 1) (s :: r) st = sRetV i r st := rfl
@[simp] theorem sRetV_frz (d : D) (r : Ev) : sRetV 0 (some (.frz, d) :: r) st = .ret d st := rfl
@[simp] theorem sRetV_ownL (d : D) (r : Ev) : sRetV 0 (some (.own, d) :: r) st = .ret d st := rfl
def R.outL (r : R (List D)) (env : Ev) (k : List D → Sto → Out) : Out := match r with
  | .ok d st => k d st
  | .exc x st => .exc x env st
  | .stuck => .stuck
@[simp] theorem outL_ok (ds : List D) (k : List D → Sto → Out) : (R.ok ds st).outL env k = k ds st := rfl
@[simp] theorem outL_stuck (k : List D → Sto → Out) : R.outL .stuck env k = .stuck := rfl
@[simp] theorem outL_exc (x : Exn) (k : List D → Sto → Out) : (R.exc x st).outL env k = .exc x env st := rfl
@[simp] theorem outL_ite (c : Prop) [Decidable c] (r s : R (List D)) (k : List D → Sto → Out) : (if c then r else s).outL env k = if c then r.outL env k else s.outL env k := by split <;> rfl
theorem sFor_L (fi : FL) (t : Tg) (b : FS) : sFor fi t b env st = (fi env st).outL env fun ds st1 => forL t b ds env st1 := by unfold sFor R.outL; rfl
@[simp] theorem iVar_frz (ds : List D) (r : Ev) : iVar 0 (some (.frz, .lst ds) :: r) st = .ok ds st := rfl
@[simp] theorem iVar_bor (ds : List D) (r : Ev) : iVar 0 (some (.bor, .lst ds) :: r) st = .ok ds st := rfl
@[simp] theorem iVar_flM (m : Md) (ds : List D) (r : Ev) : iVar 0 (some (flM m, .lst ds) :: r) st = .ok ds st := by cases m <;> rfl
@[simp] theorem frz_nil (e : Ev) : frzE [] e = e := rfl
@[simp] theorem frz_cons (e : Ev) (i : Nat) (is : List Nat) : frzE (i :: is) e = match e[i]? with
  | some (some (.own, d)) => frzE is (e.set i (some (.frz, d)))
  | _ => frzE is e := rfl
@[simp] theorem sFrz_eq (is : List Nat) (f : FS) : sFrz is f env st = f (frzE is env) st := rfl
@[simp] theorem iVar_tup (ds : List D) (r : Ev) : iVar 0 (some (.frz, .tup ds) :: r) st = .ok ds st := rfl
@[simp] theorem iVar_str (z : Str) (r : Ev) : iVar 0 (some (.frz, .str z) :: r) st = if z.length ≤ sizeLine then .ok (chrs z) st else .stuck := rfl
@[simp] theorem iVar_s (i : Nat) (s : Slot) (r : Ev) : iVar (i + 1) (s :: r) st = iVar i r st := rfl
@[simp] theorem wipe_nil (e : Ev) : wipeE e [] = e := rfl
@[simp] theorem wipe_cons (e : Ev) (i : Nat) (is : List Nat) : wipeE e (i :: is) = (wipeE e is).set i none := rfl
theorem seqIx0 {α : Type} (c : α) (l : List α) : atI (c :: l) 0 = some c := atI_nat (j := 0) rfl
/-- append, extend -/
def appO (i : Nat) (env : Ev) (ds : List D) (d : D) (st : Sto) : Out := if ds.length < sizeLine then .next (env.set i (some (.own, .lst (ds ++ [d])))) st else .stuck
def appE (i : Nat) (env : Ev) (f : F) (st : Sto) : Option Slot → Out
  | some (some (.own, .lst ds)) => (f env st).out env fun d st1 => appO i env ds d st1
  | _ => .stuck
theorem sApp_E (i : Nat) (f : F) : sApp i f env st = appE i env f st env[i]? := by
  unfold sApp appE
  rfl
theorem appE_own (i : Nat) (f : F) (ds : List D) : appE i env f st (some (some (.own, .lst ds))) = (f env st).out env fun d st1 => appO i env ds d st1 := rfl
theorem appO_of (i : Nat) (ds : List D) (d : D) (h : ds.length < sizeLine) : appO i env ds d st = .next (env.set i (some (.own, .lst (ds ++ [d])))) st := if_pos h
def extO (i : Nat) (env : Ev) (ds es : List D) (st : Sto) : Out := if ds.length + es.length ≤ sizeLine then .next (env.set i (some (.own, .lst (ds ++ es)))) st else .stuck
def extD (i : Nat) (env : Ev) (ds : List D) (d : D) (st : Sto) : Out := match d with
  | .lst es => extO i env ds es st
  | _ => .stuck
def extE (i : Nat) (env : Ev) (f : F) (st : Sto) : Option Slot → Out
  | some (some (.own, .lst ds)) => (f env st).out env fun d st1 => extD i env ds d st1
  | _ => .stuck
theorem sExt_E (i : Nat) (f : F) : sExt i f env st = extE i env f st env[i]? := by
  unfold sExt extE extD extO
  rfl
theorem extE_own (i : Nat) (f : F) (ds : List D) : extE i env f st (some (some (.own, .lst ds))) = (f env st).out env fun d st1 => extD i env ds d st1 := rfl
theorem extD_lst (i : Nat) (ds es : List D) : extD i env ds (.lst es) st = extO i env ds es st := rfl
theorem extO_of (i : Nat) (ds es : List D) (h : ds.length + es.length ≤ sizeLine) : extO i env ds es st = .next (env.set i (some (.own, .lst (ds ++ es)))) st := if_pos h
/-- methods, fields, classes -/
@[simp] theorem bAttr_eq (x : Str) (e : F) : bAttr x e env st = (e env st).bind fun d st1 => getF x st1 d := rfl
@[simp] theorem bMeth_eq (cl : Calls) (tab : List (Str × Str)) (m : Str) (fo : F) (ms : List Md) (fl : FL) : bMeth cl tab m fo ms fl env st = (fo env st).bind fun o st1 => match disp tab m st1 o with
  | some x => (fl env st1).bind fun ds st2 => cl x ((.esc, o) :: ms.zip ds) st2
  | none => .stuck := rfl
@[simp] theorem bMeth0_eq (cl : Calls) (tab : List (Str × Str)) (m : Str) (fo : F) : bMeth0 cl tab m fo env st = (fo env st).bind fun o st1 => match disp tab m st1 o with
  | some x => cl x [(.esc, o)] st1
  | none => .stuck := rfl
@[simp] theorem bMk_eq (cl : Calls) (x : Str) (ms : List Md) (g : FL) (dfl : List D) : bMk cl x ms g dfl env st = (g env st).bind fun ds st1 => cl x (ms.zip ds ++ dfl.map esc1) st1 := rfl
def stO (env : Ev) : Option Sto → Out
  | some st3 => .next env st3
  | none => .stuck
@[simp] theorem sFldD_eq (cs : List Str) (x : Str) (fo fe : F) : sFldD cs x fo fe env st = (fe env st).out env fun d st1 => (fo env st1).out env fun o st2 => stO env (setF cs x d st2 o) := rfl
@[simp] theorem stO_some (st3 : Sto) : stO env (some st3) = .next env st3 := rfl
theorem getF_of {x c : Str} {n : Nat} {fs : List (Str × D)} {d : D} (h : st[n]? = some (.ins c fs)) (h2 : fs.lookup x = some d) : getF x st (.loc n) = .ok d st := by
  unfold getF
  dsimp only
  rw [h]
  dsimp only
  rw [h2]
theorem setF_of {cs : List Str} {x c : Str} {n : Nat} {fs : List (Str × D)} {d : D} (h : st[n]? = some (.ins c fs)) (h2 : cs.contains c = true) (h3 : fs.length < 1000) : setF cs x d st (.loc n) = some (st.set n (.ins c (putD x d fs))) := by
  unfold setF
  dsimp only
  rw [h]
  dsimp only
  rw [if_pos ⟨h2, h3⟩]
theorem disp_of {tab : List (Str × Str)} {m c y : Str} {n : Nat} {fs : List (Str × D)} (h : st[n]? = some (.ins c fs)) (h2 : fs.lookup m = none) (h3 : tab.lookup c = some y) : disp tab m st (.loc n) = some y := by
  unfold disp
  dsimp only
  rw [h]
  dsimp only
  rw [h2]
  exact h3
end
section
variable {t : Tg} {c : FB} {f : F} {env : Ev} {st : Sto}
theorem compL_ex (P : D → Prop) : ∀ {ds : List D}, (∀ d ∈ ds, ∃ env1 x, t d env = some env1 ∧ f env1 st = .ok x st ∧ P x) → ∃ xs, compL t cYes f ds env st = .ok xs st ∧ xs.length = ds.length ∧ ∀ x ∈ xs, P x
  | [], _ => ⟨[], rfl, rfl, fun x h => by cases h⟩
  | d :: ds, h => by
    obtain ⟨env1, x, h1, h2, h3⟩ := h d (List.mem_cons_self ..)
    obtain ⟨xs, i1, i2, i3⟩ := compL_ex P (ds := ds) fun y hy => h y (List.mem_cons_of_mem _ hy)
    refine ⟨x :: xs, ?_, by simp [i2], fun y hy => ?_⟩
    · unfold compL
      rw [h1]
      show (if true = true then (f env1 st).nox.bind _ else compL t cYes f ds env st) = _
      rw [if_pos rfl, h2]
      show (compL t cYes f ds env st).bind _ = _
      rw [i1]
      rfl
    · rcases List.mem_cons.mp hy with rfl | hy
      · exact h3
      · exact i3 y hy
theorem chs_of {P : Nat → Prop} : ∀ {xs : List D}, (∀ x ∈ xs, ∃ c, x = .str (ch c) ∧ P c) → ∃ cs : List Nat, xs = cs.map (fun c => D.str (ch c)) ∧ ∀ c ∈ cs, P c
  | [], _ => ⟨[], rfl, fun c h => by cases h⟩
  | x :: xs, h => by
    obtain ⟨c, rfl, p⟩ := h x (List.mem_cons_self ..)
    obtain ⟨cs, rfl, q⟩ := chs_of (xs := xs) fun y hy => h y (List.mem_cons_of_mem _ hy)
    refine ⟨c :: cs, rfl, fun d hd => ?_⟩
    rcases List.mem_cons.mp hd with rfl | hd
    · exact p
    · exact q d hd
theorem join_chs : ∀ cs : List Nat, Txt.join ("" : Str) (cs.map ch) = tx cs := by
  intro cs
  rw [TL.join_eq]
  have h0 : TL.tl ("" : Str) = [] := by decide +kernel
  have key : ∀ cs : List Nat, TL.joinL [] ((cs.map ch).map TL.tl) = cs := by
    intro cs
    induction cs with
    | nil => rfl
    | cons c cs ih =>
      cases cs with
      | nil => rfl
      | cons d cs => 
        show [c] ++ ([] ++ TL.joinL [] (((d :: cs).map ch).map TL.tl)) = _
        rw [ih]; rfl
  have := TL.tl_join ("" : Str) (cs.map ch)
  rw [h0, key] at this
  exact TL.ext_tl this
theorem kJoin_chs (cs : List Nat) (h : cs.length ≤ 16777216) : kJoin (.str "") (.lst (cs.map fun c => D.str (ch c))) st = .ok (.str (tx cs)) st := by
  have e : (cs.map fun c => D.str (ch c)) = (cs.map ch).map D.str := by rw [List.map_map]; rfl
  rw [e, kJoin_map, join_chs]
  have h1 : ∀ cs : List Nat, ((cs.map ch).map (·.length)).sum = cs.length := by
    intro cs
    induction cs with
    | nil => rfl
    | cons c cs ih => rw [List.map_cons, List.map_cons, List.sum_cons, ih]; show 1 + cs.length = cs.length + 1; omega
  have h2 : ("" : Str).length = 0 := by decide +kernel
  rw [h1, h2, Nat.mul_zero, Nat.add_zero]
  exact h
theorem atI_in {α : Type} {l : List α} {i : Int} (h0 : 0 ≤ i) (h1 : i < l.length) : ∃ d, atI l i = some d ∧ l[i.toNat]? = some d := by
  obtain ⟨k, rfl⟩ := Int.eq_ofNat_of_zero_le h0
  have hk : k < l.length := by omega
  exact ⟨l[k], atI_nat (List.getElem?_eq_getElem hk), List.getElem?_eq_getElem hk⟩
theorem kIx_lst_in {ds : List D} {i : Int} (h0 : 0 ≤ i) (h1 : i < ds.length) : ∃ d, kIx (.lst ds) (.int i) st = .ok d st ∧ ds[i.toNat]? = some d := by
  obtain ⟨d, h, h2⟩ := atI_in h0 h1
  exact ⟨d, kIx_lst_of h, h2⟩
theorem kIx_tup_in {ds : List D} {i : Int} (h0 : 0 ≤ i) (h1 : i < ds.length) : ∃ d, kIx (.tup ds) (.int i) st = .ok d st ∧ ds[i.toNat]? = some d := by
  obtain ⟨d, h, h2⟩ := atI_in h0 h1
  exact ⟨d, kIx_tup_of h, h2⟩
theorem kIx_str_in {z : Str} {i : Int} (hz : z.length ≤ sizeLine) (h0 : 0 ≤ i) (h1 : i < z.length) : ∃ c, kIx (.str z) (.int i) st = .ok (.str (ch c)) st ∧ z.cps.toList[i.toNat]? = some c := by
  obtain ⟨d, h, h2⟩ := atI_in (l := z.cps.toList) h0 (by rw [Array.length_toList]; exact h1)
  exact ⟨d, kIx_str_of hz h, h2⟩
end
end NC

/-! ### == of data -/
namespace NC
open PySem L2
mutual
/-- data without objects, its texts of signs -/
def D.plain : D → Bool
  | .str x => PySem.PyData.strOk x
  | .tup xs => D.plains xs
  | .lst xs => D.plains xs
  | .loc _ => false
  | _ => true
def D.plains : List D → Bool
  | [] => true
  | d :: ds => d.plain && D.plains ds
end
mutual
def D.dep : D → Nat
  | .tup xs => D.deps xs + 1
  | .lst xs => D.deps xs + 1
  | _ => 0
def D.deps : List D → Nat
  | [] => 0
  | d :: ds => max d.dep (D.deps ds)
end
mutual
theorem plain_py : ∀ d : D, d.py.canLay0 = d.plain
  | .non => rfl
  | .bl _ => rfl
  | .int _ => rfl
  | .str _ => by simp [D.py, PyData.canLay0, D.plain]
  | .loc _ => by simp [D.py, PyData.canLay0, D.plain]
  | .tup xs => by rw [D.py, PyData.canLay0, D.plain]; exact plains_py xs
  | .lst xs => by rw [D.py, PyData.canLay0, D.plain]; exact plains_py xs
theorem plains_py : ∀ ds : List D, PyData.canLayAll0 (D.pys ds) = D.plains ds
  | [] => rfl
  | d :: ds => by rw [D.pys, PyData.canLayAll0, D.plains, plain_py d, plains_py ds]
end
mutual
theorem dep_py : ∀ d : D, d.plain = true → d.py.depth = d.dep
  | .non, _ => rfl
  | .bl _, _ => rfl
  | .int _, _ => rfl
  | .str _, _ => rfl
  | .loc _, h => by simp [D.plain] at h
  | .tup xs, h => by rw [D.py, PyData.depth, D.dep, deps_py xs (by simpa [D.plain] using h)]
  | .lst xs, h => by rw [D.py, PyData.depth, D.dep, deps_py xs (by simpa [D.plain] using h)]
theorem deps_py : ∀ ds : List D, D.plains ds = true → PyData.depthAll (D.pys ds) = D.deps ds
  | [], _ => rfl
  | d :: ds, h => by
    rw [D.plains, Bool.and_eq_true] at h
    rw [D.pys, PyData.depthAll, D.deps, dep_py d h.1, deps_py ds h.2]
end
theorem shaped_of {d : D} (h : d.plain = true) (h2 : d.dep ≤ 64) : SeqAt.shaped d.py = true := by
  unfold SeqAt.shaped
  rw [plain_py, h, dep_py d h]
  simpa using h2
/-- == -/
def D.same (d e : D) : Bool := PyData.eqv d.py e.py
theorem kEq_data {d e : D} {st : Sto} (h : d.plain = true) (h2 : d.dep ≤ 64) (g : e.plain = true) (g2 : e.dep ≤ 64) : kEq d e st = .ok (.bl (d.same e)) st := by
  have s1 := shaped_of h h2
  have s2 := shaped_of g g2
  have key : eqv d e = some (d.same e) := by
    unfold D.same
    unfold eqv
    split <;> (try (simp [D.py, PyData.eqv]; done)) <;> (try (rw [if_pos ⟨s1, s2⟩]))
    · simp [D.py, PyData.eqv, BEq.beq]
    · simp [D.py, PyData.eqv, BEq.beq]
    · rename_i i j; cases i <;> cases j <;> simp [D.py, PyData.eqv]
  unfold kEq
  rw [key]
theorem kNe_data {d e : D} {st : Sto} (h : d.plain = true) (h2 : d.dep ≤ 64) (g : e.plain = true) (g2 : e.dep ≤ 64) : kNe d e st = .ok (.bl (!d.same e)) st := by
  have := kEq_data (st := st) h h2 g g2
  unfold kEq at this
  unfold kNe
  cases q : eqv d e with
  | none => rw [q] at this; cases this
  | some b => rw [q] at this; cases this; rfl
mutual
theorem same_refl : ∀ d : D, d.plain = true → d.same d = true
  | .non, _ => rfl
  | .bl b, _ => by cases b <;> rfl
  | .int i, _ => by simp [D.same, D.py, PyData.eqv]
  | .str x, _ => by simp [D.same, D.py, PyData.eqv]
  | .loc _, h => by simp [D.plain] at h
  | .tup xs, h => by rw [D.same, D.py, PyData.eqv]; exact sames_refl xs (by simpa [D.plain] using h)
  | .lst xs, h => by rw [D.same, D.py, PyData.eqv]; exact sames_refl xs (by simpa [D.plain] using h)
theorem sames_refl : ∀ ds : List D, D.plains ds = true → PyData.eqvAll (D.pys ds) (D.pys ds) = true
  | [], _ => rfl
  | d :: ds, h => by
    rw [D.plains, Bool.and_eq_true] at h
    rw [D.pys, PyData.eqvAll, Bool.and_eq_true]
    exact ⟨same_refl d h.1, sames_refl ds h.2⟩
end
mutual
/-- no truth value, no object within -/
def D.noB : D → Bool
  | .bl _ => false
  | .loc _ => false
  | .tup xs => D.noBs xs
  | .lst xs => D.noBs xs
  | _ => true
def D.noBs : List D → Bool
  | [] => true
  | d :: ds => d.noB && D.noBs ds
end
mutual
theorem same_eq : ∀ d e : D, d.noB = true → e.noB = true → d.same e = true → d = e
  | .non, e, _, h2, h => by cases e <;> first | rfl | (simp [D.same, D.py, PyData.eqv, D.noB] at h h2)
  | .bl _, e, h1, _, _ => by simp [D.noB] at h1
  | .loc _, e, h1, _, _ => by simp [D.noB] at h1
  | .int i, e, _, h2, h => by cases e <;> simp [D.same, D.py, PyData.eqv, D.noB] at h h2; subst h; rfl
  | .str i, e, _, h2, h => by cases e <;> simp [D.same, D.py, PyData.eqv, D.noB] at h h2; subst h; rfl
  | .tup xs, e, h1, h2, h => by
    cases e with
    | tup ys =>
      rw [D.same, D.py, D.py, PyData.eqv] at h
      rw [D.noB] at h1 h2
      rw [sames_eq xs ys h1 h2 h]
    | _ => simp [D.same, D.py, PyData.eqv, D.noB] at h h2
  | .lst xs, e, h1, h2, h => by
    cases e with
    | lst ys =>
      rw [D.same, D.py, D.py, PyData.eqv] at h
      rw [D.noB] at h1 h2
      rw [sames_eq xs ys h1 h2 h]
    | _ => simp [D.same, D.py, PyData.eqv, D.noB] at h h2
theorem sames_eq : ∀ ds es : List D, D.noBs ds = true → D.noBs es = true → PyData.eqvAll (D.pys ds) (D.pys es) = true → ds = es
  | [], [], _, _, _ => rfl
  | [], e :: es, _, _, h => by simp [D.pys, PyData.eqvAll] at h
  | d :: ds, [], _, _, h => by simp [D.pys, PyData.eqvAll] at h
  | d :: ds, e :: es, h1, h2, h => by
    rw [D.noBs, Bool.and_eq_true] at h1 h2
    rw [D.pys, D.pys, PyData.eqvAll, Bool.and_eq_true] at h
    rw [same_eq d e h1.1 h2.1 h.1, sames_eq ds es h1.2 h2.2 h.2]
end
open Classical in
theorem same_dec {d e : D} (p : d.plain = true) (h1 : d.noB = true) (h2 : e.noB = true) : d.same e = decide (d = e) := by
  by_cases h : d = e
  · subst h; rw [same_refl d p]; simp
  · cases q : d.same e with
    | true => exact absurd (same_eq d e h1 h2 q) h
    | false => simp [h]
theorem plains_all {ds : List D} (h : ∀ d ∈ ds, d.plain = true) : D.plains ds = true := by
  induction ds with
  | nil => rfl
  | cons d ds ih => rw [D.plains, h d (List.mem_cons_self ..), ih fun x hx => h x (List.mem_cons_of_mem _ hx)]; rfl
theorem noBs_all {ds : List D} (h : ∀ d ∈ ds, d.noB = true) : D.noBs ds = true := by
  induction ds with
  | nil => rfl
  | cons d ds ih => rw [D.noBs, h d (List.mem_cons_self ..), ih fun x hx => h x (List.mem_cons_of_mem _ hx)]; rfl
theorem deps_all {ds : List D} {n : Nat} (h : ∀ d ∈ ds, d.dep ≤ n) : D.deps ds ≤ n := by
  induction ds with
  | nil => exact Nat.zero_le _
  | cons d ds ih =>
    rw [D.deps]
    exact Nat.max_le.mpr ⟨h d (List.mem_cons_self ..), ih fun x hx => h x (List.mem_cons_of_mem _ hx)⟩
end NC

/-! ### own exceptions: super().__init__(text); self.f = v -/
namespace NC
open PySem L2 PySem.Spec PyProof.Rows PySem.Calls

/-- what an exception's __init__ leaves -/
def spEx (C : Addr) (fld : Str) : Sp := fun vs H Q E => ∃ (a : Addr) (v : V), vs = [.ref a, v] ∧ H a = some (exo a C none) ∧ ∀ d, H d = none → d ≠ a → Q .non (upd (upd H d (exd d [(fld, v)])) a (exo a C (some d)))

structure ExAt (P : Program) (K : PySem.W.Frag) (C fI : Addr) (fd : FuncData) (prm fld : Str) : Prop where
  T : OexC K C
  ex : ∃ (qual : Str) (params : Arguments) (scope : Scope) (kV doc pm ct oc : Value) (an od : Option Addr) (osl : Array (Option Value)) (cda cc : Addr) (msg : Str) (j : Nat) (p0 p1 p2 p3 p4 p5 p6 p7 p8 p9 : Pos)
    (vs : Array Value) (file : Str) (tf : Tok) (ccl cl : Value) (cdd cld : Option Addr) (ccs csl : Array (Option Value)) (ar : Arg),
    fd = PySem.W.ksFn "__init__" qual params [.Expr (.Call (.Attribute (.Call (.Name "super" p0) [] [] p1) "__init__" p2) [.Constant (.str msg) j p3] [] p4) p5, .Assign [.Attribute (.Name "self" p6) fld p7] (.Name prm p8) p9] scope .none kV doc pm an (.ref cda) ct cc ∧
    K.lookup fI = some ⟨oc, od, .func fd, osl⟩ ∧ PySem.W.codeIn K (.ref cda) qual = true ∧ K.lookup cda = some ⟨ccl, cdd, .fields vs, ccs⟩ ∧ vs[2]? = some (.str file tf) ∧ ((P.main.file : Str) == file) = true ∧
    K.lookup cc = some ⟨cl, cld, .cell (some (.ref C)), csl⟩ ∧ (params.posonlyargs ++ params.args).head? = some ar ∧ ar.arg = "self" ∧
    NdefX.NScope ["self", prm, "__class__"] ["self", prm] ["__class__"] scope ∧ scope.names.lookup ("super" : Str) = some .globalImplicit ∧
    (∀ env : Env, ∃ pl : Sem Bool, eval (.Call (.Attribute (.Call (.Name "super" p0) [] [] p1) "__init__" p2) [.Constant (.str msg) j p3] [] p4) env = (do
      let ov ← attributeBase (.Call (.Name "super" p0) [] [] p1) "__init__" env (eval (.Call (.Name "super" p0) [] [] p1) env)
      standAt p2.atName
      let (f, first) ← holding [ov] (getMethod ov "__init__" pl)
      callWith p4 f first (backTo p4 (starEach [.Constant (.str msg) j p3] env)) []))
  sub : PySem.W.mroIn K C (.ref C) = some true
  sup : PySem.W.nsIn K mainGlobals "super" = some none
  opq : PySem.W.nsIn K cStatics "thirdparty.any" = some none
  nxt : PySem.W.ks_superIn K C C "__init__" = some (some (.builtin "ValueError.__init__"))
  isV : PySem.W.subIn K (.ref C) (.type "ValueError") = some true
  top : (P.main.scope.names.lookup ("super" : Str)).isSome = false
  nof : PySem.W.findIn K (.ref C) fld = some none
  ne : prm ≠ "self"
  db : (prm == ("__debug__" : Str)) = false
  cdt : (prm == ("__classdict__" : Str)) = false

theorem exc_init_ok {P : Program} {w : World} {K : PySem.W.Frag} {mg : Str → Option Value} {base : Heap} {CX : CXT} {C fI : Addr} {fd : FuncData} {prm fld : Str} (X : ExAt P K C fI fd prm fld) : FnOk P w K mg base CX 0 fI fd ["self", prm] (spEx C fld) := by
  obtain ⟨T, ⟨qual, params, scope, kV, doc, pm, ct, oc, an, od, osl, cda, cc, msg, j, p0, p1, p2, p3, p4, p5, p6, p7, p8, p9, vs0, file, tf, ccl, cl, cdd, cld, ccs, csl, ar, rfl, l, cd, hcode, hvs, hfile, hcell, hp, har, S, hks, hev⟩, hsub, hsup, hopq, hnxt, hisV, htop, hnof, hne, hdb, hcdt⟩ := X
  refine ⟨fun vs H Q E ⟨a, v, e, _⟩ => by rw [e]; rfl, fun A outer s H args us vs Q E hr e0 hb hv ⟨a, v, evs, ea, q⟩ => ?_⟩
  subst evs
  cases hv with
  | @cons _ u1 _ us1 ra hv1 =>
  cases hv1 with
  | @cons _ u2 _ us2 rv hv2 =>
  cases hv2
  obtain rfl : u1 = Value.ref a := ra
  have KX : K.In s.heap := e0.mod.kin.keeps fun b o e => (e0.bs b o e).1
  have lim : s.heap.NoLimit := e0.mod.nolimit.keeps fun b o e => (e0.bs b o e).1
  let Fn0 : NdefX.NF := ⟨"__init__", qual, params, [.Expr (.Call (.Attribute (.Call (.Name "super" p0) [] [] p1) "__init__" p2) [.Constant (.str msg) j p3] [] p4) p5, .Assign [.Attribute (.Name "self" p6) fld p7] (.Name prm p8) p9], scope, [("__class__", cc)], cda⟩
  let env : Env := NdefX.envF Fn0 fI s.heap.objs.size
  have hself : scope.names.lookup ("self" : Str) = some .local := S.par _ (by simp)
  have hprm : scope.names.lookup prm = some .local := S.par _ (by simp)
  have hcls : scope.names.lookup ("__class__" : Str) = some .free := S.frk _ (by simp)
  refine ks_codeAny_call_defAt (fd := PySem.W.ksFn "__init__" qual params Fn0.body scope .none kV doc pm an (.ref cda) ct cc) (body := Fn0.body) (binds := (["self", prm] : List Str).zip [.ref a, u2]) hr.depth (KX _ _ l) rfl lim (PySem.W.codeRec_of KX cd) rfl hb S.nocell (fun y hy => ?_) (fun h₁ hns kp => ?_) S.co S.gen S.kind
  · have : y.1 ∈ (["self", prm] : List Str) := (List.of_mem_zip hy).1
    exact S.par _ this
  show _root_.PySem.wpAt (model P w) (A.deeper env) (.func Fn0.body env) (execs Fn0.body env) _ _ _
  let X : Cx := NdefX.ncx CX P w K mg base ["self", prm, "__class__"] Fn0 fI A outer s H E
  have cells : NdefX.CellsAt Fn0.cl ["__class__"] [none] s.heap H := by
    refine ⟨rfl, fun y c e => ?_, fun x y c e1 e2 => ?_, fun i y e => ?_⟩
    · by_cases hy : y = ("__class__" : Str)
      · subst hy
        simp [Fn0, List.lookup] at e
        subst e
        have hbase : base.get? cc = some ⟨cl, cld, .cell (some (.ref C)), csl⟩ := e0.mod.kin _ _ hcell
        exact ⟨(e0.bs _ _ hbase).2, some (.ref C), ⟨_, KX _ _ hcell, rfl⟩⟩
      · have hb : (y == ("__class__" : Str)) = false := by simpa using hy
        simp [Fn0, List.lookup, hb] at e
    · have key : ∀ z : Str, List.lookup z Fn0.cl = some c → z = ("__class__" : Str) := fun z e => by
        by_cases hz : z = ("__class__" : Str)
        · exact hz
        · have hb : (z == ("__class__" : Str)) = false := by simpa using hz
          simp [Fn0, List.lookup, hb] at e
      rw [key x e1, key y e2]
    · match i, e with
      | 0, e =>
        cases e
        exact ⟨cc, by simp [Fn0, List.lookup], fun v e2 => by cases e2⟩
      | i + 1, e => simp at e
  have I0 : Inv X [] (NdefX.startF ["self", prm, "__class__"] [.ref a, v] [none]) H { s with heap := h₁, toks := s.toks + 2 } := NdefX.inv_startN S hr.hd e0 rfl (.cons rfl (.cons rv .nil)) cells hns kp
  have hσ : NdefX.startF ["self", prm, "__class__"] [.ref a, v] [none] = [some (.ref a), some v, none] := rfl
  rw [hσ] at I0
  have K1 : K.In h₁ := KX.keeps kp
  obtain ⟨nm, qq, NN, bs, bm, sn, sub, ab, col, dd, k0, k1, k2, k3, k5, hC, hbm⟩ := T.cls
  have hcl : PySem.W.clsIn K C = some { name := nm, bases := bs, mro := .ref C :: bm, ns := NN, qualname := qq, hasDict := true, slotNames := sn, subclasses := sub, abstract := ab, collection := col, hasDel := false } := by unfold PySem.W.clsIn; rw [hC] <;> rfl
  obtain ⟨pl, hev⟩ := hev env
  have hint : interactive env = false := by
    unfold interactive
    have : env.scope.kind = .function := S.kind
    simp [this]
  refine ks_wpAt_execs_cons (ks_wpAt_Expr_any (ks_wpAt_MethodCall (pl := pl) ?_ hev) hint rfl)
  refine ks_wpAt_super_base (env := env) (f := fI) (cc := cda) (ar := ar) hks hcls rfl rfl (K1 _ _ l) rfl hp rfl (K1 _ _ hcode) rfl hvs hfile htop ?_
  obtain ⟨mb, b1, b2⟩ := I0.mod.blt
  refine PySem.W.ks_loadName_global S.kind hks (Calls.loadGlobal_builtin (I0.mod.glob.keeps I0.bk) (PySem.W.mg_none_of e0.mod.kin e0.mod.glob hsup) (b1.keeps I0.bk) ((b2 _ (by decide)).trans PyProof.Rows.Boot.«super») ⟨rfl, ?_⟩)
  refine wpAny_loadName_free S.kind hcls rfl ⟨_, K1 _ _ hcell, rfl⟩ ?_
  rw [har]
  have hne' : (("self" : Str) == prm) = false := by simpa using Ne.symm hne
  refine wpAny_loadName_local S.kind hself hns (v := .ref a) (by simp [List.lookup, hne']) ?_
  have gC : h₁.get? C = some _ := K1 _ _ hC
  refine ks_wpAny_isType_cls gC rfl ⟨rfl, ?_⟩
  obtain ⟨t1, hx⟩ := exo_at I0.hok ea
  have hxC : a ≠ C := fun z => by
    rw [z, gC] at hx
    cases hx
  refine ks_wpAny_call_super gC rfl hx rfl (fun c e => by cases e) (PySem.W.looks_mroIn K1 hsub) fun h₂ hso kp2 => ?_
  have I2 : Inv X [] [some (.ref a), some v, none] H { s with heap := h₂, toks := s.toks + 2 } := I0.kept (t' := s.toks + 2) kp2
  have K2 : K.In h₂ := K1.keeps kp2
  have hT : PySem.W.Looks (model P w) h₂ (typeOf (.ref a)) (.ref C) := fun A Q E s k q => wpAny_typeOf_ref (k _ _ (kp2 _ _ hx)) q
  have hI : PySem.W.Looks (model P w) h₂ (isInstance (.ref a) (.type "ValueError")) true := hT.andThen (PySem.W.looks_subIn K2 hisV)
  have hm : PySem.W.alongIn K ("__init__" : Str) (((.ref C :: bm : List Value).dropWhile (· != .ref C)).drop 1) = some (some (.builtin "ValueError.__init__")) := by
    have := hnxt
    unfold PySem.W.ks_superIn at this
    rw [hcl] at this
    exact this
  refine PySem.W.kxs_getMethod PySem.W.kxs_ValueError hso (PySem.W.looks_opaque K2 hopq) (l₀ := .ref C :: bm) (fun A Q E s k q => wpAny_bind ((PySem.W.looks_clsIn K2 hcl) A _ E s k (wpAny_pure q))) rfl K2 hm hI hxC (by decide) ?_
  have kp3 : ∀ b o, h₂.get? b = some o → (h₂.push (PySem.W.kxs_mw "ValueError.__init__" a)).get? b = some o := fun b o e => Heap.get?_push_of_some _ e
  have hu : (h₂.push (PySem.W.kxs_mw "ValueError.__init__" a)).get? h₂.objs.size = some (PySem.W.kxs_mw "ValueError.__init__" a) := Heap.get?_push_at rfl rfl
  have I3 : Inv X [] [some (.ref a), some v, none] H { s with heap := h₂.push (PySem.W.kxs_mw "ValueError.__init__" a), toks := s.toks + 2 + 1 + 1 } := I2.kept (t' := s.toks + 2 + 1 + 1) kp3
  have hx3 := kp3 _ _ (kp2 _ _ hx)
  have hC3 := kp3 _ _ (kp2 _ _ gC)
  show wpAny _ _ (callWith p4 (.ref h₂.objs.size) [] ((false, eval (.Constant (.str msg) j p3) env) :: []) []) _ _ _
  refine PySem.W.kxs_callWith (i := "ValueError.__init__") (x := a) rfl (evalArgs_plain (Calls.spliced_cons (Calls.Constant_str (Calls.spliced_nil ⟨hu, ?_⟩))))
  have FB := F.excBase_ValueError
  refine wpAny_call (codeAny_of_tree ?_)
  show wpAny _ _ (callAny (.ref h₂.objs.size) ⟨[.str msg _], []⟩) _ _ _
  simp only [callAny]
  refine wpAny_bind (wpAny_load hu ?_)
  simp only [PySem.W.kxs_mw, show (Value.type "method-wrapper" == Value.type "method" || Value.type "method-wrapper" == Value.type "builtin_function_or_method" || Value.type "method-wrapper" == Value.type "method-wrapper") = true by decide, if_true]
  refine PySem.W.KFB.if_so (by decide) ?_
  refine wpAny_bind (PySem.W.check_bound_init FB.toExcCallFacts hC3 hx3 rfl ?_)
  refine wpAny_bind (wpAny_pure (wpAny_pure ?_))
  refine ⟨plainId_quiet FB.init.plain _, codeAny_builtin FB.initEntry ?_⟩
  refine PySem.W.exc_init_tree (cls := .ref C) (t0 := t1) (dv := none) (c2 := .none) (c3 := .none) (b4 := .bool false) hx3 (by rw [sizeLine_eq]; show 1 ≤ 16777216; omega) fun h4 k4 x4 _ => ?_
  have J0 : Inv X [] [some (.ref a), some v, none] (upd H a (exo a C none)) { s with heap := h4, toks := s.toks + 2 + 1 + 1 } := I3.write (t' := s.toks + 2 + 1 + 1) (x := a) (e := a) (o := exo a C none) (by rw [ea]; exact True.intro) (.inl rfl) k4 ⟨_, x4⟩ (exo_ok x4)
  have eu : upd H a (exo a C none) = H := by
    funext b
    by_cases hbb : b = a
    · rw [hbb, upd_same, ea]
    · rw [upd_ne hbb]
  rw [eu] at J0
  show _root_.PySem.wpAt (model P w) (A.deeper env) (.func Fn0.body env) (execs [.Assign [.Attribute (.Name "self" p6) fld p7] (.Name prm p8) p9] env) _ _ _
  refine wpAt_of_wpAny ?_
  have pself : PE X (.Name "self" p6) (tVar 0) := pe_var (i := 0) (x := "self") rfl (.inl hself)
  have pprm : PE X (.Name prm p8) (tVar 1) := pe_var (i := 1) (x := prm) rfl (.inl hprm) hdb hcdt
  have ps := pss_one (ps_ost (f := fld) (p' := p7) (pos := p9) pself pprm)
  have run := ps.run [] { s with heap := h4, toks := s.toks + 2 + 1 + 1 } [some (.ref a), some v, none] H { nx := fun _ H' => Q .non H', rt := Q } J0
    ⟨v, rfl, .ref a, rfl, a, C, rfl, T, hnof, .inl ⟨ea, fun dx n ne => q dx n ne⟩⟩
  refine wpAny_mono run (fun fl s' hs => ?_) fun e s' hs => hs
  have fin : ∀ {σ' : L2.St} {H' : Hp} {v : V} {u : Value}, Inv X [] σ' H' s' → L2.RelV v u → Q v H' → CE outer P w H s Q u s' :=
    fun {σ' H' v u} J rv q => ⟨v, H', J.os, J.bare, J.base, J.hok, rv, q⟩
  cases fl with
  | ret u =>
    obtain ⟨v, σ', H', J, rv, q⟩ := hs
    exact fin J rv q
  | next =>
    obtain ⟨σ', H', J, q⟩ := hs
    exact fin (v := V.non) (u := Value.none) J rfl q
  | brk =>
    obtain ⟨_, _, _, q⟩ := hs
    exact False.elim q
  | cont =>
    obtain ⟨_, _, _, q⟩ := hs
    exact False.elim q
end NC

/-! ### raise, try -/
namespace NC
open PySem L2 PySem.Spec PyProof.Rows
theorem pmk_ex {X : Cx} {C fI : Addr} {fd : FuncData} {prm fld x : Str} {e : Expr} {es : List Expr} {ta : TA} {p pos : Pos} (Ex : ExAt X.prog X.K C fI fd prm fld) (iC : PySem.W.findIn X.K (.ref C) "__init__" = some (some (.ref fI))) (tI : PySem.W.typeIn X.K (.ref fI) = some (.type "function"))
    (hr : Room 1 X.A) (hb : Binds X.K fd ["self", prm] []) (hg : Gl X x) (hm : X.mg x = some (.ref C)) (ha : PA X (e :: es) ta) (hdb : (x == ("__debug__" : Str)) = false)
    (he : starEach (e :: es) X.env = (false, eval e X.env) :: starEach es X.env) (hpl : (backTo pos (starEach es X.env)).any (·.1) = false) :
    L2N.PMk X (.Call (.Name x p) (e :: es) [] pos) (fun σ H Q => ta σ H fun vs H1 => ∃ v, vs = [v] ∧ ∀ d, H1 d = none → Q (.ref C) (some d) (upd H1 d (.xd [(fld, v)]))) := by
  intro pins s σ H Q I h
  have T := Ex.T
  have F1 := exc_init_ok (w := X.w) (mg := X.mg) (base := X.base) (CX := L2N.CX X.prog X.w) Ex
  obtain ⟨nm, q, N, bs, bm, sn, sub, ab, col, dd, k0, k1, k2, k3, k5, hC, hbm⟩ := T.cls
  refine wpAny_Call_Name_kw (ld_glob I hg hm ?_ hdb)
  refine PySem.W.callWith_K (h₀ := X.base) I.ok.mod.kin T.kC (thn (ha.run pos pins s σ H _ I h) fun us s1 ⟨vs, H1, I1, r1, v, hv, q1⟩ => ⟨I1.kIn, ?_⟩) he hpl
  subst hv
  show wpAny _ _ (call (.ref C) us) _ _ _
  obtain ⟨hp, g, dr, tk, os⟩ := s1
  have hsz : hp.objs.size ≤ hp.objs.size + 1 := Nat.le_succ _
  have hn : H1 (hp.objs.size + 1) = none := I1.hok.fresh hsz
  have hq : spEx C fld (.ref (hp.objs.size + 1) :: [v]) (upd H1 (hp.objs.size + 1) (exo (hp.objs.size + 1) C none)) (fun w H2 => w = .non ∧ ∃ (d : Addr), H2 (hp.objs.size + 1) = some (exo (hp.objs.size + 1) C (some d)) ∧ H2 d = some (exd d [(fld, v)]) ∧ H1 d = none ∧ upd (del H2 (hp.objs.size + 1)) d (.xd [(fld, v)]) = upd H1 d (.xd [(fld, v)])) (fun _ _ _ => False) := by
    refine ⟨_, v, rfl, upd_same, fun d hd hda => ⟨rfl, d, upd_same, by rw [upd_ne hda, upd_same], by rw [upd_ne hda] at hd; exact hd, ?_⟩⟩
    funext b
    by_cases hbd : b = d
    · rw [hbd, upd_same, upd_same]
    · rw [upd_ne hbd, upd_ne hbd]
      by_cases hba : b = hp.objs.size + 1
      · rw [hba, del_same, hn]
      · rw [del_ne hba, upd_ne hba, upd_ne hbd, upd_ne hba]
  have kk : ∀ b o, hp.get? b = some o → ((hp.push (PySem.W.kdv_tup us)).push (PySem.HandSPX.excO C hp.objs.size)).get? b = some o := fun b o e => Heap.get?_push_of_some _ (Heap.get?_push_of_some _ e)
  have hget : ((hp.push (PySem.W.kdv_tup us)).push (PySem.HandSPX.excO C hp.objs.size)).get? (hp.objs.size + 1) = some (PySem.HandSPX.excO C hp.objs.size) := by heap_get
  have I2 : Inv X pins σ (upd H1 (hp.objs.size + 1) (exo (hp.objs.size + 1) C none)) ⟨(hp.push (PySem.W.kdv_tup us)).push (PySem.HandSPX.excO C hp.objs.size), g, dr, tk, os⟩ :=
    I1.laid (t' := tk) (a := hp.objs.size + 1) (o := exo (hp.objs.size + 1) C none) (h' := (hp.push (PySem.W.kdv_tup us)).push (PySem.HandSPX.excO C hp.objs.size)) kk hsz (exo_ok hget)
  have r2 : Vals (V.ref (hp.objs.size + 1) :: [v]) (Value.ref (hp.objs.size + 1) :: us) := .cons rfl r1
  have hlu : us.length = 1 := r1.length.symm
  have hb2 := hb ⟨(hp.push (PySem.W.kdv_tup us)).push (PySem.HandSPX.excO C hp.objs.size), g, dr, tk, os⟩ (Value.ref (hp.objs.size + 1) :: us) I2.kIn (by rw [List.append_nil, List.length_cons, hlu]; rfl)
  rw [List.append_nil] at hb2
  refine wpAny_call (PySem.HandSPX.call_own F.excBase_ValueError (fun Y => PySem.HandSPX.refsVE_contains Y bm hbm) (I1.kIn _ _ hC) (PySem.W.looks_findIn I1.kIn iC) (fun self => PySem.W.bind_fn I1.kIn self tI) (by rw [hlu, sizeLine_eq]; omega)
    (codeAny_mono (F1.run _ X.stack _ _ ⟨Value.ref (hp.objs.size + 1) :: us, []⟩ (Value.ref (hp.objs.size + 1) :: us) _ _ (fun _ _ _ => False) (hr.make C us []) (I2.env0.make C us []) hb2 r2 hq) fun r s' hq' => ?_))
  cases r with
  | error er =>
    obtain ⟨_, _, _, _, _, _, _, _, _, _, _, _, z⟩ := (show L2N.CX X.prog X.w X.stack _ _ (fun _ _ _ => False) er s' from hq')
    exact z.elim
  | ok fl =>
    cases fl with
    | ret u =>
      obtain ⟨w2, H2, os2, bare2, un2, hok2, rv, ev, d, ea, ed, hd1, eH⟩ := hq'
      subst ev
      obtain ⟨h2, g2, d2, t2, os'⟩ := s'
      refine ⟨rv, ?_⟩
      obtain ⟨t0, G, J, kG, ge, hoe, na⟩ := mk_end0 (d2 := d2) (t2 := t2) I1 hsz kk un2 hok2 os2 bare2 ea ed hd1
      exact ⟨_, _, _, ⟨G, g2, d2, t2, os'⟩, _, .ref C, some d, rfl, J, kG, ge, hoe, ⟨rfl, rfl, fun vs0 e0 => by cases e0; rfl⟩, rfl, rfl, na, rfl, bare2, raises_own T.exC T.tyC, by rw [eH]; exact q1 d hd1⟩
    | next => exact False.elim hq'
    | brk => exact False.elim hq'
    | cont => exact False.elim hq'

/-- an exception's class, raised -/
def dfX (c fld : Str) : Df := ⟨fun _ as st => match as with
  | [(_, d)] => .exc ⟨c, [(fld, d)]⟩ st
  | _ => .stuck⟩
structure RaiseOk (M : Mo) (c fld : Str) : Prop where
  ex : ∃ (C fI : Addr) (fd : FuncData) (prm : Str), M.mg c = some (.ref C) ∧ M.T.cls c = some C ∧ ExAt M.P M.T.K C fI fd prm fld ∧ PySem.W.findIn M.T.K (.ref C) "__init__" = some (some (.ref fI)) ∧ PySem.W.typeIn M.T.K (.ref fI) = some (.type "function") ∧ Binds M.T.K fd ["self", prm] [] ∧
    ((∀ as st, M.cl c as st = .stuck) ∨ (1 ≤ M.n ∧ ∀ m d st, M.cl c [(m, d)] st = .exc ⟨c, [(fld, d)]⟩ st))
def sRaise (cl : Calls) (c : Str) (fe : F) : FS := fun env st => match fe env st with
  | .ok d st1 => (cl c [(.esc, d)] st1).out env fun _ _ => .stuck
  | _ => .stuck
section
variable {G : Ct} {M : Mo} {m : Md} {e : Expr} {fe : F} {p1 pos pos2 : Pos} {c fld : Str}
theorem ss_raise (hm : M.hot = false) (hr : RaiseOk M c fld) (hg : G.sc.names.lookup c = some .globalImplicit) (he : SndE G M .esc e fe) (hdb : (c == ("__debug__" : Str)) = false := by decide)
    (hs : ∀ env, starEach (e :: []) env = (false, eval e env) :: starEach [] env := by intro _; rfl) (hpl : ∀ env, (backTo pos (starEach [] env)).any (·.1) = false := by intro _; rfl) : SndS G M (.Raise (some (.Call (.Name c p1) [e] [] pos)) none pos2) (sRaise M.cl c fe) := by
  intro X C gd
  obtain ⟨C0, fI, fd, prm, h1, h2, h3, h4, h5, h6, h7⟩ := hr.ex
  rcases h7 with h7 | ⟨hn, h7⟩
  · refine ps_never.imp fun E σ H ⟨w, env, st, s, p⟩ => ?_
    unfold sRaise at p
    split at p
    · rw [h7] at p; exact p
    · exact p
  · have ha : SndL G M [.esc] [e] (lCons fe lNil) := sl_esc he sl_nil hs
    have room : Room 1 X.A := (gd.cold hm).2.1.mono hn
    refine (L2N.ps_raise (gd.cold hm).1 gd.tk (pmk_ex (C := C0) (fI := fI) (fd := fd) (prm := prm) (fld := fld) (by rw [gd.p, gd.K]; exact h3) (by rw [gd.K]; exact h4) (by rw [gd.K]; exact h5) room (by rw [gd.K]; exact h6) (by show X.env.scope.names.lookup _ = _; rw [gd.sc]; exact hg) (by rw [gd.mg]; exact h1) (ha X C gd) hdb (hs _) (hpl _))).imp fun E σ H ⟨w, env, st, s, p⟩ => ⟨w, env, st, s, ?_⟩
    unfold sRaise at p
    unfold lCons lNil
    cases q : fe env st with
    | stuck => rw [q] at p; exact p.elim
    | exc x st' => rw [q] at p; exact p.elim
    | ok d st1 =>
      rw [q] at p
      dsimp only at p
      rw [h7] at p
      intro w1 vs H1 l1 s1 r1
      cases r1 with
      | @esc _ _ _ v0 _ r rn =>
        cases rn
        refine ⟨_, rfl, fun dx hd => ?_⟩
        have l2 : Le w1 H1 w1 (upd H1 dx (.xd [(fld, v0)])) := Le.push hd
        refine p w1 σ _ _ _ (s1.push hd) ⟨C0, by rw [gd.T]; exact h2, rfl, .inr ⟨dx, _, rfl, upd_same, ⟨rfl, .cons (Rep.to (l2.ok2 s1.sto) _ _ r) .nil⟩, fun z => (s1.al dx z).1 hd, fun z => ?_⟩⟩
        obtain ⟨o, ho, _⟩ := s1.sto.has z
        rw [hd] at ho; cases ho
end
end NC

/-! ### try: body, except C as n: suite -/
namespace NC
open PySem L2
def notExc (env : Ev) : Bool := env.all fun s => match s with
  | some (.exc, _) => false
  | _ => true
theorem notExc_get {env : Ev} (h : notExc env = true) {i : Nat} {d : D} : env[i]? ≠ some (some (.exc, d)) := fun e => by
  have := List.all_eq_true.mp h _ (List.mem_of_getElem? e)
  simp at this
def unX (i : Nat) : Out → Out
  | .next e st => if notExc (e.set i none) = true then .next (e.set i none) st else .stuck
  | .brk e st => if notExc (e.set i none) = true then .brk (e.set i none) st else .stuck
  | .cont e st => if notExc (e.set i none) = true then .cont (e.set i none) st else .stuck
  | .ret d st => .ret d st
  | _ => .stuck
def sTry (i : Nat) (mt : Str → Option Bool) (fb fs : FS) : FS := fun env st => match fb env st with
  | .exc x env1 st1 => match mt x.c with
    | some true => match x.fs with
      | [(f, d)] => if i < env1.length then unX i (fs (env1.set i (some (.exc, .tup [.str x.c, .str f, d]))) st1) else .stuck
      | _ => .stuck
    | some false => .exc x env1 st1
    | none => .stuck
  | o => o
section
variable {T : Tb} {B : Bs} {w : Wd} {env : Ev} {st : Sto} {σ : L2.St} {H : Hp}
theorem Sim.setEx (s : Sim T B w env st σ H) (hn : B.ex = none) (x : Option (Addr × Str × Value × Addr)) : Sim T ⟨B.w, B.H, B.pin, x⟩ w env st σ H := by
  obtain ⟨bw, bH, bp, bx⟩ := B
  refine ⟨s.len, fun i sl e => ?_, s.dist, s.sto, s.al, s.le, s.sub, s.bal, s.pin⟩
  have q := s.slot i sl e
  match sl, q with
  | none, _ => trivial
  | some (.frz, d), q => exact q
  | some (.own, d), q => exact q
  | some (.bor, d), q => exact q
  | some (.exc, d), ⟨a, c, cls, dd, f, v0, e, e1, _⟩ => exact absurd (hn.symm.trans e1) (by intro z; cases z)
theorem Sim.unEx {x : Option (Addr × Str × Value × Addr)} (s : Sim T ⟨B.w, B.H, B.pin, x⟩ w env st σ H) (hn : notExc env = true) : Sim T B w env st σ H := by
  obtain ⟨bw, bH, bp, bx⟩ := B
  refine ⟨s.len, fun i sl e => ?_, s.dist, s.sto, s.al, s.le, s.sub, s.bal, s.pin⟩
  have q := s.slot i sl e
  match sl, q, e with
  | none, _, _ => trivial
  | some (.frz, d), q, _ => exact q
  | some (.own, d), q, _ => exact q
  | some (.bor, d), q, _ => exact q
  | some (.exc, d), _, e => exact absurd e (notExc_get hn)
end
section
variable {G : Ct} {M : Mo} {body suite : List Stmt} {b0 : Stmt} {fb fs : FS} {i : Nat} {n cx : Str} {np pos pos' : Pos} {mt : Str → Option Bool}
theorem ss_try (hm : M.hot = false) (hbk : G.bk = none) (hN : G.N[i]? = some n) (hln : G.sc.names.lookup n = some .local) (hcx : G.sc.names.lookup cx = some .globalImplicit)
    (hT : ∃ CE, M.mg cx = some (.ref CE) ∧ ∀ c b, mt c = some b → ∀ C0, M.T.cls c = some C0 → PySem.W.exmOne M.T.K (.ref C0) (.ref CE) = some b)
    (hb : SndB G M body fb) (hs : SndB G { M with hot := true } (b0 :: suite) fs) (hdb : (cx == ("__debug__" : Str)) = false := by decide) :
    SndS G M (.Try body [.ExceptHandler (some (.Name cx np)) (some n) (b0 :: suite) pos'] [] [] pos) (sTry i mt fb fs) := by
  intro X C gd
  obtain ⟨CE, hmg, hmt⟩ := hT
  have hex : C.B.ex = none := (gd.cold hm).2.2
  have hK : X.K = C.T.K := by rw [gd.K, gd.T]
  let Cb : WX → Cf := fun W => ⟨C.T, C.B, W⟩
  let Cs : Addr → Str → Value → Addr → Cf := fun a c cls dd => ⟨C.T, ⟨C.B.w, C.B.H, C.B.pin, some (a, c, cls, dd)⟩, fun _ _ _ _ => False⟩
  have hsu : ∀ (a : Addr) (oe : Obj) (cls : Value) (d : Option Addr) (pn : List (Addr × Obj)), L2N.Zn cls d oe → (∃ vs, oe.data = .fields vs) → PSs (L2.Cx.suite X a ((a, oe) :: pn)) (b0 :: suite) (fun D σ H => ∃ c dd C0, d = some dd ∧ C.T.cls c = some C0 ∧ cls = .ref C0 ∧ tS (Cs a c cls dd) fs D σ H) := by
    intro a oe cls d pn hz hv
    refine ⟨fun pins s σ H D I ⟨c, dd, C0, hd, hc, hcl, q⟩ => ?_⟩
    subst hd
    have gd' : Gd G { M with hot := true } (L2.Cx.suite X a ((a, oe) :: pn)) (Cs a c cls dd) :=
      ⟨gd.p, gd.w, gd.K, gd.T, gd.mg, gd.base, gd.N, gd.sc, gd.nd, fun h => Bool.noConfusion h, gd.frm, fun _ => ⟨⟨(gd.cold hm).2.1.dp, (gd.cold hm).2.1.un⟩, ⟨(a, oe), ⟨rfl, hv.elim fun vs e => ⟨vs, e, hz.2.2 vs e⟩⟩, List.mem_cons_self⟩⟩,
        fun a' c' cls' dd' e => by cases e; exact ⟨X, oe, pn, rfl, hz.zc, hv, C0, hc, hcl⟩, gd.fn, PassesOwn.never, takesN⟩
    exact (hs _ _ gd').run pins s σ H D I q
  refine (L2N.ps_try_as (Wout := C.W) (c := .ref CE) (gd.frm hbk).1 (gd.frm hbk).2 gd.nd (by rw [gd.N]; exact hN) (by show X.env.scope.names.lookup _ = _; rw [gd.sc]; exact hln) ⟨by show X.env.scope.names.lookup _ = _; rw [gd.sc]; exact hcx, hdb, .inl (by rw [gd.mg]; exact hmg)⟩ gd.tk
    (tb := fun W => tS (Cb W) fb) (fun W pn xe tk pown => hb _ (Cb W) ⟨gd.p, gd.w, gd.K, gd.T, gd.mg, gd.base, gd.N, gd.sc, gd.nd, fun h => gd.cold h, gd.frm, fun h => absurd (hm.symm.trans h) (by decide), fun a c cls dd e => absurd (hex.symm.trans e) (by intro z; cases z), gd.fn, pown, tk⟩) hsu).imp fun D σ H ⟨w, env, st, s, p⟩ => ⟨w, env, st, s, ?_⟩
  unfold sTry at p
  cases q : fb env st with
  | next e1 st1 => rw [q] at p; exact p
  | ret d st1 => rw [q] at p; exact p
  | brk e1 st1 => rw [q] at p; exact p
  | cont e1 st1 => rw [q] at p; exact p
  | stuck => rw [q] at p; exact p
  | exc x e1 st1 =>
    rw [q] at p
    dsimp only at p
    intro w1 σ1 H1 cls dx s1 xr
    obtain ⟨C0, k1, k2, k3⟩ := id xr
    cases q2 : mt x.c with
    | none => rw [q2] at p; exact p.elim
    | some b =>
      rw [q2] at p
      refine ⟨b, by rw [hK, k2, gd.T]; exact hmt _ _ q2 C0 (by rw [← gd.T]; exact k1), fun hbt a ha => ?_, fun hbf => ?_⟩
      · subst hbt
        dsimp only at p
        split at p
        · rename_i f d hfs
          split at p
          · rename_i hi
            rcases k3 with k3 | ⟨dd, fv, k4, k5, k6, k7, k8⟩
            · rw [hfs] at k3; cases k3
            · rw [hfs] at k6
              obtain ⟨g1, g2⟩ := k6
              match fv, g1, g2 with
              | [(f', v0)], g1, g2 =>
                cases g2 with
                | cons gr gn =>
                  simp at g1
                  subst g1
                  refine ⟨x.c, dd, C0, k4, k1, k2, w1, e1.set i (some (.exc, .tup [.str x.c, .str f', d])), st1, (s1.setEx hex _).set hi ⟨a, x.c, cls, dd, f', v0, d, rfl, rfl, rfl, k5, k7, k8, gr⟩ (fun d' e => by cases e), ?_⟩
                  have drop : ∀ {w e st σ H}, Sim C.T (Cs a x.c cls dd).B w e st σ H → notExc (e.set i none) = true → Sim C.T C.B w (e.set i none) st (σ.set i none) H := fun s h => Sim.unEx (s.wipe [i]) h
                  cases q3 : fs (e1.set i (some (.exc, .tup [.str x.c, .str f', d]))) st1 with
                  | next e2 st2 =>
                    rw [q3] at p
                    by_cases hne : notExc (e2.set i none) = true
                    · have p2 : PostS C D (if notExc (e2.set i none) = true then .next (e2.set i none) st2 else .stuck) := p
                      rw [if_pos hne] at p2
                      exact fun w σ H s2 => p2 w _ H (drop s2 hne)
                    · have p2 : PostS C D (if notExc (e2.set i none) = true then .next (e2.set i none) st2 else .stuck) := p
                      rw [if_neg hne] at p2
                      exact p2.elim
                  | brk e2 st2 =>
                    rw [q3] at p
                    by_cases hne : notExc (e2.set i none) = true
                    · have p2 : PostS C D (if notExc (e2.set i none) = true then .brk (e2.set i none) st2 else .stuck) := p
                      rw [if_pos hne] at p2
                      exact fun w σ H s2 => p2 w _ H (drop s2 hne)
                    · have p2 : PostS C D (if notExc (e2.set i none) = true then .brk (e2.set i none) st2 else .stuck) := p
                      rw [if_neg hne] at p2
                      exact p2.elim
                  | cont e2 st2 =>
                    rw [q3] at p
                    by_cases hne : notExc (e2.set i none) = true
                    · have p2 : PostS C D (if notExc (e2.set i none) = true then .cont (e2.set i none) st2 else .stuck) := p
                      rw [if_pos hne] at p2
                      exact fun w σ H s2 => p2 w _ H (drop s2 hne)
                    · have p2 : PostS C D (if notExc (e2.set i none) = true then .cont (e2.set i none) st2 else .stuck) := p
                      rw [if_neg hne] at p2
                      exact p2.elim
                  | ret d2 st2 => rw [q3] at p; exact p
                  | exc x2 e2 st2 => rw [q3] at p; exact p.elim
                  | stuck => rw [q3] at p; exact p.elim
          · exact p.elim
        · exact p.elim
      · subst hbf
        exact p w1 σ1 H1 cls dx s1 xr
end
end NC

/-! ### in the suite: e.f, isinstance(e, C) -/
namespace NC
open PySem L2
/-- e.f, e the caught exception, its class one of cs -/
def bXat (i : Nat) (cs : List Str) (f : Str) : F := fun env st => match env[i]? with
  | some (some (.exc, .tup [.str c, .str g, d])) => if g = f ∧ cs.contains c = true then .ok d st else .stuck
  | _ => .stuck
section
variable {G : Ct} {M : Mo} {i : Nat} {x f : Str} {pe pos : Pos} {cs : List Str}
theorem sn_xat (hN : G.N[i]? = some x) (hv : Vis G.sc x) (hcs : ∀ c, cs.contains c = true → ∀ C0, M.T.cls c = some C0 → XfC M.T.K C0 ∧ PySem.W.findIn M.T.K (.ref C0) f = some none)
    (hd : (x == ("__debug__" : Str)) = false := by decide) (hcd : (x == ("__classdict__" : Str)) = false := by decide) (hb : ∀ env, attributeBase (.Name x pe) f env (eval (.Name x pe) env) = eval (.Name x pe) env := by intro _; rfl) : SndE G M .esc (.Attribute (.Name x pe) f pos) (bXat i cs f) := by
  intro X C gd
  cases q : C.B.ex with
  | none =>
    refine ⟨fun pins s σ H Q I ⟨w, env, st, s0, p⟩ => ?_⟩
    exfalso
    unfold bXat at p
    split at p
    · rename_i c g d hi
      obtain ⟨a, c, cls, dd, f, v0, e, e1, _⟩ := s0.slot i _ hi
      rw [q] at e1; cases e1
    · exact p
  | some z =>
    obtain ⟨a, c0, cls, dd⟩ := z
    obtain ⟨X0, oe, pn, hX, hz, hvs, C0, hc, hcl⟩ := gd.exk a c0 cls dd q
    have hKX : X.K = M.T.K := gd.K
    by_cases hin : cs.contains c0 = true
    · obtain ⟨g1, g2⟩ := hcs c0 hin C0 (by rw [← gd.T]; exact hc)
      have hN' : X.N[i]? = some x := by rw [gd.N]; exact hN
      have hv' : Vis X.env.scope x := by rw [gd.sc]; exact hv
      have pv : PE X (.Name x pe) (tVar i) := pe_var (i := i) (x := x) hN' hv' hd hcd
      have hbX := hb X.env
      have key : PE X (.Attribute (.Name x pe) f pos) (tXf a cls (some dd) C0 f (tVar i)) := by
        subst hX
        exact pe_xf (X := X0) (by rw [show X0.K = M.T.K from hKX]; exact g1) (by rw [show X0.K = M.T.K from hKX]; exact g2) hz hvs pv hbX
      refine key.imp fun σ H Q ⟨w, env, st, s0, p⟩ => ?_
      unfold bXat at p
      split at p
      · rename_i c g d hi
        obtain ⟨a', c', cls', dd', f', v0, e, e1, e2, e3, e4, e5, e6, e7⟩ := s0.slot i _ hi
        rw [q] at e1
        cases e1
        cases e3
        split at p
        · rename_i hgf
          obtain ⟨rfl, _⟩ := hgf
          exact ⟨.ref a, join_some e2, rfl, hcl, dd, _, v0, rfl, e4, by simp [List.lookup], p w v0 H (.refl _ _) s0 e7⟩
        · exact p.elim
      · exact p.elim
    · refine ⟨fun pins s σ H Q I ⟨w, env, st, s0, p⟩ => ?_⟩
      exfalso
      unfold bXat at p
      split at p
      · rename_i c g d hi
        obtain ⟨a', c', cls', dd', f', v0, e, e1, e2, e3, _⟩ := s0.slot i _ hi
        rw [q] at e1
        cases e1
        cases e3
        rw [if_neg fun z => hin z.2] at p
        exact p
      · exact p
end
end NC

namespace PySem.W
open PySem PySem.Spec PySem.Calls PyProof.Rows
section
variable {prog : Program} {w : World} {A : Around} {E : Value → Shared → Prop} {s : Shared} {K : Frag} {x D : Addr} {ox od : Obj}
theorem nc_findObj {C : Addr} {name : Str} {a g : Value} (hc : (clsIn K C).isSome = true) (ha : findIn K (.ref C) name = some (some a)) (hg : specialIn K a "__get__" = some (some g)) (ht : takesIn K a = some true) : findObj K C (some od) name = some (.bind g a) := by
  obtain ⟨cd, hc⟩ := Option.isSome_iff_exists.mp hc
  unfold findObj
  rw [hc, Option.bind_some, ha, Option.bind_some]
  simp [hg, ht]
theorem nc_classE {Q : Option Value → Shared → Prop} (C : L2.ExcC K D) (X : K.In s.heap) (I : InstAt s.heap x ox D (some od)) (h : Q (some (.ref D)) { s with toks := s.toks + 1 }) : wpAny (model prog w) A (getAttr? (.ref x) "__class__") Q E s := by
  have hf : findObj K D (some od) "__class__" = some (.bind (.builtin "getset_descriptor.__get__") (.builtin "object.__class__")) := nc_findObj (by obtain ⟨cd, hc, _⟩ := any_some C.hd; rw [hc]; rfl) C.ha C.hn C.ht
  obtain ⟨hp, g, d, t, os⟩ := s
  have L0 := I.type (M := model prog w)
  have L1 := looks_findIn (M := model prog w) X C.hg
  have L2 := looks_findIn (M := model prog w) X C.hk
  have L3 := looks_find (M := model prog w) X I hf
  have sub : Looks (model prog w) hp (isInstance (.ref x) (.type "BaseException")) true := L0.andThen (looks_subIn X C.hs)
  have hx0 : (false && onTheHeap (Value.builtin "BaseException.__getattribute__")) = false := rfl
  have hx2 : (Value.builtin "BaseException.__getattribute__" == Value.builtin "object.__getattribute__") = false := by decide +kernel
  have hx1 : (onTheHeap (Value.ref D) && Value.builtin "BaseException.__getattribute__" == Value.builtin "object.__getattribute__") = false := by rw [hx2]; rfl
  unfold getAttr? getAttrBy? getAttrBy
  refine wpAny_bind (wpAny_mkText (wpAny_bind (wpAny_attempt (wpAny_holding (wpAny_bind (L0.at (wpAny_bind (L1.at ?_))))))))
  show wpAny _ _ (if (onTheHeap (Value.ref D) && Value.builtin "BaseException.__getattribute__" == Value.builtin "object.__getattribute__") = true then _ else _) _ _ _
  rw [hx1, if_neg Bool.false_ne_true]
  unfold getAttrByItsOwn hookBefore
  refine wpAny_bind ?_
  rw [if_pos (show onTheHeap (Value.ref D) = true from rfl)]
  refine L2.at ?_
  refine wpAny_bind (wpAny_attempt (wpAny_holding ?_))
  unfold callGetattribute
  rw [hx0, if_neg Bool.false_ne_true]
  unfold boundAndCalled
  rw [PySem.F.excAttr_ValueError.ga.bind (.ref x)]
  refine wpAny_bind (wpAny_pure ?_)
  show wpAny _ _ (call (.builtin "BaseException.__getattribute__") [.ref x, .str "__class__" t]) _ _ _
  refine wpAny_call (codeAny_call_builtin PySem.F.excAttr_ValueError.ga.plain PySem.F.entry_bexc_ga ?_)
  refine @check_slot (model prog w) _ _ ⟨hp, g, d, t + 1, os⟩ "BaseException.__getattribute__" "BaseException" "__getattribute__" (.ref x) [.str "__class__" t] [] _ (by decide +kernel) (by decide +kernel) sub (PySem.F.args_bexc_ga (.ref x) (.str "__class__" t)) ?_
  unfold Builtin.«object.__getattribute__»
  refine wpAny_bind (wpAny_of_eq (a := ((Value.ref x : Value), [Value.str "__class__" t])) (by first | rfl | (simp only [slotArgs]; rfl)) ?_)
  refine wpAny_bind (wpAny_pure (wpAny_bind (L0.at (wpAny_bind (L3.at ?_)))))
  show wpAny _ _ (holding [Value.builtin "object.__class__"] (call (.builtin "getset_descriptor.__get__") [.builtin "object.__class__", .ref x, .ref D]) >>= ret) _ _ _
  refine wpAny_bind (wpAny_holding (wpAny_call (class_get (s := ⟨hp, g, d, t + 1, os⟩) (ox := ox) (od := some od) X I C.hm ?_)))
  refine wpAny_pure ?_
  show wpAny _ _ (handedOut (.ref D)) _ _ _
  rw [handedOut_of (v := .ref D) rfl]
  first
    | exact wpAny_pure (wpAny_pure h)
    | exact wpAny_pure h
    | exact wpAny_pure (wpAny_bind (wpAny_pure (wpAny_pure h)))
end
end PySem.W
namespace PySem.W
open PySem PySem.Spec PySem.Calls PyProof.Rows
theorem nc_kitx {K : Frag} {x D : Addr} {ox od : Obj} (C : L2.ExcC K D) : KitX K (.ref x) (.ref D) (fun h => InstAt h x ox D (some od)) where
  ty := fun _ _ _ I => I.type
  it := fun _ _ X _ => by
    obtain ⟨cdD, hcD, _⟩ := any_some C.hd
    unfold clsIn at hcD
    split at hcD
    · rename_i c' d' cd' sl' ho
      intro A' Q' E' s' k q
      unfold isType loadHead
      exact wpAny_bind (wpAny_loadPart (k _ _ (X _ _ ho)) (wpAny_pure q))
    · cases hcD
  ne := fun h tp dd its n sl X htp => by
    obtain ⟨cdD, hcD, _⟩ := any_some C.hd
    refine Bool.eq_false_iff.mpr fun q => ?_
    have e : D = tp := Value.ref.inj (beq_iff_eq.mp q)
    subst e
    unfold clsIn at hcD
    split at hcD
    · rename_i c' d' cd' sl' ho
      have z := (X _ _ ho).symm.trans htp
      cases z
    · cases hcD
  ca := fun X I k => nc_classE C X I k
end PySem.W
namespace NC
open PySem L2 PyProof.Rows PySem.Spec
def rIsX (K : PySem.W.Frag) (D a dd : Addr) : List V → Hp → VK → Prop := fun xs H Q => ∃ (c : V) (cv : Value) (b : Bool) (fs : List (Str × V)), xs = [.ref a, c] ∧ H dd = some (.xd fs) ∧ (∀ u, L2.RelV c u → u = cv) ∧ PySem.W.kitOne K (.ref D) cv = some b ∧ Q (.bl b) H
theorem call_isX {X : Cx} {a D dd : Addr} {oe : Obj} {pn : List (Addr × Obj)} (C : ExcC X.K D) (hz : Zc (.ref D) (some dd) oe) (hf : ∃ vs, oe.data = .fields vs) : CallR (L2.Cx.suite X a ((a, oe) :: pn)) (.builtin "isinstance") (rIsX X.K D a dd) := by
  intro pins s σ H xs us Q I r h
  obtain ⟨c, cv, b, fs, rfl, hx, hcv, e, q⟩ := h
  cases r with
  | cons rx rr =>
    cases rr with
    | cons rt rr =>
      cases rr
      cases rx
      have ec := hcv _ rt
      subst ec
      obtain ⟨hget, _⟩ := I.pin (a, oe) (List.mem_append.mpr (.inl List.mem_cons_self))
      obtain ⟨vs, hv⟩ := hf
      obtain ⟨mA, hns, hr⟩ := (show ObjOk X.prog X.w H s.heap dd (.xd fs) from I.hok dd _ hx)
      obtain ⟨od, ho, hl⟩ := lookIn_ns hns
      have J : PySem.W.InstAt s.heap a oe D (some od) := ⟨hget, hz.1, by unfold PySem.W.notCls; rw [hv] <;> rfl, by rw [hz.2]; exact ho⟩
      exact PySem.W.kia_one (PySem.W.nc_kitx C) I.kIn J e (fun z => nomatch z) fun tk => ⟨.bl b, H, I.kept (t' := tk) fun _ _ z => z, rfl, q⟩
end NC

namespace NC
open PySem L2
/-- isinstance(e, C), e the caught exception -/
def bXis (i : Nat) (mt : Str → Option Bool) : F := fun env st => match env[i]? with
  | some (some (.exc, .tup [.str c, .str g, d])) => match mt c with
    | some b => .ok (.bl b) st
    | none => .stuck
  | _ => .stuck
section
variable {G : Ct} {M : Mo} {m : Md} {i : Nat} {x cx : Str} {pe p1 p2 pos : Pos} {mt : Str → Option Bool}
theorem sn_xis (hN : G.N[i]? = some x) (hv : Vis G.sc x) (hg : G.sc.names.lookup ("isinstance" : Str) = some .globalImplicit) (hm : M.mg ("isinstance" : Str) = none) (hg2 : G.sc.names.lookup cx = some .globalImplicit)
    (hc : ∃ CE, M.mg cx = some (.ref CE) ∧ ∀ c b, mt c = some b → ∀ C0, M.T.cls c = some C0 → ExcC M.T.K C0 ∧ PySem.W.kitOne M.T.K (.ref C0) (.ref CE) = some b)
    (hd : (x == ("__debug__" : Str)) = false := by decide) (hcd : (x == ("__classdict__" : Str)) = false := by decide) (hdb : (cx == ("__debug__" : Str)) = false := by decide) : SndE G M m (.Call (.Name "isinstance" p1) [.Name x pe, .Name cx p2] [] pos) (bXis i mt) := by
  intro X C gd
  obtain ⟨CE, hmg, hmt⟩ := hc
  cases q : C.B.ex with
  | none =>
    refine ⟨fun pins s σ H Q I ⟨w, env, st, s0, p⟩ => ?_⟩
    exfalso
    unfold bXis at p
    split at p
    · rename_i c g d hi
      obtain ⟨a, c, cls, dd, f, v0, e, e1, _⟩ := s0.slot i _ hi
      rw [q] at e1; cases e1
    · exact p
  | some z =>
    obtain ⟨a, c0, cls, dd⟩ := z
    obtain ⟨X0, oe, pn, hX, hz, hvs, C0, hc0, hcl⟩ := gd.exk a c0 cls dd q
    have gl : ∀ {y : Str}, G.sc.names.lookup y = some .globalImplicit → Gl X y := fun {y} z => by show X.env.scope.names.lookup _ = _; rw [gd.sc]; exact z
    cases qm : mt c0 with
    | none =>
      refine ⟨fun pins s σ H Q I ⟨w, env, st, s0, p⟩ => ?_⟩
      exfalso
      unfold bXis at p
      split at p
      · rename_i c g d hi
        obtain ⟨a', c', cls', dd', f', v0, e, e1, e2, e3, _⟩ := s0.slot i _ hi
        rw [q] at e1
        cases e1
        cases e3
        rw [qm] at p
        exact p
      · exact p
    | some b =>
      obtain ⟨g1, g2⟩ := hmt c0 b qm C0 (by rw [← gd.T]; exact hc0)
      have pv : PE X (.Name x pe) (tVar i) := pe_var (i := i) (x := x) (by rw [gd.N]; exact hN) (by rw [gd.sc]; exact hv) hd hcd
      have pc : PE X (.Name cx p2) (tC (.ref CE)) := pe_glob (gl hg2) (by rw [gd.mg]; exact hmg) rfl hdb
      have key : CallR X (.builtin "isinstance") (rIsX X.K C0 a dd) := by
        have hKX : X.K = M.T.K := gd.K
        subst hX
        exact call_isX (X := X0) (by rw [show X0.K = M.T.K from hKX]; exact g1) (by rw [← hcl]; exact hz) hvs
      refine (pe_callB key (gl hg) (by rw [gd.mg]; exact hm) (by decide +kernel) (pa_cons pv (pa_cons pc pa_nil) (by rfl)) (by decide) (by decide) (by rfl) (by rfl)).imp fun σ H Q ⟨w, env, st, s0, p⟩ => ?_
      unfold bXis at p
      split at p
      · rename_i c g d hi
        obtain ⟨a', c', cls', dd', f', v0, e, e1, e2, e3, e4, e5, e6, e7⟩ := s0.slot i _ hi
        rw [q] at e1
        cases e1
        cases e3
        rw [qm] at p
        exact ⟨.ref a, join_some e2, .ref CE, .ref CE, b, _, rfl, e4, fun u r => r, by rw [gd.K]; exact g2, p.done s0 (RepM.bl _)⟩
      · exact p.elim
end

/-- what isinstance asks of an own class -/
structure InsC (K : PySem.W.Frag) (C : Addr) : Prop where
  ha : PySem.W.findIn K (.ref C) "__class__" = some (some (.builtin "object.__class__"))
  hn : PySem.W.specialIn K (.builtin "object.__class__") "__get__" = some (some (.builtin "getset_descriptor.__get__"))
  ht : PySem.W.takesIn K (.builtin "object.__class__") = some true
  hm : PySem.W.mroIn K C (.type "object") = some true
def isC (mt : Str → Option Bool) (st : Sto) : D → R D
  | .loc n => match st[n]? with
    | some (.ins c _) => match mt c with
      | some b => .ok (.bl b) st
      | none => .stuck
    | _ => .stuck
  | _ => .stuck
/-- isinstance(o, C), o an instance of an own class -/
def bIsC (mt : Str → Option Bool) (f : F) : F := fun env st => (f env st).bind fun d st1 => isC mt st1 d
theorem isC_cases {mt : Str → Option Bool} {st : Sto} {n : Nat} : isC mt st (.loc n) = .stuck ∨ ∃ c fs b, st[n]? = some (.ins c fs) ∧ mt c = some b ∧ isC mt st (.loc n) = .ok (.bl b) st := by
  unfold isC
  dsimp only
  cases q : st[n]? with
  | none => exact .inl rfl
  | some z =>
    cases z with
    | ins c fs =>
      dsimp only
      cases q2 : mt c with
      | none => exact .inl rfl
      | some b => exact .inr ⟨c, fs, b, rfl, q2, rfl⟩
    | lst ds => exact .inl rfl
    | dic t kvs => exact .inl rfl
section
variable {G : Ct} {M : Mo} {m : Md} {a : Expr} {f : F} {x cx : Str} {p1 p2 pos : Pos} {mt : Str → Option Bool}
theorem sn_isC (hg : G.sc.names.lookup ("isinstance" : Str) = some .globalImplicit) (hm : M.mg ("isinstance" : Str) = none) (hg2 : G.sc.names.lookup cx = some .globalImplicit)
    (hc : ∃ CE, M.mg cx = some (.ref CE) ∧ ∀ c b, mt c = some b → ∀ C0, M.T.cls c = some C0 → InsC M.T.K C0 ∧ PySem.W.kitOne M.T.K (.ref C0) (.ref CE) = some b)
    (ha : SndE G M .rd a f) (hs : ∀ env, starEach (a :: [.Name cx p2]) env = (false, eval a env) :: starEach [.Name cx p2] env := by intro _; rfl) (hdb : (cx == ("__debug__" : Str)) = false := by decide) :
    SndE G M m (.Call (.Name "isinstance" p1) [a, .Name cx p2] [] pos) (bIsC mt f) := by
  intro X C gd
  obtain ⟨CE, hmg, hmt⟩ := hc
  have gl : ∀ {y : Str}, G.sc.names.lookup y = some .globalImplicit → Gl X y := fun {y} z => by show X.env.scope.names.lookup _ = _; rw [gd.sc]; exact z
  have pc : PE X (.Name cx p2) (tC (.ref CE)) := pe_glob (gl hg2) (by rw [gd.mg]; exact hmg) rfl hdb
  have hK : X.K = C.T.K := by rw [gd.K, gd.T]
  refine (pe_callB call_isi (gl hg) (by rw [gd.mg]; exact hm) (by decide +kernel) (pa_cons (ha X C gd) (pa_cons pc pa_nil) (hs _)) (by decide) (by decide) (hs _) (by rfl)).imp fun σ H Q ⟨w, env, st, s, p⟩ => ⟨w, env, st, s, ?_⟩
  refine PostE.bind p fun d st1 w1 v1 H1 l1 s1 r1 p1 => ?_
  cases d with
  | loc n =>
    obtain ⟨aa, rfl, e3⟩ := RepR.loc r1
    rcases isC_cases (mt := mt) (st := st1) (n := n) with z | ⟨c, fs, b, q, q2, z⟩
    · rw [z] at p1; exact p1.elim
    · rw [z] at p1
      obtain ⟨C0, dx, fv, ⟨k0, k1, k2⟩, k3, k4⟩ := s1.sto.at_ n _ aa q e3
      obtain ⟨g1, g2⟩ := hmt c b q2 C0 (by rw [← gd.T]; exact k0)
      have hKM : X.K = M.T.K := gd.K
      exact ⟨.ref aa, .ref CE, .ref C0, .ref CE, b, rfl, .own CE, .base (.ins k3 (by rw [hK]; exact k1) (by rw [hKM]; exact g1.ha) (by rw [hKM]; exact g1.hn) (by rw [hKM]; exact g1.ht) (by rw [hKM]; exact g1.hm)), by rw [hKM]; exact g2, PostE.done p1 s1 (RepM.bl _)⟩
  | _ => exact p1.elim
end
end NC

/-! ### defs that a suite calls -/
namespace NC
open PySem L2
section
variable {P : Program} {w0 : World} {T : Tb} {mg : Str → Option Value} {base : Heap} {cl cl' : Calls} {n : Nat} {x nm qual : Str} {st : Stmt} {f : Addr} {fd : FuncData} {N ps : List Str} {sh : FS}
theorem fn_okH (F : Fun T.K nm qual st f fd) (S : FnScope N ps (defScope st)) (snd : SndB ⟨N, defScope st, none⟩ ⟨P, w0, T, mg, base, cl, n, true⟩ (defBody st) sh)
    (hcl : ∀ as s, cl' x as s = runD ps.length N.length sh as s) : L2H.FnH P w0 T.K mg base (L2N.CX P w0) (n + 1) f fd ps (spOf T cl' x) := by
  have hpl : ps.length ≤ N.length := by have := congrArg List.length S.pre; rw [List.length_take] at this; omega
  have asl : ∀ {as s T B Q E}, PostC T B (cl' x as s) Q E → as.length = ps.length := by
    intro as s T B Q E h
    rw [hcl] at h
    unfold runD at h
    split at h
    · assumption
    · exact h.elim
  obtain ⟨oc, od, kV, doc, pm, an, cdv, ct, osl, rfl, lk, hcd⟩ := F.ex
  refine L2H.fn_ofH lk hcd S (fun vs H Q E ⟨as, w, s, r, hs, al, p⟩ => ?_) (fun A outer s0 H vs Q E pp hot hr ⟨as, w, s, r, hs, al, p⟩ => ?_)
  · rw [r.len, List.length_map]; exact asl p
  · have hal := asl p
    rw [hcl] at p
    unfold runD at p
    rw [if_pos hal] at p
    let C : Cf := ⟨T, ⟨w, H, [], none⟩, fun c dx _ H => E c dx H⟩
    have gd : Gd ⟨N, defScope st, none⟩ ⟨P, w0, T, mg, base, cl, n, true⟩ (L2H.cxH (L2N.CX P w0) P w0 T.K mg base N qual (defScope st) f cdv A outer s0 H E pp) C :=
      ⟨rfl, rfl, rfl, rfl, rfl, rfl, rfl, rfl, S.nd, (fun h => Bool.noConfusion h), (fun _ => ⟨rfl, rfl⟩), (fun _ => ⟨hr, ⟨pp, hot, List.mem_cons_self⟩⟩), (fun a c cls dd e => by cases e), rfl, passes_of rfl, L2N.takes_of rfl rfl rfl rfl⟩
    refine ⟨_, snd _ C gd, w, startE as N.length, s, sim_start r hs al (by omega), ?_⟩
    have shrink : ∀ {w' : Wd} {env st σ H'}, Sim T C.B w' env st σ H' → Le w H ⟨w.S, w'.r⟩ H' ∧ Stok T ⟨w.S, w'.r⟩ H' st ∧ Ok2 w' H' ⟨w.S, w'.r⟩ H' := fun {w' env st σ H'} s' => by
      have ok : Ok2 w' H' ⟨w.S, w'.r⟩ H' := ⟨fun _ _ e => e, fun _ _ e _ => e, fun a o e n1 n2 => ⟨e, fun z => n1 (s'.sub a z), n2⟩⟩
      exact ⟨⟨s'.le.pre, s'.le.fr, s'.le.live, s'.le.new, fun a z => .inl z, fun a z => z⟩, s'.sto.to ok (fun _ _ => rfl) rfl, ok⟩
    cases e : sh (startE as N.length) s with
    | next env st' => rw [e] at p; exact fun w' σ H' s' => p .non H' (s'.ret .non)
    | ret d st' => rw [e] at p; exact fun v H' r' => p v H' r'
    | exc x env st' =>
      rw [e] at p
      intro w' σ H' c dx s' xr
      obtain ⟨l, hs', ok⟩ := shrink s'
      refine p w'.r H' c dx l hs' ?_
      obtain ⟨C', h1, h2, h3⟩ := xr
      refine ⟨C', h1, h2, h3.imp (fun z => z) fun ⟨d, fv, k1, k2, k3, k4, k5⟩ => ⟨d, fv, k1, k2, ⟨k3.1, Reps.to ok _ _ k3.2⟩, fun z => k4 (s'.sub d z), k5⟩⟩
    | brk env st' => rw [e] at p; exact p.elim
    | cont env st' => rw [e] at p; exact p.elim
    | stuck => rw [e] at p; exact p.elim
theorem fn_okH0 (hcl : ∀ as s, cl' x as s = .stuck) : L2H.FnH P w0 T.K mg base (L2N.CX P w0) 0 f fd ps (spOf T cl' x) := by
  refine ⟨fun vs H Q E ⟨as, w, s, r, hs, al, p⟩ => ?_, fun A outer s0 H args us vs Q E pp hr hot hpin e0 hb hv ⟨as, w, s, r, hs, al, p⟩ => ?_⟩
  · rw [hcl] at p; exact p.elim
  · rw [hcl] at p; exact p.elim
end
end NC

/-! ### exceptions at the head -/
namespace NC
open PySem L2
structure ExcAt (P : Program) (K : PySem.W.Frag) (mg : Str → Option Value) (c fld : Str) : Prop where
  ex : ∃ (C fI : Addr) (fd : FuncData) (prm : Str), mg c = some (.ref C) ∧ PySem.W.nsIn K mainGlobals c = some (some (.ref C)) ∧ ExAt P K C fI fd prm fld ∧ PySem.W.findIn K (.ref C) "__init__" = some (some (.ref fI)) ∧ PySem.W.typeIn K (.ref fI) = some (.type "function") ∧ Binds K fd ["self", prm] []
section
variable {P : Program} {w : World} {K : PySem.W.Frag} {mg : Str → Option Value} {base : Heap} {Δ : Str → Option Df} {n : Nat} {c fld : Str}
theorem raiseOk_zero (A : ExcAt P K mg c fld) : RaiseOk (MoN P w (Tx K) mg base Δ 0) c fld := by
  obtain ⟨C, fI, fd, prm, h1, h2, h3, h4, h5, h6⟩ := A.ex
  exact ⟨C, fI, fd, prm, h1, Tx_cls h2, h3, h4, h5, h6, .inl fun _ _ => rfl⟩
theorem raiseOk_succ (A : ExcAt P K mg c fld) (hΔ : Δ c = some (dfX c fld)) : RaiseOk (MoN P w (Tx K) mg base Δ (n + 1)) c fld := by
  obtain ⟨C, fI, fd, prm, h1, h2, h3, h4, h5, h6⟩ := A.ex
  exact ⟨C, fI, fd, prm, h1, Tx_cls h2, h3, h4, h5, h6, .inr ⟨Nat.le_add_left 1 n, fun m d st => interp_eq hΔ [(m, d)] st⟩⟩
end

theorem excAt_mk {P : Program} {K : PySem.W.Frag} {mg : Str → Option Value} {h : Heap} {c fld prm qual nm q : Str} {C fI N cda cc : Addr} {bs bm sub : List Value} {sn : List Str} {ab : Bool} {col : Option Bool} {dd an od cdd cld : Option Addr} {k0 k1 k2 k3 k5 : Option Value} {params : Arguments} {scope : Scope} {kV doc pm ct oc ccl cl : Value}
    {osl ccs csl : Array (Option Value)} {msg file : Str} {j : Nat} {p0 p1 p2 p3 p4 p5 p6 p7 p8 p9 : Pos} {vs : Array Value} {tf : Tok} {ar : Arg} (X : K.In h) (G : h.Ns mainGlobals mg)
    (a : PySem.W.nsIn K mainGlobals c = some (some (.ref C)))
    (lC : K.lookup C = some (excClassObj nm q C N bs bm true sn sub ab col dd k0 k1 k2 k3 k5 "ValueError.__new__")) (sa : PySem.W.findIn K (.ref C) "__setattr__" = some (some (.builtin "object.__setattr__")))
    (exC : PySem.W.subIn K (.ref C) (.type "BaseException") = some true) (tyC : PySem.W.typeIn K (.ref C) = some (.type "type")) (kC : PySem.W.keepIn K (.ref C) = true)
    (iC : PySem.W.findIn K (.ref C) "__init__" = some (some (.ref fI))) (tI : PySem.W.typeIn K (.ref fI) = some (.type "function"))
    (l : K.lookup fI = some ⟨oc, od, .func (PySem.W.ksFn "__init__" qual params [.Expr (.Call (.Attribute (.Call (.Name "super" p0) [] [] p1) "__init__" p2) [.Constant (.str msg) j p3] [] p4) p5, .Assign [.Attribute (.Name "self" p6) fld p7] (.Name prm p8) p9] scope .none kV doc pm an (.ref cda) ct cc), osl⟩)
    (cd : PySem.W.codeIn K (.ref cda) qual = true) (hcode : K.lookup cda = some ⟨ccl, cdd, .fields vs, ccs⟩) (hcell : K.lookup cc = some ⟨cl, cld, .cell (some (.ref C)), csl⟩)
    (sub_ : PySem.W.mroIn K C (.ref C) = some true) (sup : PySem.W.nsIn K mainGlobals "super" = some none) (opq : PySem.W.nsIn K cStatics "thirdparty.any" = some none)
    (nxt : PySem.W.ks_superIn K C C "__init__" = some (some (.builtin "ValueError.__init__"))) (isV : PySem.W.subIn K (.ref C) (.type "ValueError") = some true) (nof : PySem.W.findIn K (.ref C) fld = some none)
    (rv : PySem.HandSPX.refsVE bm = true) (hvs : vs[2]? = some (.str file tf)) (hfile : ((P.main.file : Str) == file) = true) (hp : (params.posonlyargs ++ params.args).head? = some ar) (har : ar.arg = "self")
    (S : NdefX.NScope ["self", prm, "__class__"] ["self", prm] ["__class__"] scope) (hks : scope.names.lookup ("super" : Str) = some .globalImplicit)
    (hev : ∀ env : Env, ∃ pl : Sem Bool, eval (.Call (.Attribute (.Call (.Name "super" p0) [] [] p1) "__init__" p2) [.Constant (.str msg) j p3] [] p4) env = (do
      let ov ← attributeBase (.Call (.Name "super" p0) [] [] p1) "__init__" env (eval (.Call (.Name "super" p0) [] [] p1) env)
      standAt p2.atName
      let (f, first) ← holding [ov] (getMethod ov "__init__" pl)
      callWith p4 f first (backTo p4 (starEach [.Constant (.str msg) j p3] env)) []))
    (top : (P.main.scope.names.lookup ("super" : Str)).isSome = false) (ne : prm ≠ "self") (db : (prm == ("__debug__" : Str)) = false) (cdt : (prm == ("__classdict__" : Str)) = false)
    (hb : ∀ us : List Value, us.length = 2 → bindArgs (PySem.W.ksFn "__init__" qual params [.Expr (.Call (.Attribute (.Call (.Name "super" p0) [] [] p1) "__init__" p2) [.Constant (.str msg) j p3] [] p4) p5, .Assign [.Attribute (.Name "self" p6) fld p7] (.Name prm p8) p9] scope .none kV doc pm an (.ref cda) ct cc) ⟨us, []⟩ = pure ((["self", prm] : List Str).zip us)) :
    ExcAt P K mg c fld :=
  ⟨C, fI, _, prm, PySem.W.mg_of X G a, a, ⟨⟨⟨nm, q, N, bs, bm, sn, sub, ab, col, dd, k0, k1, k2, k3, k5, lC, rv⟩, sa, exC, tyC, kC⟩, ⟨qual, params, scope, kV, doc, pm, ct, oc, an, od, osl, cda, cc, msg, j, p0, p1, p2, p3, p4, p5, p6, p7, p8, p9, vs, file, tf, ccl, cl, cdd, cld, ccs, csl, ar, rfl, l, cd, hcode, hvs, hfile, hcell, hp, har, S, hks, hev⟩, sub_, sup, opq, nxt, isV, top, nof, ne, db, cdt⟩, iC, tI, .all hb⟩
end NC

/-! ### short words, further -/
namespace NC
open PySem L2
theorem hotP {α β γ : Prop} (a : α) (b : β) (f : α → β → γ) : γ := f a b
section
variable {G : Ct} {M : Mo} {m : Md} {a : Expr} {f : F} {x cx fld : Str} {pe p1 p2 pos : Pos} {mt : Str → Option Bool} {cs : List Str}
theorem xat (i : Nat) (hc : ∀ c, cs.contains c = true → ∀ C0, M.T.cls c = some C0 → XfC M.T.K C0 ∧ PySem.W.findIn M.T.K (.ref C0) fld = some none) (h : varX G i x = true := by decide +kernel)
    (hb : ∀ env, attributeBase (.Name x pe) fld env (eval (.Name x pe) env) = eval (.Name x pe) env := by intro _; rfl) : SndE G M .esc (.Attribute (.Name x pe) fld pos) (bXat i cs fld) := let h := varX_ok h; sn_xat h.1 h.2.1 hc h.2.2.1 h.2.2.2 hb
theorem xis (hb : Bn M) (i : Nat) (hc : ∃ CE, M.mg cx = some (.ref CE) ∧ ∀ c b, mt c = some b → ∀ C0, M.T.cls c = some C0 → ExcC M.T.K C0 ∧ PySem.W.kitOne M.T.K (.ref C0) (.ref CE) = some b)
    (h : varX G i x = true := by decide +kernel) (h1 : glX G ("isinstance" : Str) = true := by decide +kernel) (h2 : glX G cx = true := by decide +kernel) : SndE G M m (.Call (.Name "isinstance" p1) [.Name x pe, .Name cx p2] [] pos) (bXis i mt) :=
  let h := varX_ok h; sn_xis h.1 h.2.1 (glX_ok h1).1 (hb _ (by decide +kernel)) (glX_ok h2).1 hc h.2.2.1 h.2.2.2 (glX_ok h2).2.1
theorem isc (hb : Bn M) (hc : ∃ CE, M.mg cx = some (.ref CE) ∧ ∀ c b, mt c = some b → ∀ C0, M.T.cls c = some C0 → InsC M.T.K C0 ∧ PySem.W.kitOne M.T.K (.ref C0) (.ref CE) = some b) (ha : SndE G M .rd a f)
    (h1 : glX G ("isinstance" : Str) = true := by decide +kernel) (h2 : glX G cx = true := by decide +kernel) (hs : ∀ env, starEach (a :: [.Name cx p2]) env = (false, eval a env) :: starEach [.Name cx p2] env := by intro _; rfl) :
    SndE G M m (.Call (.Name "isinstance" p1) [a, .Name cx p2] [] pos) (bIsC mt f) := sn_isC (glX_ok h1).1 (hb _ (by decide +kernel)) (glX_ok h2).1 hc ha hs (glX_ok h2).2.1
end
end NC

/-! ### tables of classes at the head -/
namespace NC
open PySem L2
structure PairAt (R : Addr → Addr → Bool → Prop) (K : PySem.W.Frag) (c cx : Str) (b : Bool) : Prop where
  ex : ∃ C0 CE : Addr, PySem.W.nsIn K mainGlobals c = some (some (.ref C0)) ∧ PySem.W.nsIn K mainGlobals cx = some (some (.ref CE)) ∧ R C0 CE b
theorem lookup_in {l : List (Str × Bool)} {c : Str} {b : Bool} (h : l.lookup c = some b) : (c, b) ∈ l := by
  induction l with
  | nil => cases h
  | cons p l ih =>
    obtain ⟨x, y⟩ := p
    by_cases hx : c = x
    · subst hx
      simp [List.lookup] at h
      subst h
      exact List.mem_cons_self
    · have hb : (c == x) = false := by simpa using hx
      simp only [List.lookup, hb] at h
      exact List.mem_cons_of_mem _ (ih h)
theorem tbl_mk {R : Addr → Addr → Bool → Prop} {K : PySem.W.Frag} {h : Heap} {mg : Str → Option Value} {cx : Str} {CE : Addr} {l : List (Str × Bool)} (X : K.In h) (G : h.Ns mainGlobals mg) (a : PySem.W.nsIn K mainGlobals cx = some (some (.ref CE))) (hp : ∀ p ∈ l, PairAt R K p.1 cx p.2) :
    ∃ CE, mg cx = some (.ref CE) ∧ ∀ c b, l.lookup c = some b → ∀ C0, (Tx K).cls c = some C0 → R C0 CE b := by
  refine ⟨CE, PySem.W.mg_of X G a, fun c b e C0 hc => ?_⟩
  obtain ⟨C1, CE1, h1, h2, h3⟩ := (hp _ (lookup_in e)).ex
  rw [a] at h2
  cases h2
  rw [Tx_cls h1] at hc
  cases hc
  exact h3
abbrev ExmR (K : PySem.W.Frag) (C0 CE : Addr) (b : Bool) : Prop := PySem.W.exmOne K (.ref C0) (.ref CE) = some b
abbrev IsxR (K : PySem.W.Frag) (C0 CE : Addr) (b : Bool) : Prop := ExcC K C0 ∧ PySem.W.kitOne K (.ref C0) (.ref CE) = some b
abbrev IscR (K : PySem.W.Frag) (C0 CE : Addr) (b : Bool) : Prop := InsC K C0 ∧ PySem.W.kitOne K (.ref C0) (.ref CE) = some b
section
variable {K : PySem.W.Frag} {c cx : Str} {C0 CE : Addr} {b : Bool}
theorem kitOne_self : PySem.W.kitOne K (.ref C0) (.ref C0) = some true := by
  unfold PySem.W.kitOne
  rw [if_pos (by simp)]
theorem kitOne_other (hne : (C0 == CE) = false) (hd : PySem.W.hasDictIn K CE = true) (ht : PySem.W.typeIn K (.ref CE) = some (.type "type")) (hs : PySem.W.subIn K (.ref C0) (.ref CE) = some b) : PySem.W.kitOne K (.ref C0) (.ref CE) = some b := by
  obtain ⟨cd, hc, _⟩ := PySem.W.any_some hd
  have hn : (Value.ref C0 == Value.ref CE) = false := by
    have : C0 ≠ CE := by simpa using hne
    simp [this]
  have e2 : ((PySem.W.clsIn K CE).isSome && PySem.W.typeIn K (.ref CE) == some (.type "type")) = true := by rw [hc, ht] <;> rfl
  unfold PySem.W.kitOne
  rw [if_neg (by rw [hn]; decide)]
  show (if ((PySem.W.clsIn K CE).isSome && PySem.W.typeIn K (.ref CE) == some (.type "type")) = true then PySem.W.subIn K (.ref C0) (.ref CE) else none) = some b
  rw [if_pos e2]
  exact hs
theorem exm_mk (a : PySem.W.nsIn K mainGlobals c = some (some (.ref C0))) (a2 : PySem.W.nsIn K mainGlobals cx = some (some (.ref CE))) (h1 : PySem.W.subIn K (.ref CE) (.type "BaseException") = some true) (hd : PySem.W.hasDictIn K CE = true) (ht : PySem.W.typeIn K (.ref CE) = some (.type "type")) (h4 : PySem.W.subIn K (.ref C0) (.ref CE) = some b) : PairAt (ExmR K) K c cx b :=
  ⟨C0, CE, a, a2, PySem.W.exm_ref h1 hd ht h4⟩
theorem isx_mk (a : PySem.W.nsIn K mainGlobals c = some (some (.ref C0))) (a2 : PySem.W.nsIn K mainGlobals cx = some (some (.ref CE))) (e : ExcC K C0) (k : PySem.W.kitOne K (.ref C0) (.ref CE) = some b) : PairAt (IsxR K) K c cx b := ⟨C0, CE, a, a2, e, k⟩
theorem isc_mk (a : PySem.W.nsIn K mainGlobals c = some (some (.ref C0))) (a2 : PySem.W.nsIn K mainGlobals cx = some (some (.ref CE))) (e : InsC K C0) (k : PySem.W.kitOne K (.ref C0) (.ref CE) = some b) : PairAt (IscR K) K c cx b := ⟨C0, CE, a, a2, e, k⟩
end
/-- fields of an exception -/
structure XfAt (K : PySem.W.Frag) (c f : Str) : Prop where
  ex : ∃ C0 : Addr, PySem.W.nsIn K mainGlobals c = some (some (.ref C0)) ∧ XfC K C0 ∧ PySem.W.findIn K (.ref C0) f = some none
theorem xf_mk {K : PySem.W.Frag} {cs : List Str} {f : Str} (h : ∀ c ∈ cs, XfAt K c f) : ∀ c, cs.contains c = true → ∀ C0, (Tx K).cls c = some C0 → XfC K C0 ∧ PySem.W.findIn K (.ref C0) f = some none := fun c hc C0 e => by
  obtain ⟨C1, h1, h2, h3⟩ := (h c (by simpa using hc)).ex
  rw [Tx_cls h1] at e
  cases e
  exact ⟨h2, h3⟩
end NC

/-! ### words: names, numbers, joined texts (no program in sight) -/
namespace NC
open PySem L2
def lets : List Nat := ("abcdefghijklmnopqrstuvwxyz" : Str).cps.toList
def digs : List Nat := ("0123456789" : Str).cps.toList
def keys : List Str := ["asset", "contract", "var", "hold", "proc", "shown", "hidden", "end", "set", "need", "give", "get", "move", "ask", "call", "if", "else", "given", "have", "out", "mod"]
/-- what a name is -/
def nameL (l : List Nat) : Bool := decide (0 < l.length) && decide (l.length ≤ 12) && decide (l.getD 0 0 ∈ lets) && !decide (tx l ∈ keys) && l.all fun c => decide (c ∈ lets) || decide (c ∈ digs)
def isNm (w : Str) : Bool := nameL w.cps.toList
/-- what a number is -/
def numOk (l : List Nat) : Bool := decide (0 < l.length) && decide (l.length ≤ 5) && (l.all fun c => decide (c ∈ digs)) && !(decide (ch (l.getD 0 0) = ("0" : Str)) && !decide (tx l = ("0" : Str))) && decide (NumText.digitsVal l ≤ 65535)
def numO (w : Str) : Option Nat := if numOk w.cps.toList = true then some (NumText.digitsVal w.cps.toList) else none
abbrev numW (n : Nat) : Str := Str.ofString (toString ((n : Nat) : Int))
theorem digs_iff (c : Nat) : c ∈ digs ↔ (48 ≤ c ∧ c ≤ 57) := by
  have key : digs = [48, 49, 50, 51, 52, 53, 54, 55, 56, 57] := by decide +kernel
  rw [key]; simp; omega
theorem numW_tl (n : Nat) : (numW n).cps.toList = TL.numL n := TL.tl_num n
theorem rev_ind {P : List Nat → Prop} (h0 : P []) (hs : ∀ l c, P l → P (l ++ [c])) (l : List Nat) : P l := by
  have : P l.reverse.reverse := by
    induction l.reverse with
    | nil => exact h0
    | cons c r ih => rw [List.reverse_cons]; exact hs _ _ ih
  rwa [List.reverse_reverse] at this
theorem numL_pos : ∀ (l : List Nat), NumText.AllDigits l → l ≠ [] → l.head? ≠ some 48 → 0 < NumText.digitsVal l := by
  intro l
  refine rev_ind (P := fun l => NumText.AllDigits l → l ≠ [] → l.head? ≠ some 48 → 0 < NumText.digitsVal l) ?_ ?_ l
  · intro _ h; exact absurd rfl h
  · intro l c ih
    intro ha _ hh
    rw [NumText.digitsVal_snoc]
    cases l with
    | nil =>
      have := ha c (by simp)
      simp at hh
      have : c ≠ 48 := hh
      have h2 := (ha c (by simp)).1
      show 0 < 0 * 10 + (c - 48)
      omega
    | cons d l =>
      have := ih (fun x hx => ha x (List.mem_append_left _ hx)) (by simp) (by simpa using hh)
      omega
theorem numL_back : ∀ (l : List Nat), NumText.AllDigits l → l ≠ [] → (l.head? ≠ some 48 ∨ l = [48]) → TL.numL (NumText.digitsVal l) = l := by
  intro l
  refine rev_ind (P := fun l => NumText.AllDigits l → l ≠ [] → (l.head? ≠ some 48 ∨ l = [48]) → TL.numL (NumText.digitsVal l) = l) ?_ ?_ l
  · intro _ h; exact absurd rfl h
  · intro l c ih
    intro ha _ hh
    have hc := ha c (by simp)
    rw [NumText.digitsVal_snoc]
    cases l with
    | nil =>
      show TL.numL (0 * 10 + (c - 48)) = [c]
      rw [TL.numL_lt (by omega), show 48 + (0 * 10 + (c - 48)) = c by omega]
    | cons d l =>
      have hh' : (d :: l).head? ≠ some 48 := by
        rcases hh with h | h
        · simpa using h
        · simp at h
      have hd : NumText.AllDigits (d :: l) := fun x hx => ha x (List.mem_append_left _ hx)
      have hp := numL_pos (d :: l) hd (by simp) hh'
      have hi := ih hd (by simp) (.inl hh')
      rw [TL.numL_step (by omega), show (NumText.digitsVal (d :: l) * 10 + (c - 48)) / 10 = NumText.digitsVal (d :: l) by omega, hi,
        show 48 + (NumText.digitsVal (d :: l) * 10 + (c - 48)) % 10 = c by omega]
theorem ch_zero (c : Nat) : ch c = ("0" : Str) ↔ c = 48 := by
  constructor
  · intro h
    have := congrArg (fun s : Str => s.cps.toList) h
    have h0 : (("0" : Str).cps.toList) = [48] := by decide +kernel
    simpa [h0] using this
  · intro h; subst h; decide +kernel
theorem tx_zero (l : List Nat) : tx l = ("0" : Str) ↔ l = [48] := by
  constructor
  · intro h
    have := congrArg (fun s : Str => s.cps.toList) h
    have h0 : (("0" : Str).cps.toList) = [48] := by decide +kernel
    simpa [h0] using this
  · intro h; subst h; decide +kernel
/-- THE WORD THAT WRITES A NUMBER is the number's own -/
theorem numO_back {w : Str} {n : Nat} (h : numO w = some n) : w = numW n ∧ n ≤ 65535 := by
  unfold numO at h
  split at h
  case isTrue h1 =>
    cases h
    unfold numOk at h1
    simp only [Bool.and_eq_true, decide_eq_true_eq] at h1
    obtain ⟨⟨⟨⟨h2, h3⟩, h4⟩, h5⟩, h6⟩ := h1
    refine ⟨TL.ext_tl ?_, h6⟩
    show w.cps.toList = (numW _).cps.toList
    rw [numW_tl]
    have ha : NumText.AllDigits w.cps.toList := fun c hc => by
      have := List.all_eq_true.mp h4 c hc
      exact (digs_iff c).mp (by simpa using this)
    refine (numL_back _ ha (by intro e; rw [e] at h2; cases h2) ?_).symm
    generalize w.cps.toList = l at *
    cases l with
    | nil => cases h2
    | cons c l =>
      by_cases hc : c = 48
      · right
        subst hc
        have h0 : ch 48 = ("0" : Str) := by decide +kernel
        simp [h0] at h5
        exact (tx_zero _).mp h5
      · left; simpa using hc
  case isFalse => cases h
theorem numO_num {n : Nat} (h : n ≤ 65535) : numO (numW n) = some n := by
  have hd := TL.numL_digits n
  have hv := TL.numL_val n
  have hne := TL.numL_ne n
  have hl := TL.numL_len (n := n) (k := 5) (by omega) (by omega)
  unfold numO numOk
  rw [numW_tl, hv]
  have h1 : 0 < (TL.numL n).length := by
    cases q : TL.numL n with
    | nil => exact absurd q hne
    | cons => simp
  have h4 : ((TL.numL n).all fun c => decide (c ∈ digs)) = true := List.all_eq_true.mpr fun c hc => by
    simpa using (digs_iff c).mpr (hd c hc)
  have h5 : (decide (ch ((TL.numL n).getD 0 0) = ("0" : Str)) && !decide (tx (TL.numL n) = ("0" : Str))) = false := by
    by_cases hn : n < 10
    · rw [TL.numL_lt hn]
      by_cases h0 : 48 + n = 48
      · rw [h0]; decide +kernel
      · have : ¬ ch (48 + n) = ("0" : Str) := fun e => h0 ((ch_zero _).mp e)
        simp [this]
    · have : ∀ m, 0 < m → (TL.numL m).getD 0 0 ≠ 48 := by
        intro m
        induction m using Nat.strongRecOn with
        | ind m ih =>
          intro hm
          by_cases h10 : m < 10
          · rw [TL.numL_lt h10]; simp; omega
          · rw [TL.numL_step (by omega)]
            have i := ih (m / 10) (by omega) (by omega)
            have hn := TL.numL_ne (m / 10)
            cases q : TL.numL (m / 10) with
            | nil => exact absurd q hn
            | cons c r => rw [q] at i; simpa using i
      have t := this n (by omega)
      have : ¬ ch ((TL.numL n).getD 0 0) = ("0" : Str) := fun e => t ((ch_zero _).mp e)
      simp only [this, decide_false, Bool.false_and]
  rw [if_pos]
  simp only [h5, h4, Bool.and_eq_true, decide_eq_true_eq, Bool.not_false, and_true]
  exact ⟨⟨h1, hl⟩, h⟩
theorem numW_len {n : Nat} (h : n ≤ 65535) : (numW n).length ≤ 5 := by
  rw [TL.len_tl]
  show (numW n).cps.toList.length ≤ 5
  rw [numW_tl]
  exact TL.numL_len (by omega) (by omega)
theorem numW_inj {m n : Nat} (h : numW m = numW n) : m = n := by
  have := congrArg (fun s : Str => s.cps.toList) h
  simp only [numW_tl] at this
  exact TL.numL_inj this
theorem isNm_len {w : Str} (h : isNm w = true) : w.length ≤ 12 := by
  unfold isNm nameL at h
  simp only [Bool.and_eq_true, decide_eq_true_eq] at h
  rw [TL.len_tl]
  exact h.1.1.1.2
theorem lets_rng {c : Nat} (h : c ∈ lets) : 97 ≤ c ∧ c ≤ 122 := by
  have key : ∀ c ∈ lets, 97 ≤ c ∧ c ≤ 122 := by decide +kernel
  exact key c h
/-- a word without blanks -/
def noSp (w : Str) : Prop := 32 ∉ w.cps.toList
theorem isNm_sp {w : Str} (h : isNm w = true) : noSp w := by
  unfold isNm nameL at h
  simp only [Bool.and_eq_true, decide_eq_true_eq] at h
  intro hm
  have := List.all_eq_true.mp h.2 32 hm
  simp at this
  rcases this with t | t
  · have := lets_rng t; omega
  · have := (digs_iff 32).mp t; omega
theorem numW_sp (n : Nat) : noSp (numW n) := by
  unfold noSp
  rw [numW_tl]
  exact TL.numL_free (by omega)
/-- THE READ-BACK -/
theorem split_sp {ws : List Str} (h : ws ≠ []) (hp : ∀ w ∈ ws, noSp w) : Txt.split (Txt.join (" " : Str) ws) (" " : Str) = ws :=
  TL.split_join (s := 32) (S := []) (by decide +kernel) (by decide +kernel) h hp
theorem join_ne {ws : List Str} (h : ws ≠ []) (h2 : ws ≠ [("" : Str)]) : Txt.join (" " : Str) ws ≠ ("" : Str) := by
  intro e
  rw [TL.join_eq] at e
  have t := TL.tl_join (" " : Str) ws
  rw [e] at t
  have e1 : TL.tl (" " : Str) = [32] := by decide +kernel
  have e0 : TL.tl ("" : Str) = [] := by decide +kernel
  rw [e1, e0] at t
  match ws, h, h2, t with
  | [w], _, h2, t => 
    apply h2
    have : TL.tl w = TL.tl ("" : Str) := by rw [e0]; exact t.symm
    rw [TL.ext_tl this]
  | w :: v :: r, _, _, t =>
    simp [TL.joinL] at t
theorem join_nil : Txt.join (" " : Str) [] = ("" : Str) := by decide +kernel
/-- how long the joined text is -/
theorem sum_le {ws : List Str} {k : Nat} (h : ∀ w ∈ ws, w.length ≤ k) : (ws.map (·.length)).sum ≤ ws.length * k := by
  induction ws with
  | nil => simp
  | cons w ws ih =>
    have h1 := h w (List.mem_cons_self ..)
    have h2 := ih fun x hx => h x (List.mem_cons_of_mem _ hx)
    rw [List.map_cons, List.sum_cons, List.length_cons, Nat.succ_mul]
    omega
theorem joinL_len : ∀ ps : List (List Nat), (TL.joinL [32] ps).length ≤ (ps.map (·.length)).sum + ps.length
  | [] => Nat.zero_le _
  | [p] => by simp [TL.joinL]
  | p :: q :: r => by
    have := joinL_len (q :: r)
    simp [TL.joinL] at this ⊢
    omega
theorem join_len (ws : List Str) : (Txt.join (" " : Str) ws).length ≤ (ws.map (·.length)).sum + ws.length := by
  rw [TL.join_eq, TL.len_tl, TL.tl_join, show TL.tl (" " : Str) = [32] by decide +kernel]
  refine Nat.le_trans (joinL_len _) ?_
  rw [List.map_map, List.length_map]
  have : ((fun p : List Nat => p.length) ∘ TL.tl) = fun w : Str => w.length := by
    funext w; exact (TL.len_tl w).symm
  rw [show (List.length ∘ TL.tl) = fun w : Str => w.length from this]
  exact Nat.le_refl _
/-! ### what reading words gives -/
inductive PR (α : Type) where
  | ok (v : α) (r : List Str)
  | bad (r : List Str)
def PR.bind {α β : Type} (p : PR α) (k : α → List Str → PR β) : PR β := match p with
  | .ok v r => k v r
  | .bad r => .bad r
@[simp] theorem PR.bind_ok {α β : Type} (v : α) (r : List Str) (k : α → List Str → PR β) : (PR.ok v r).bind k = k v r := rfl
@[simp] theorem PR.bind_bad {α β : Type} (r : List Str) (k : α → List Str → PR β) : (PR.bad r : PR α).bind k = .bad r := rfl
theorem PR.bind_eq_ok {α β : Type} {p : PR α} {k : α → List Str → PR β} {v : β} {r : List Str} (h : p.bind k = .ok v r) : ∃ u r1, p = .ok u r1 ∧ k u r1 = .ok v r := by
  cases p with
  | ok u r1 => exact ⟨u, r1, rfl, h⟩
  | bad r1 => cases h
end NC

/-! ### == of objects by their own __eq__ -/
namespace NC
open PySem L2
/-- two objects of one class: which def compares them -/
def eqTab (tab : List (Str × Str)) (st : Sto) : D → D → Option Str
  | .loc n, .loc k => match st[n]?, st[k]? with
    | some (.ins c _), some (.ins c2 _) => if c = c2 then tab.lookup c else none
    | _, _ => none
  | _, _ => none
def onlyB : R D → R D
  | .ok (.bl b) st => .ok (.bl b) st
  | _ => .stuck
def kEqO (cl : Calls) (tab : List (Str × Str)) (a b : D) (st : Sto) : R D := match eqTab tab st a b with
  | some x => onlyB (cl x [(.esc, a), (.esc, b)] st)
  | none => kEq a b st
theorem eqTab_cases (tab : List (Str × Str)) (st : Sto) (a b : D) : eqTab tab st a b = none ∨ ∃ n k c fs gs x, a = .loc n ∧ b = .loc k ∧ st[n]? = some (.ins c fs) ∧ st[k]? = some (.ins c gs) ∧ tab.lookup c = some x ∧ eqTab tab st a b = some x := by
  unfold eqTab
  split
  · rename_i n k
    split
    · rename_i c fs c2 gs q1 q2
      by_cases hc : c = c2
      · subst hc
        rw [if_pos rfl]
        cases q3 : tab.lookup c with
        | none => exact .inl rfl
        | some x => exact .inr ⟨n, k, c, fs, gs, x, rfl, rfl, q1, q2, q3, rfl⟩
      · rw [if_neg hc]; exact .inl rfl
    · exact .inl rfl
  · exact .inl rfl
def rEqO (X : Cx) : R2 := fun x y H Q => ∃ (a b C dx dy f : Addr) (fs gs : List (Str × V)) (k : Nat) (fd : FuncData) (ps : List Str) (sp : Sp), x = .ref a ∧ y = .ref b ∧ H a = some (.ins C dx fs) ∧ H b = some (.ins C dy gs) ∧ Meth X.K C "__eq__" f ∧ Binds X.K fd ps [] ∧ Room k X.A ∧ X.A.units + 64 < cLine ∧
  FnOk X.prog X.w X.K X.mg X.base (L2N.CX X.prog X.w) k f fd ps sp ∧ ∀ E, sp [.ref a, .ref b] H (fun v H' => (∃ r, v = .bl r) ∧ Q v H') E
theorem op_eqO {X : Cx} {W : WX} (hx : ∀ σ, PassesAt (L2N.CX X.prog X.w) X σ (WE W σ)) : OpR X (compareOp .Eq) (rEqO X) := by
  intro pins s σ H x y v u Q I rx ry hq
  obtain ⟨a, b, C, dx, dy, f, fs, gs, k, fd, ps, sp, rfl, rfl, ha, hb', hm, hb, hr, hu, F, hs⟩ := hq
  cases rx
  cases ry
  show wpAny (model X.prog X.w) X.A (richCompare .Eq (.ref a) (.ref b)) (EP X pins σ Q) X.xe s
  obtain ⟨mA, J, _⟩ := ins_get I.hok ha
  obtain ⟨mB, J', _⟩ := ins_get I.hok hb'
  obtain ⟨od, J, _⟩ := J.look
  obtain ⟨od', J', _⟩ := J'.look
  obtain ⟨m, hF⟩ := I.fr
  refine PySem.W.cmp_K (op := .Eq) (tb := .ref C) (by omega) hF I.ok.mod.kin J J'.type (by simp [PySem.W.notFirst]) hm.at_ hm.fn ?_
  have hsp := hs (WE W σ)
  have hl := F.len _ _ _ _ hsp
  have r2 : Vals [V.ref a, V.ref b] [Value.ref a, Value.ref b] := .cons rfl (.cons rfl .nil)
  refine wpAny_call (codeAny_mono (F.run X.A X.stack s H ⟨[.ref a, .ref b], []⟩ [.ref a, .ref b] [.ref a, .ref b] _ (WE W σ) hr I.env0 (by
    have := hb s [.ref a, .ref b] I.kIn (by simpa using hl)
    simpa using this) r2 hsp) fun r s' hq => ?_)
  cases r with
  | error e => exact hx σ pins H s e s' I hq
  | ok fl =>
    cases fl with
    | ret w =>
      obtain ⟨z, H', I', rz, ⟨r, ez⟩, ex⟩ := I.after hq
      subst ez
      cases rz
      exact ⟨.bl r, H', I', rfl, ex⟩
    | next => exact False.elim hq
    | brk => exact False.elim hq
    | cont => exact False.elim hq
section
variable {G : Ct} {M : Mo} {m : Md}
theorem os_eqO {tab : List (Str × Str)} (hm : M.hot = false) (htab : ∀ c y, tab.lookup c = some y → MethOk M c "__eq__" y) : OpS G M m (compareOp .Eq) (kEqO M.cl tab) := by
  intro X C gd
  obtain ⟨r, h1, h2⟩ := os_eq (G := G) (M := M) (m := m) X C gd
  have hK : X.K = C.T.K := by rw [gd.K, gd.T]
  refine ⟨_, h1.or (op_eqO (W := C.W) fun σ => L2N.passAt gd.tk σ), fun env σ w H st d1 d2 v1 v2 Q s r1 r2 p => ?_⟩
  unfold kEqO at p
  rcases eqTab_cases tab st d1 d2 with z | ⟨n, k, c, fs, gs, x, rfl, rfl, q1, q2, q3, z⟩
  · rw [z] at p
    exact .inl (h2 env σ w H st d1 d2 v1 v2 Q s r1 r2 p)
  · rw [z] at p
    obtain ⟨a, rfl, e1⟩ := RepR.loc r1
    obtain ⟨b, rfl, e2⟩ := RepR.loc r2
    obtain ⟨C0, dx, fv, ⟨k0, k1, k2⟩, k3, k4⟩ := s.sto.at_ n _ a q1 e1
    obtain ⟨C0', dy, gv, ⟨l0, l1, l2⟩, l3, l4⟩ := s.sto.at_ k _ b q2 e2
    obtain ⟨C1, fa, fd, ps, j0, j1, j2, j3⟩ := (htab c x q3).ex
    rw [k0] at l0
    cases l0
    rw [← gd.T, k0] at j0
    cases j0
    refine .inr ⟨a, b, C0, dx, dy, fa, fv, gv, M.n, fd, ps, spOf M.T M.cl x, rfl, rfl, k3, l3, by rw [gd.K]; exact j1, by rw [gd.K]; exact j2, (gd.cold hm).2.1, gd.units, by rw [gd.p, gd.w, gd.K, gd.mg, gd.base]; exact j3, fun E => ?_⟩
    rw [← gd.T]
    refine ⟨[(.esc, .loc n), (.esc, .loc k)], w, st, .esc (.loc e1) (.esc (.loc e2) .nil), s.sto, s.al, ?_⟩
    dsimp only at p
    cases q : M.cl x [(.esc, .loc n), (.esc, .loc k)] st with
    | stuck => rw [q] at p; exact p.elim
    | exc xx st2 => rw [q] at p; exact p.elim
    | ok d st2 =>
      rw [q] at p
      cases d with
      | bl t =>
        rintro v H' ⟨r, l, hst, rep⟩
        cases rep
        exact ⟨⟨t, rfl⟩, p ⟨w.S, r⟩ (.bl t) H' l (s.back l hst) (RepM.bl t)⟩
      | _ => exact p.elim
end
/-! reckoning -/
section
variable {cl : Calls} {tab : List (Str × Str)} {st : Sto}
@[simp] theorem kEqO_int (i : Int) (b : D) : kEqO cl tab (.int i) b st = kEq (.int i) b st := rfl
@[simp] theorem kEqO_str (i : Str) (b : D) : kEqO cl tab (.str i) b st = kEq (.str i) b st := rfl
@[simp] theorem kEqO_bl (i : Bool) (b : D) : kEqO cl tab (.bl i) b st = kEq (.bl i) b st := rfl
@[simp] theorem kEqO_non (b : D) : kEqO cl tab .non b st = kEq .non b st := rfl
@[simp] theorem kEqO_tup (i : List D) (b : D) : kEqO cl tab (.tup i) b st = kEq (.tup i) b st := rfl
@[simp] theorem kEqO_lst (i : List D) (b : D) : kEqO cl tab (.lst i) b st = kEq (.lst i) b st := rfl
theorem kEqO_loc {n k : Nat} {c x : Str} {fs gs : List (Str × D)} (h1 : st[n]? = some (.ins c fs)) (h2 : st[k]? = some (.ins c gs)) (h3 : tab.lookup c = some x) : kEqO cl tab (.loc n) (.loc k) st = onlyB (cl x [(.esc, .loc n), (.esc, .loc k)] st) := by
  unfold kEqO eqTab
  dsimp only
  rw [h1, h2]
  dsimp only
  rw [if_pos rfl, h3]
@[simp] theorem onlyB_bl (b : Bool) : onlyB (.ok (.bl b) st) = .ok (.bl b) st := rfl
end
end NC

/-! ### more reckoning -/
namespace NC
open PySem L2
section
variable {α : Type} {a b c d e : α} {l : List α}
@[simp] theorem atI_0 : atI (a :: l) 0 = some a := atI_nat (j := 0) rfl
@[simp] theorem atI_1 : atI (a :: b :: l) 1 = some b := atI_nat (j := 1) rfl
@[simp] theorem atI_2 : atI (a :: b :: c :: l) 2 = some c := atI_nat (j := 2) rfl
@[simp] theorem atI_3 : atI (a :: b :: c :: d :: l) 3 = some d := atI_nat (j := 3) rfl
@[simp] theorem atI_4 : atI (a :: b :: c :: d :: e :: l) 4 = some e := atI_nat (j := 4) rfl
@[simp] theorem atI_m1 : atI [a] (-1) = some a := rfl
@[simp] theorem atI_m2 : atI [a, b] (-1) = some b := rfl
@[simp] theorem atI_m3 : atI [a, b, c] (-1) = some c := rfl
@[simp] theorem atI_m4 : atI [a, b, c, d] (-1) = some d := rfl
@[simp] theorem atI_m5 : atI [a, b, c, d, e] (-1) = some e := rfl
end
@[simp] theorem cut_m1 (a : D) : cutD [a] none (some (-1)) = [] := rfl
@[simp] theorem cut_m2 (a b : D) : cutD [a, b] none (some (-1)) = [a] := rfl
@[simp] theorem cut_m3 (a b c : D) : cutD [a, b, c] none (some (-1)) = [a, b] := rfl
@[simp] theorem cut_m4 (a b c d : D) : cutD [a, b, c, d] none (some (-1)) = [a, b, c] := rfl
theorem cut_take (ds : List D) (k : Nat) : cutD ds none (some (k : Int)) = ds.take k := by
  unfold cutD
  rw [HT.sIx_nat, HT.sIx_none, List.drop_zero, Nat.sub_zero]
  by_cases h : k ≤ ds.length
  · rw [Nat.min_eq_left h]
  · rw [Nat.min_eq_right (by omega), List.take_of_length_le (Nat.le_refl _), List.take_of_length_le (by omega)]
theorem cut_drop (ds : List D) (k : Nat) : cutD ds (some (k : Int)) none = ds.drop k := by
  unfold cutD
  rw [HT.sIx_nat, HT.sIx_none]
  by_cases h : k ≤ ds.length
  · rw [Nat.min_eq_left h, List.take_of_length_le (by rw [List.length_drop]; exact Nat.le_refl _)]
  · rw [Nat.min_eq_right (by omega), List.drop_of_length_le (Nat.le_refl _), List.drop_of_length_le (by omega), List.take_nil]
theorem cut_mid (ds : List D) (a b : Nat) (h : b ≤ ds.length) (h2 : a ≤ b) : cutD ds (some (a : Int)) (some (b : Int)) = (ds.drop a).take (b - a) := by
  unfold cutD
  rw [HT.sIx_nat, HT.sIx_nat, Nat.min_eq_left h, Nat.min_eq_left (by omega)]
theorem log2_le {n : Nat} (h : n < 2 ^ 64) : (((n : Nat) : Int)).natAbs.log2 < 1920 := by
  rw [Int.natAbs_natCast]
  by_cases h0 : n = 0
  · subst h0; decide
  · exact (Nat.log2_lt h0).mpr (Nat.lt_of_lt_of_le h (Nat.pow_le_pow_right (by decide) (by decide)))
theorem kStr_num {n : Nat} (h : n < 2 ^ 64) (st : Sto) : kStr [.int n] st = .ok (.str (numW n)) st := by
  rw [kStr_int, if_pos (log2_le h)]
/-- texts that are written are told apart -/
theorem ofS_inj {a b : String} : Str.ofString a = Str.ofString b ↔ a = b := by
  constructor
  · intro h
    have := congrArg TL.tl h
    rw [TL.tl_ofString, TL.tl_ofString] at this
    have h2 : a.toList = b.toList := by
      have inj : ∀ (l m : List Char), l.map Char.toNat = m.map Char.toNat → l = m := by
        intro l
        induction l with
        | nil => intro m h; cases m with | nil => rfl | cons => cases h
        | cons c l ih =>
          intro m h
          cases m with
          | nil => cases h
          | cons d m =>
            rw [List.map_cons, List.map_cons] at h
            injection h with h1 h2
            rw [ih m h2, show c = d from Char.ext (UInt32.toNat_inj.mp h1)]
      exact inj _ _ this
    exact String.toList_inj.mp h2
  · intro h; rw [h]
theorem get_mid (A B : Sto) (x : Cell) : (A ++ x :: B)[A.length]? = some x := by simp
theorem set_mid (A B : Sto) (x y : Cell) : (A ++ x :: B).set A.length y = A ++ y :: B := by simp
theorem sz6 : 1000000 ≤ sizeLine := by rw [sizeLine_eq]; decide
theorem whL_step (c : FB) (body : FS) (n : Nat) (env : Ev) (st : Sto) : whL c body (n + 1) env st = (c env st).outB env fun b st1 => if b = true then (match body env st1 with
      | .next env2 st2 => whL c body n env2 st2
      | .cont env2 st2 => whL c body n env2 st2
      | .brk env2 st2 => .next env2 st2
      | o => o) else .next env st1 := rfl
/-- x of a written tuple or list -/
theorem kIx_tupM {α : Type} (g : α → D) (xs : List α) {i : Int} {st : Sto} (h0 : 0 ≤ i) (h1 : i < xs.length) : ∃ x, x ∈ xs ∧ kIx (.tup (xs.map g)) (.int i) st = .ok (g x) st := by
  obtain ⟨k, rfl⟩ := Int.eq_ofNat_of_zero_le h0
  have hk : k < xs.length := by omega
  exact ⟨xs[k], List.getElem_mem hk, kIx_tup_of (atI_nat (by rw [List.getElem?_map, List.getElem?_eq_getElem hk]; rfl))⟩
theorem kIx_lstM {α : Type} (g : α → D) (xs : List α) {i : Int} {st : Sto} (h0 : 0 ≤ i) (h1 : i < xs.length) : ∃ x, x ∈ xs ∧ kIx (.lst (xs.map g)) (.int i) st = .ok (g x) st := by
  obtain ⟨k, rfl⟩ := Int.eq_ofNat_of_zero_le h0
  have hk : k < xs.length := by omega
  exact ⟨xs[k], List.getElem_mem hk, kIx_lst_of (atI_nat (by rw [List.getElem?_map, List.getElem?_eq_getElem hk]; rfl))⟩
end NC

/-! ### a list or tuple times a number -/
namespace L2
open PySem PySem.Spec PyProof.Rows
open PySem.SeqAt PySem.MeetsSeq PySem.MeetsSeq2 PySem.MeetsSeq3 PySem.SeqRoads2 PySem.AutoSeq1
theorem op_repR {X : Cx} : OpR X (binaryOp .Mult) (fun x y H Q => ∃ l k xs, x = .ref l ∧ y = .int k ∧ NC.LstAt X.K H l xs ∧ -(2 ^ 63) ≤ k ∧ k < 2 ^ 63 ∧ xs.length * k.toNat ≤ sizeLine ∧
  ∀ p, H p = none → Q (.ref p) (upd H p (.lst (List.replicate k.toNat xs).flatten))) := by
  intro pins s σ H x y v u Q I rx ry h
  obtain ⟨l, k, xs, rfl, rfl, hH, h1, h2, hz, q⟩ := h
  cases rx
  obtain ⟨t, rfl⟩ := ry
  obtain ⟨z, its, n, r, hl, e⟩ := I.lstR hH
  have hlen : its.toArray.size * k.toNat ≤ sizeLine := by rw [List.size_toArray, ← hl]; exact hz
  have hcap : ¬ its.toArray.size * k.toNat > (2 ^ 63 - 1) / 8 := by
    have : (sizeLine : Nat) ≤ (2 ^ 63 - 1) / 8 := by decide
    omega
  have hfit : ¬ (!Builtin.List.listFitsIndex k) = true := by
    rw [fitsIndex_both h1 h2]
    exact Bool.false_ne_true
  have hlong : ¬ Builtin.List.listTooLong (its.toArray.size * k.toNat) = true := by
    rw [notLongL hlen]
    exact Bool.false_ne_true
  have hnew : List.foldl (fun x1 x2 => x1 ++ x2) #[] (List.replicate (if its.toArray.isEmpty = true then 0 else k.toNat) its.toArray) = (List.replicate k.toNat its).flatten.toArray := by
    have f0 : ∀ m : Nat, List.foldl (fun x1 x2 => x1 ++ x2) #[] (List.replicate m its.toArray) = (List.replicate m its).flatten.toArray := fun m => by
      have := foldl_rep its m []
      rw [List.nil_append] at this
      exact this
    rw [f0]
    cases its with
    | nil => simp
    | cons a r' => rw [if_neg (by simp)]
  refine wpAny_binaryOp_repeat_ref (T := "list") (U := "int") (by decide) ⟨_, e, rfl⟩ (fun s' => typeIs_int s' k t) noFill_list_mul F.fills_int_mul F.slot_int_rmul repeat_list F.slot_int_index.lookup
    (call_meets F.slot_int_rmul (typeIs_int s k t) F.entry_int_rmul (F.args_int_rmul_2 _ _) (int___rmul___int_list k t l its.toArray n)
      ⟨e, rfl, ⟨_, e, rfl⟩, call_meets F.slot_list_mul ⟨_, e, rfl⟩ F.entry_list_mul (F.args_list_mul_2 _ _) (AutoListH.list___mul___list_int_3 l its.toArray n k t hfit hcap hlong) ⟨e, ?_⟩⟩)
  rw [hnew]
  exact ⟨.ref _, _, I.lnew (t' := s.toks) (r.rep k.toNat) (by rw [PyProof.Rows.lm_len_rep_flat, Nat.mul_comm]; exact hz), rfl, q _ I.fresh⟩
end L2
namespace NC
open PySem L2
theorem Reps.rep {K : PySem.W.Frag} {w : Wd} {H : Hp} {vs : List V} {ds : List D} (h : Reps K w H vs ds) : ∀ k : Nat, Reps K w H (List.replicate k vs).flatten (List.replicate k ds).flatten
  | 0 => .nil
  | k + 1 => by
    rw [List.replicate_succ, List.flatten_cons, List.replicate_succ, List.flatten_cons]
    exact h.append (Reps.rep h k)
def kMulL : D → D → Sto → R D
  | .lst xs, .int k, st => if -(2 ^ 63) ≤ k ∧ k < 2 ^ 63 ∧ xs.length * k.toNat ≤ sizeLine then .ok (.lst (List.replicate k.toNat xs).flatten) st else .stuck
  | .tup xs, .int k, st => if xs ≠ [] ∧ 2 ≤ k ∧ k ≤ 1000 ∧ xs.length ≤ 1000 then .ok (.tup (List.replicate k.toNat xs).flatten) st else .stuck
  | a, b, st => kMul a b st
section
variable {G : Ct} {M : Mo} {m : Md} {X : Cx} {C : Cf}
theorem os_mulL : OpS G M .fr (binaryOp .Mult) kMulL := by
  intro X C g
  obtain ⟨r, h1, h2⟩ := os_mul (G := G) (M := M) (m := .fr) X C g
  refine ⟨_, h1.or (op_repR.or op_repT), fun env σ w H st d1 d2 v1 v2 Q s r1 r2 p => ?_⟩
  rw [show X.K = C.T.K from g.K.trans (by rw [g.T])]
  unfold kMulL at p
  split at p
  · split at p
    · rename_i hc
      obtain ⟨a, vs, rfl, e1, n1, q1⟩ := r1.lst
      cases r2.int
      exact .inr (.inl ⟨a, _, vs, rfl, rfl, e1, hc.1, hc.2.1, by rw [q1.length]; exact hc.2.2, fun pp hp => p.lst s (Reps.rep q1 _) hp⟩)
    · exact p.elim
  · split at p
    · rename_i hc
      obtain ⟨a, vs, rfl, e1, q1⟩ := r1.tup
      cases r2.int
      exact .inr (.inr ⟨a, _, vs, rfl, rfl, e1, (fun z => by subst z; cases q1; exact hc.1 rfl), hc.2.1, hc.2.2.1, by rw [q1.length]; exact hc.2.2.2, fun pp hp => p.tup s (Reps.rep q1 _) hp⟩)
    · exact p.elim
  · exact .inl (h2 env σ w H st _ _ v1 v2 Q s r1 r2 p)
end
section
variable {st : Sto}
@[simp] theorem kMulL_int (i : Int) (b : D) : kMulL (.int i) b st = kMul (.int i) b st := rfl
theorem kMulL_lst (xs : List D) (k : Nat) (h : k < 2 ^ 63) (h2 : xs.length * k ≤ sizeLine) : kMulL (.lst xs) (.int k) st = .ok (.lst (List.replicate k xs).flatten) st := by
  unfold kMulL
  dsimp only
  rw [Int.toNat_natCast]
  refine if_pos ⟨?_, ?_, h2⟩
  · have : (0 : Int) ≤ ((k : Nat) : Int) := Int.natCast_nonneg k
    exact Int.le_trans (by decide) this
  · exact Int.ofNat_lt.mpr h
end
end NC

/-! ### the law's own text: tests that say no, statements that go on -/
namespace NC
open PySem L2
section
variable {a b c : FB} {e r : F} {f : FS} {G : FS} {env : Ev} {st : Sto}
/-- a test that says no, whatever it makes -/
def No (c : FB) (env : Ev) (st : Sto) : Prop := ∃ T, c env st = .ok false (st ++ T)
/-- the rest says True -/
def Yes (G : FS) (env : Ev) (st : Sto) : Prop := ∃ st', fin (G env st) = .ok (.bl true) st'
theorem no_of (h : c env st = .ok false st) : No c env st := ⟨[], by rw [h, List.append_nil]⟩
theorem if_no (h : No c env st) (k : ∀ T, Yes G env (st ++ T)) : Yes (sCons (sIf c f sNil) G) env st := by
  obtain ⟨T, h⟩ := h
  obtain ⟨st', k⟩ := k T
  refine ⟨st', ?_⟩
  rw [sCons_eq, sIf_eq, h, outB_ok, if_neg Bool.false_ne_true, sNil_eq, seq_next, k]
theorem if_noN (h : No c env st) : ∃ T, sIf c f sNil env st = .next env (st ++ T) := by
  obtain ⟨T, h⟩ := h
  exact ⟨T, by rw [sIf_eq, h, outB_ok, if_neg Bool.false_ne_true, sNil_eq]⟩
theorem or_no (ha : No a env st) (hb : ∀ T, No b env (st ++ T)) : No (bOrT a b) env st := by
  obtain ⟨T, ha⟩ := ha
  obtain ⟨U, hb⟩ := hb T
  exact ⟨T ++ U, by rw [bOrT_eq, ha, bind_ok, if_neg Bool.false_ne_true, hb, List.append_assoc]⟩
theorem and_no (ha : No a env st) : No (bAndT a b) env st := by
  obtain ⟨T, ha⟩ := ha
  exact ⟨T, by rw [bAndT_eq, ha, bind_ok, if_neg Bool.false_ne_true]⟩
theorem and_no2 {T : Sto} (ha : a env st = .ok true (st ++ T)) (hb : No b env (st ++ T)) : No (bAndT a b) env st := by
  obtain ⟨U, hb⟩ := hb
  exact ⟨T ++ U, by rw [bAndT_eq, ha, bind_ok, if_pos rfl, hb, List.append_assoc]⟩
theorem not_no {T : Sto} (ha : a env st = .ok true (st ++ T)) : No (bNotT a) env st := ⟨T, by rw [bNotT_eq, ha]; rfl⟩
theorem set_yes {i : Nat} {d : D} (he : e env st = .ok d st) (hi : i < env.length) (k : Yes G (env.set i (slotOf d)) st) : Yes (sCons (sSet i e) G) env st := by
  obtain ⟨st', k⟩ := k
  exact ⟨st', by rw [sCons_eq, sSet_eq, he, out_ok, if_pos hi, seq_next, k]⟩
theorem asg_yes {i : Nat} {d : D} {st1 : Sto} (he : e env st = .ok d st1) (hi : i < env.length) (k : Yes G (env.set i (some (.frz, d))) st1) : Yes (sCons (sAsg (tgName i) e) G) env st := by
  obtain ⟨st', k⟩ := k
  exact ⟨st', by rw [sCons_eq, sAsg_eq, he, out_ok, setE_name, if_pos hi, seq_next, k]⟩
theorem stm_yes {s : FS} {env' : Ev} {st1 : Sto} (h : s env st = .next env' st1) (k : Yes G env' st1) : Yes (sCons s G) env st := by
  obtain ⟨st', k⟩ := k
  exact ⟨st', by rw [sCons_eq, h, seq_next, k]⟩
/-- a loop that changes its own name alone -/
theorem for_keep {i : Nat} {b : FS} : ∀ {ds : List D} {env : Ev} {st : Sto}, i < env.length → (∀ d ∈ ds, ∀ T, ∃ U, b (env.set i (some (.frz, d))) (st ++ T) = .next (env.set i (some (.frz, d))) (st ++ T ++ U)) → ∃ T s, forL (tgName i) b ds env st = .next (env.set i s) (st ++ T)
  | [], env, st, hi, h => ⟨[], env[i], by rw [List.set_getElem_self, List.append_nil]; rfl⟩
  | d :: ds, env, st, hi, h => by
    obtain ⟨U, hU⟩ := h d (List.mem_cons_self ..) []
    rw [List.append_nil] at hU
    obtain ⟨T, s, ih⟩ := for_keep (i := i) (b := b) (ds := ds) (env := env.set i (some (.frz, d))) (st := st ++ U) (by rw [List.length_set]; exact hi) (fun x hx T => by
      rw [List.set_set, List.append_assoc]
      exact h x (List.mem_cons_of_mem _ hx) (U ++ T))
    exact ⟨U ++ T, s, by rw [forL_name _ _ _ _ hi, hU, turn_next, ih, List.set_set, List.append_assoc]⟩
theorem for_yes {fi : FL} {i : Nat} {b : FS} {ds : List D} {st1 : Sto} (hf : fi env st = .ok ds st1) (hi : i < env.length) (h : ∀ d ∈ ds, ∀ T, ∃ U, b (env.set i (some (.frz, d))) (st1 ++ T) = .next (env.set i (some (.frz, d))) (st1 ++ T ++ U))
    (k : ∀ T s, Yes G (env.set i s) (st1 ++ T)) : Yes (sCons (sFor fi (tgName i) b) G) env st := by
  obtain ⟨T, s, hT⟩ := for_keep hi h
  exact stm_yes (by rw [sFor_L, hf, outL_ok, hT]) (k T s)
end
theorem cut_takeM (g : α → D) (ws : List α) (k : Nat) : cutD (ws.map g) none (some (k : Int)) = (ws.take k).map g := by rw [cut_take, List.map_take]
theorem cut_dropM (g : α → D) (ws : List α) (k : Nat) : cutD (ws.map g) (some (k : Int)) none = (ws.drop k).map g := by rw [cut_drop, List.map_drop]
theorem keep_at {st T : Sto} {c : Nat} {x : Cell} (h : st[c]? = some x) : (st ++ T)[c]? = some x := by
  rw [List.getElem?_append_left]
  · exact h
  · exact (List.getElem?_eq_some_iff.mp h).1
end NC

/-! ### list(range(n)), sorted of two ints, a list that is unpacked -/
namespace NC
open PySem L2
def bLRg (f : F) : F := fun env st => (f env st).bind fun d st1 => match d with
  | .int n => if 0 ≤ n ∧ n ≤ 16777216 then .ok (.lst (rngD 0 n)) st1 else .stuck
  | _ => .stuck
theorem reps_rg {K : PySem.W.Frag} {w : Wd} {H : Hp} (n : Int) : Reps K w H (rgV 0 n) (rngD 0 n) := by
  unfold rgV rngD
  induction List.range (n - 0).toNat with
  | nil => exact .nil
  | cons i l ih => exact .cons (.int _) ih
section
variable {G : Ct} {M : Mo} {m : Md} {ms : List Md} {X : Cx} {C : Cf} {a b c e o tg : Expr} {es : List Expr} {f g h fe fo : F} {fl : FL} {p1 p2 pos pos2 : Pos}
theorem sn_lrg (hm : M.hot = false) (hb : Bn M) (he : SndE G M .rd e f) (h : glX G ("range" : Str) = true := by decide +kernel) (h2 : glX G ("list" : Str) = true := by decide +kernel)
    (na : ∀ env, starEach [e] env = (false, eval e env) :: starEach [] env := by intro _; rfl)
    (na2 : ∀ env, starEach [.Call (.Name "range" p2) [e] [] pos2] env = (false, eval (.Call (.Name "range" p2) [e] [] pos2) env) :: starEach [] env := by intro _; rfl) :
    SndE G M .fr (.Call (.Name "list" p1) [.Call (.Name "range" p2) [e] [] pos2] [] pos) (bLRg f) := by
  intro X C gd
  have hr := glX_ok h
  have hl := glX_ok h2
  have g1 : Gl X ("range" : Str) := by show X.env.scope.names.lookup _ = _; rw [gd.sc]; exact hr.1
  have g2 : Gl X ("list" : Str) := by show X.env.scope.names.lookup _ = _; rw [gd.sc]; exact hl.1
  refine (pe_listRg (gd.cold hm).1 g2 (by rw [gd.mg]; exact hb "list" (by decide +kernel)) (prg_1 g1 (by rw [gd.mg]; exact hb "range" (by decide +kernel)) (he X C gd) (na _)) (na2 _)).imp fun σ H Q ⟨w, env, st, s, p⟩ => ⟨w, env, st, s, PostE.bind p fun d st1 w1 v1 H1 l1 s1 r1 p1 => ?_⟩
  cases d with
  | int n =>
    have p' : PostE C .fr env σ w1 H1 (if 0 ≤ n ∧ n ≤ 16777216 then .ok (.lst (rngD 0 n)) st1 else .stuck) Q := p1
    split at p'
    · rename_i hn
      have r2 : RepR C.T.K w1 H1 v1 (.int n) := r1
      cases r2.int
      exact ⟨n, rfl, RgOk.of_le (by omega) hn.2 (by omega) hn.1, fun q hq => PostE.lst p' s1 (reps_rg n) hq⟩
    · exact p'.elim
  | _ => exact p1.elim
/-- sorted of two ints -/
def kSort2 : List D → Sto → R D
  | [.lst [.int i, .int j]], st => .ok (.lst (if i ≤ j then [.int i, .int j] else [.int j, .int i])) st
  | _, _ => .stuck
theorem bu_sort2 : BuS G M .fr [.rd] (.builtin "sorted") kSort2 := by
  refine fun X C gd => ⟨_, cr_sortedI, fun env σ w H st ds vs Q s r0 p => ?_⟩
  rw [show X.K = C.T.K from gd.K.trans (by rw [gd.T])]
  obtain ⟨v, d, rfl, rfl, r⟩ := r0.rd1
  cases d with
  | lst ds =>
    obtain ⟨a, us, rfl, e3, n, rs⟩ := r.lst
    match ds, p, rs with
    | [.int i, .int j], p, rs =>
      cases rs with
      | cons r1 rs =>
        cases rs with
        | cons r2 rs =>
          cases rs
          cases r1
          cases r2
          refine ⟨a, [i, j], rfl, e3.sq, fun ns' pp hperm hpw hp => ?_⟩
          have hl := hperm.length_eq
          match ns', hl, hperm, hpw with
          | [x, y], _, hperm, hpw =>
            have hxy : x ≤ y := by
              cases hpw with
              | cons h1 _ => exact h1 y (List.mem_singleton.mpr rfl)
            have key : [x, y] = if i ≤ j then [i, j] else [j, i] := by
              have hx : x ∈ [i, j] := hperm.mem_iff.mp (by simp)
              have hi : i ∈ [x, y] := hperm.mem_iff.mpr (by simp)
              have hj : j ∈ [x, y] := hperm.mem_iff.mpr (by simp)
              have hy : y ∈ [i, j] := hperm.mem_iff.mp (by simp)
              simp at hx hi hj hy
              split
              · have : x = i ∧ y = j := by omega
                rw [this.1, this.2]
              · have : x = j ∧ y = i := by omega
                rw [this.1, this.2]
            rw [key]
            have p' : PostE C .fr env σ w H (.ok (.lst (if i ≤ j then [D.int i, .int j] else [.int j, .int i])) st) Q := p
            refine PostE.lst p' s ?_ hp
            split
            · exact .cons (.int _) (.cons (.int _) .nil)
            · exact .cons (.int _) (.cons (.int _) .nil)
    | [], p, _ => exact p.elim
    | [.int _], p, _ => exact p.elim
    | .int _ :: .int _ :: _ :: _, p, _ => exact p.elim
    | .non :: _, p, _ => exact p.elim
    | .bl _ :: _, p, _ => exact p.elim
    | .str _ :: _, p, _ => exact p.elim
    | .tup _ :: _, p, _ => exact p.elim
    | .lst _ :: _, p, _ => exact p.elim
    | .loc _ :: _, p, _ => exact p.elim
    | .int _ :: .non :: _, p, _ => exact p.elim
    | .int _ :: .bl _ :: _, p, _ => exact p.elim
    | .int _ :: .str _ :: _, p, _ => exact p.elim
    | .int _ :: .tup _ :: _, p, _ => exact p.elim
    | .int _ :: .lst _ :: _, p, _ => exact p.elim
    | .int _ :: .loc _ :: _, p, _ => exact p.elim
  | _ => exact p.elim
@[simp] theorem kSort2_eq (i j : Int) (st : Sto) : kSort2 [.lst [.int i, .int j]] st = .ok (.lst (if i ≤ j then [.int i, .int j] else [.int j, .int i])) st := rfl
end
/-- a list, unpacked -/
def tgUnl (u : List D → Ev → Option Ev) : Tg
  | .lst ds, env => u ds env
  | _, _ => none
section
variable {G : Ct} {M : Mo} {pos : Pos}
theorem sg_unl {es : List Expr} {is : List Nat} {k : Nat} {u : List D → Ev → Option Ev} (hm : M.hot = false) (h : SndGs G M es is u) (hn : ∀ ds env env', u ds env = some env' → ds.length = es.length)
    (hl : ∀ env, (assignEach es env).length = es.length := by intro _; rfl) (hst : ∀ env, (assignEach es env).findIdx? (·.1) = none := by intro _; rfl) : SndG G M (.Tuple es k pos) is (tgUnl u) := by
  intro X C gd
  refine (pg_unl (gd.cold hm).1 (h X C gd) (hl _) (hst _)).imp fun v σ H Q ⟨w, env, st, d, s, r, hh⟩ => ?_
  rw [show X.K = C.T.K from gd.K.trans (by rw [gd.T])]
  cases d with
  | lst ds =>
    obtain ⟨a, us, rfl, e3, _, rs⟩ := RepR.lst (.inl r)
    refine ⟨_, _, rfl, e3.sq, ?_, w, env, st, ds, s, rs, hh⟩
    have hh' : (match u ds env with | some env' => ∀ σ' : St, Sim C.T C.B w env' st σ' H → Keep is σ σ' → Q σ' H | none => False) := hh
    rw [rs.length]
    cases q : u ds env with
    | none => rw [q] at hh'; exact hh'.elim
    | some env' => exact hn _ _ _ q
  | _ => exact hh.elim
end
end NC

/-! ### houses as data (no program in sight) -/
namespace NC
open PySem L2
def opS : List Str := ["+", "-", "*", "/", "mod", "<", "="]
inductive Ex where
  | num (n : Nat)
  | var (x : Str)
  | giv
  | hav (a : Str)
  | out (a : Str)
  | op (s : Str) (l r : Ex)
def Ex.d : Ex → D
  | .num n => .tup [.str "number", .int n]
  | .var x => .tup [.str "variable", .str x]
  | .giv => .tup [.str "given"]
  | .hav a => .tup [.str "have", .str a]
  | .out a => .tup [.str "out", .str a]
  | .op s l r => .tup [.str s, l.d, r.d]
/-- names that are known, at most k deep -/
def Ex.ok (V A : List Str) : Nat → Ex → Prop
  | _, .num n => n ≤ 3
  | _, .var x => x ∈ V
  | _, .giv => True
  | _, .hav a => a ∈ A
  | _, .out a => a ∈ A
  | 0, .op _ _ _ => False
  | k + 1, .op s l r => s ∈ opS ∧ l.ok V A k ∧ r.ok V A k
theorem Ex.ok_up {V A : List Str} : ∀ {k : Nat} {e : Ex}, e.ok V A k → e.ok V A (k + 1)
  | 0, .num _, h => h
  | _ + 1, .num _, h => h
  | 0, .var _, h => h
  | _ + 1, .var _, h => h
  | 0, .giv, h => h
  | _ + 1, .giv, h => h
  | 0, .hav _, h => h
  | _ + 1, .hav _, h => h
  | 0, .out _, h => h
  | _ + 1, .out _, h => h
  | 0, .op _ _ _, h => absurd h id
  | k + 1, .op s l r, h => ⟨h.1, Ex.ok_up h.2.1, Ex.ok_up h.2.2⟩
mutual
inductive Sm where
  | set (v : Str) (e : Ex)
  | need (e : Ex)
  | give (a : Str) (e : Ex)
  | get (a : Str) (e : Ex)
  | ask (v : Str) (n : Nat)
  | call (c p : Str) (e : Ex)
  | move (c a : Str) (e : Ex)
  | ife (e : Ex) (t o : Bl)
inductive Bl where
  | nil
  | cons (s : Sm) (b : Bl)
end
mutual
def Sm.d : Sm → D
  | .set v e => .tup [.str "set", .str v, e.d]
  | .need e => .tup [.str "need", e.d]
  | .give a e => .tup [.str "give", .str a, e.d]
  | .get a e => .tup [.str "get", .str a, e.d]
  | .ask v n => .tup [.str "ask", .str v, .int n]
  | .call c p e => .tup [.str "call", .str c, .str p, e.d]
  | .move c a e => .tup [.str "move", .str c, .str a, e.d]
  | .ife e t o => .tup [.str "if", e.d, .tup t.ds, .tup o.ds]
def Bl.ds : Bl → List D
  | .nil => []
  | .cons s b => s.d :: b.ds
end
mutual
/-- questions -/
def Sm.asks : Sm → Nat
  | .ask _ _ => 1
  | .ife _ t o => t.asks + o.asks
  | _ => 0
def Bl.asks : Bl → Nat
  | .nil => 0
  | .cons s b => s.asks + b.asks
end
def Bl.len : Bl → Nat
  | .nil => 0
  | .cons _ b => b.len + 1
mutual
/-- names that are known; ifs at most d deep -/
def Sm.ok (V A : List Str) (K : List (Str × Str)) : Nat → Sm → Prop
  | _, .set v e => v ∈ V ∧ e.ok V A 3
  | _, .need e => e.ok V A 3
  | _, .give a e => a ∈ A ∧ e.ok V A 3
  | _, .get a e => a ∈ A ∧ e.ok V A 3
  | _, .ask v n => v ∈ V ∧ 1 ≤ n ∧ n ≤ 2
  | _, .call c p e => (c, p) ∈ K ∧ e.ok V A 3
  | _, .move _ _ _ => False
  | 0, .ife _ _ _ => False
  | d + 1, .ife e t o => e.ok V A 3 ∧ t.ok V A K d ∧ o.ok V A K d ∧ t.len ≤ 1 ∧ o.len ≤ 1
def Bl.ok (V A : List Str) (K : List (Str × Str)) : Nat → Bl → Prop
  | _, .nil => True
  | d, .cons s b => s.ok V A K d ∧ b.ok V A K d
end
def Bl.app : Bl → Bl → Bl
  | .nil, c => c
  | .cons s b, c => .cons s (b.app c)
theorem Bl.ds_app : ∀ (b c : Bl), (b.app c).ds = b.ds ++ c.ds
  | .nil, c => by rw [Bl.app, Bl.ds]; rfl
  | .cons s b, c => by rw [Bl.app, Bl.ds, Bl.ds, Bl.ds_app b c]; rfl
theorem Bl.asks_app : ∀ (b c : Bl), (b.app c).asks = b.asks + c.asks
  | .nil, c => by rw [Bl.app, Bl.asks, Nat.zero_add]
  | .cons s b, c => by rw [Bl.app, Bl.asks, Bl.asks, Bl.asks_app b c, Nat.add_assoc]
theorem Bl.ok_app {V A : List Str} {K : List (Str × Str)} {d : Nat} : ∀ {b c : Bl}, b.ok V A K d → c.ok V A K d → (b.app c).ok V A K d
  | .nil, c, _, h => by rw [Bl.app]; exact h
  | .cons s b, c, h, h2 => by
    rw [Bl.app]
    rw [Bl.ok] at h ⊢
    exact ⟨h.1, Bl.ok_app h.2 h2⟩
theorem Bl.len_app : ∀ (b c : Bl), (b.app c).len = b.len + c.len
  | .nil, c => by rw [Bl.app, Bl.len, Nat.zero_add]
  | .cons s b, c => by rw [Bl.app, Bl.len, Bl.len, Bl.len_app b c]; omega
theorem Bl.ds_len : ∀ b : Bl, b.ds.length = b.len
  | .nil => by rw [Bl.ds, Bl.len]; rfl
  | .cons s b => by rw [Bl.ds, Bl.len, List.length_cons, Bl.ds_len b]
def Sm.isCall : Sm → Bool
  | .call _ _ _ => true
  | _ => false
def Bl.calls : Bl → Nat
  | .nil => 0
  | .cons s b => (if s.isCall = true then 1 else 0) + b.calls
structure Pr where
  n : Str
  z : Nat
  sh : Bool
  b : Bl
def Pr.d (p : Pr) : D := .tup [.str p.n, .int p.z, .bl p.sh, .tup p.b.ds]
def vrD (v : Str × Nat × Nat) : D := .tup [.str v.1, .int v.2.1, .int v.2.2]
def hdD (h : Str × Nat) : D := .tup [.str h.1, .int h.2]
structure Co where
  n : Str
  vs : List (Str × Nat × Nat)
  hs : List (Str × Nat)
  ps : List Pr
def Co.d (c : Co) : D := .tup [.str c.n, .tup (c.vs.map vrD), .tup (c.hs.map hdD), .tup (c.ps.map Pr.d)]
structure Ho where
  as : List (Str × Nat)
  cs : List Co
/-- a house as a law draws it -/
def Ho.d (h : Ho) : D := .tup [.lst (h.as.map hdD), .lst (h.cs.map Co.d)]
abbrev pairD (p : Str × Str) : D := .tup [.str p.1, .str p.2]
/-- procedures: links and questions that are left, before and behind -/
def PsOk (V A : List Str) (c : Str) : List Str → List (Str × Str) → Nat → List Pr → List (Str × Str) → Nat → Prop
  | _, K, a, [], K', a' => K' = K ∧ a' = a
  | [], _, _, _ :: _, _, _ => False
  | n :: ns, K, a, p :: ps, K', a' => p.n = n ∧ p.z ∈ [1, 2, 3, 5, 64] ∧ p.b.ok V A K 1 ∧ 1 ≤ p.b.len ∧ p.b.len ≤ 4 ∧ ∃ a1, a = a1 + p.b.asks ∧ (PsOk V A c ns (if p.b.calls = 0 then K ++ [(c, n)] else K) a1 ps K' a' ∨ PsOk V A c ns K a1 ps K' a')
theorem PsOk_nil {V A : List Str} {c : Str} {ns : List Str} {K : List (Str × Str)} {a : Nat} {K' : List (Str × Str)} {a' : Nat} : PsOk V A c ns K a [] K' a' ↔ (K' = K ∧ a' = a) := by cases ns <;> exact Iff.rfl
theorem PsOk.snoc {V A : List Str} {c : Str} : ∀ {ns : List Str} {K : List (Str × Str)} {a : Nat} {ps : List Pr} {K1 : List (Str × Str)} {a1 : Nat} {p : Pr} {n : Str} {K2 : List (Str × Str)} {a2 : Nat}, PsOk V A c ns K a ps K1 a1 → ns[ps.length]? = some n → p.n = n → p.z ∈ [1, 2, 3, 5, 64] → p.b.ok V A K1 1 → 1 ≤ p.b.len → p.b.len ≤ 4 → a1 = a2 + p.b.asks → (K2 = (if p.b.calls = 0 then K1 ++ [(c, n)] else K1) ∨ K2 = K1) → PsOk V A c ns K a (ps ++ [p]) K2 a2
  | [], K, a, [], K1, a1, p, n, K2, a2, h, hn, _, _, _, _, _, _, _ => by simp at hn
  | m :: ns, K, a, [], K1, a1, p, n, K2, a2, h, hn, h1, h2, h3, h4, h5, h6, h7 => by
    obtain ⟨rfl, rfl⟩ := h
    simp at hn
    subst hn
    refine ⟨h1, h2, h3, h4, h5, a2, h6, ?_⟩
    rcases h7 with h7 | h7
    · exact .inl (PsOk_nil.mpr ⟨h7, rfl⟩)
    · exact .inr (PsOk_nil.mpr ⟨h7, rfl⟩)
  | [], K, a, q :: ps, K1, a1, p, n, K2, a2, h, hn, _, _, _, _, _, _, _ => by simp at hn
  | m :: ns, K, a, q :: ps, K1, a1, p, n, K2, a2, h, hn, h1, h2, h3, h4, h5, h6, h7 => by
    obtain ⟨g1, g2, g3, g4, g5, b, g6, g7⟩ := h
    have hn' : ns[ps.length]? = some n := by simpa using hn
    refine ⟨g1, g2, g3, g4, g5, b, g6, ?_⟩
    rcases g7 with g7 | g7
    · exact .inl (PsOk.snoc g7 hn' h1 h2 h3 h4 h5 h6 h7)
    · exact .inr (PsOk.snoc g7 hn' h1 h2 h3 h4 h5 h6 h7)
theorem PsOk.len {V A : List Str} {c : Str} : ∀ {ns : List Str} {K : List (Str × Str)} {a : Nat} {ps : List Pr} {K1 : List (Str × Str)} {a1 : Nat}, PsOk V A c ns K a ps K1 a1 → ps.length ≤ ns.length ∧ K1.length ≤ K.length + ps.length ∧ a1 ≤ a
  | ns, K, a, [], K1, a1, h => by
    obtain ⟨rfl, rfl⟩ := PsOk_nil.mp h
    simp
  | [], K, a, p :: ps, K1, a1, h => h.elim
  | n :: ns, K, a, p :: ps, K1, a1, h => by
    obtain ⟨_, _, _, _, _, b, g6, g7⟩ := h
    rcases g7 with g7 | g7
    · have := PsOk.len g7
      simp only [List.length_cons]
      split at this
      · simp at this; omega
      · omega
    · have := PsOk.len g7
      simp only [List.length_cons]
      omega
structure CoOk (A : List Str) (c : Str) (K : List (Str × Str)) (a : Nat) (co : Co) (K' : List (Str × Str)) (a' : Nat) : Prop where
  n : co.n = c
  vs : ∃ k, co.vs.map (·.1) = ([("x" : Str), "y"]).take k
  vz : ∀ v ∈ co.vs, 2 ≤ v.2.1 ∧ v.2.1 ≤ 3 ∧ v.2.2 ≤ 1
  hs : co.hs.map (·.1) = A ∨ co.hs = []
  hz : ∀ h ∈ co.hs, h.2 ≤ 3
  ps : PsOk (co.vs.map (·.1)) A c ["p", "q"] K a co.ps K' a'
def CsOk (A : List Str) : List Str → List (Str × Str) → Nat → List Co → List (Str × Str) → Nat → Prop
  | _, K, a, [], K', a' => K' = K ∧ a' = a
  | [], _, _, _ :: _, _, _ => False
  | n :: ns, K, a, c :: cs, K2, a2 => ∃ K1 a1, CoOk A n K a c K1 a1 ∧ CsOk A ns K1 a1 cs K2 a2
theorem CsOk_nil {A : List Str} {ns : List Str} {K : List (Str × Str)} {a : Nat} {K' : List (Str × Str)} {a' : Nat} : CsOk A ns K a [] K' a' ↔ (K' = K ∧ a' = a) := by cases ns <;> exact Iff.rfl
theorem CsOk.snoc {A : List Str} : ∀ {ns : List Str} {K : List (Str × Str)} {a : Nat} {cs : List Co} {K1 : List (Str × Str)} {a1 : Nat} {c : Co} {n : Str} {K2 : List (Str × Str)} {a2 : Nat}, CsOk A ns K a cs K1 a1 → ns[cs.length]? = some n → CoOk A n K1 a1 c K2 a2 → CsOk A ns K a (cs ++ [c]) K2 a2
  | [], K, a, [], K1, a1, c, n, K2, a2, h, hn, _ => by simp at hn
  | m :: ns, K, a, [], K1, a1, c, n, K2, a2, h, hn, h1 => by
    obtain ⟨rfl, rfl⟩ := h
    simp at hn
    subst hn
    exact ⟨K2, a2, h1, CsOk_nil.mpr ⟨rfl, rfl⟩⟩
  | [], K, a, q :: cs, K1, a1, c, n, K2, a2, h, hn, _ => by simp at hn
  | m :: ns, K, a, q :: cs, K1, a1, c, n, K2, a2, h, hn, h1 => by
    obtain ⟨K0, a0, g1, g2⟩ := h
    exact ⟨K0, a0, g1, CsOk.snoc g2 (by simpa using hn) h1⟩
structure HoOk (ns : List Str) (h : Ho) : Prop where
  as : ∃ k, h.as.map (·.1) = ([("a" : Str), "b"]).take k
  az : ∀ a ∈ h.as, a.2 ≤ 2
  cn : h.cs ≠ []
  cs : ∃ a K' a', a ≤ 2 ∧ CsOk (h.as.map (·.1)) ns [] a h.cs K' a'
end NC

/-! ### dicts: keys as data -/
namespace NC
open PySem L2
def keyOf : D → Option Key
  | .int i => some (.inl i)
  | .str x => some (.inr x)
  | _ => none
def keysOf : List D → Option (List Key)
  | [] => some []
  | d :: r => match keyOf d, keysOf r with
    | some k, some ks => some (k :: ks)
    | _, _ => none
def keysEq : List D → List D → Bool
  | [], [] => true
  | .int i :: r, .int j :: s => decide (i = j) && keysEq r s
  | .str x :: r, .str y :: s => decide (x = y) && keysEq r s
  | _, _ => false
def keyEq : D → D → Bool
  | .int i, .int j => decide (i = j)
  | .str x, .str y => decide (x = y)
  | .tup xs, .tup ys => keysEq xs ys
  | _, _ => false
def lookD : List (D × D) → D → Option D
  | [], _ => none
  | p :: r, y => if keyEq p.1 y = true then some p.2 else lookD r y
def hasD (kvs : List (D × D)) (y : D) : Bool := kvs.any fun p => keyEq p.1 y
def putK' (kvs : List (D × D)) (y d : D) : List (D × D) := if hasD kvs y = true then kvs.map (fun p => if keyEq p.1 y = true then (p.1, d) else p) else kvs ++ [(y, d)]
theorem keyOf_keyD : ∀ k : Key, keyOf (keyD k) = some k
  | .inl _ => rfl
  | .inr _ => rfl
theorem keyOf_some {d : D} {k : Key} (h : keyOf d = some k) : d = keyD k := by
  cases d <;> simp only [keyOf, Option.some.injEq, reduceCtorEq] at h
  · subst h; rfl
  · subst h; rfl
theorem keysOf_some : ∀ {ds : List D} {ks : List Key}, keysOf ds = some ks → ds = ks.map keyD
  | [], ks, h => by simp only [keysOf, Option.some.injEq] at h; subst h; rfl
  | d :: r, ks, h => by
    unfold keysOf at h
    split at h
    · rename_i k ks' h1 h2
      cases h
      rw [List.map_cons, ← keyOf_some h1, ← keysOf_some h2]
    · cases h
theorem keysEq_map : ∀ a b : List Key, keysEq (a.map keyD) (b.map keyD) = decide (a = b)
  | [], [] => rfl
  | [], .inl _ :: _ => rfl
  | [], .inr _ :: _ => rfl
  | .inl _ :: _, [] => rfl
  | .inr _ :: _, [] => rfl
  | .inl i :: r, .inl j :: s => by
    show (decide (i = j) && keysEq (r.map keyD) (s.map keyD)) = _
    rw [keysEq_map r s, ← Bool.decide_and]
    simp
  | .inr i :: r, .inr j :: s => by
    show (decide (i = j) && keysEq (r.map keyD) (s.map keyD)) = _
    rw [keysEq_map r s, ← Bool.decide_and]
    simp
  | .inl i :: r, .inr j :: s => by
    show false = _
    simp
  | .inr i :: r, .inl j :: s => by
    show false = _
    simp
theorem keyEq_keyD : ∀ a b : Key, keyEq (keyD a) (keyD b) = decide (a = b)
  | .inl i, .inl j => by show decide (i = j) = _; simp
  | .inr i, .inr j => by show decide (i = j) = _; simp
  | .inl i, .inr j => by show false = _; simp
  | .inr i, .inl j => by show false = _; simp
theorem keyEq_tup (a b : List Key) : keyEq (.tup (a.map keyD)) (.tup (b.map keyD)) = decide (a = b) := keysEq_map a b
section
variable {κ : Type} [DecidableEq κ] {enc : κ → D} (he : ∀ a b, keyEq (enc a) (enc b) = decide (a = b)) {K : PySem.W.Frag} {w : Wd} {H : Hp}
include he
theorem look_rel (k : κ) : ∀ {kvs : List (D × D)} {ks : List (κ × V)}, kvs.map (·.1) = ks.map (fun p => enc p.1) → Reps K w H (ks.map (·.2)) (kvs.map (·.2)) →
    (lookD kvs (enc k) = none ∧ valV ks k = none) ∨ ∃ d v, lookD kvs (enc k) = some d ∧ valV ks k = some v ∧ Rep K w H v d
  | [], [], _, _ => .inl ⟨rfl, rfl⟩
  | [], _ :: _, h, _ => by cases h
  | _ :: _, [], h, _ => by cases h
  | p :: r, q :: s, h, rr => by
    rw [List.map_cons, List.map_cons] at h
    injection h with h1 h2
    rw [List.map_cons, List.map_cons] at rr
    cases rr with
    | cons r1 r2 =>
      by_cases e : q.1 = k
      · refine .inr ⟨p.2, q.2, ?_, valV_pos e, r1⟩
        unfold lookD
        rw [if_pos (by rw [h1, he, decide_eq_true e])]
      · rcases look_rel k h2 r2 with ⟨z1, z2⟩ | ⟨d, v, z1, z2, z3⟩
        · refine .inl ⟨?_, by rw [valV_neg e]; exact z2⟩
          unfold lookD
          rw [if_neg (by rw [h1, he, decide_eq_false e]; exact Bool.false_ne_true)]
          exact z1
        · refine .inr ⟨d, v, ?_, by rw [valV_neg e]; exact z2, z3⟩
          unfold lookD
          rw [if_neg (by rw [h1, he, decide_eq_false e]; exact Bool.false_ne_true)]
          exact z1
theorem has_rel (k : κ) : ∀ {kvs : List (D × D)} {ks : List (κ × V)}, kvs.map (·.1) = ks.map (fun p => enc p.1) → hasD kvs (enc k) = ks.any fun kv => decide (kv.1 = k)
  | [], [], _ => rfl
  | [], _ :: _, h => by cases h
  | _ :: _, [], h => by cases h
  | p :: r, q :: s, h => by
    rw [List.map_cons, List.map_cons] at h
    injection h with h1 h2
    have ih := has_rel k h2
    unfold hasD at ih ⊢
    rw [List.any_cons, List.any_cons, ih, h1, he]
theorem upd_rel (k : κ) {d : D} {v : V} (rv : Rep K w H v d) : ∀ {kvs : List (D × D)} {ks : List (κ × V)}, kvs.map (·.1) = ks.map (fun p => enc p.1) → Reps K w H (ks.map (·.2)) (kvs.map (·.2)) →
    (kvs.map (fun p => if keyEq p.1 (enc k) = true then (p.1, d) else p)).map (·.1) = (ks.map (fun kv => if kv.1 = k then (kv.1, v) else kv)).map (fun p => enc p.1) ∧
    Reps K w H ((ks.map (fun kv => if kv.1 = k then (kv.1, v) else kv)).map (·.2)) ((kvs.map (fun p => if keyEq p.1 (enc k) = true then (p.1, d) else p)).map (·.2))
  | [], [], _, _ => ⟨rfl, .nil⟩
  | [], _ :: _, h, _ => by cases h
  | _ :: _, [], h, _ => by cases h
  | p :: r, q :: s, h, rr => by
    rw [List.map_cons, List.map_cons] at h
    injection h with h1 h2
    rw [List.map_cons, List.map_cons] at rr
    cases rr with
    | cons r1 r2 =>
      obtain ⟨z1, z2⟩ := upd_rel k rv h2 r2
      by_cases e : q.1 = k
      · have c : keyEq p.1 (enc k) = true := by rw [h1, he, decide_eq_true e]
        simp only [List.map_cons, if_pos c, if_pos e]
        exact ⟨by rw [z1, h1], .cons rv z2⟩
      · have c : ¬ keyEq p.1 (enc k) = true := by rw [h1, he, decide_eq_false e]; exact Bool.false_ne_true
        simp only [List.map_cons, if_neg c, if_neg e]
        exact ⟨by rw [z1, h1], .cons r1 z2⟩
theorem put_rel (k : κ) {d : D} {v : V} (rv : Rep K w H v d) {kvs : List (D × D)} {ks : List (κ × V)} (h : kvs.map (·.1) = ks.map (fun p => enc p.1)) (rr : Reps K w H (ks.map (·.2)) (kvs.map (·.2))) :
    (putK' kvs (enc k) d).map (·.1) = (putK ks k v).map (fun p => enc p.1) ∧ Reps K w H ((putK ks k v).map (·.2)) ((putK' kvs (enc k) d).map (·.2)) := by
  unfold putK' putK
  rw [has_rel he k h]
  by_cases c : (ks.any fun kv => decide (kv.1 = k)) = true
  · rw [if_pos c, if_pos c]
    exact upd_rel he k rv h rr
  · rw [if_neg c, if_neg c]
    rw [List.map_append, List.map_append, List.map_append, List.map_append, h]
    exact ⟨rfl, rr.append (.cons rv .nil)⟩
end
theorem RepR.keyV {K : PySem.W.Frag} {w : Wd} {H : Hp} {v : V} {d : D} {k : Key} (r : RepR K w H v d) (h : keyOf d = some k) : v = kV k := by
  cases d <;> simp only [keyOf, Option.some.injEq, reduceCtorEq] at h
  · subst h; exact r.int
  · subst h; exact r.str
theorem Reps.keysV {K : PySem.W.Frag} {w : Wd} {H : Hp} : ∀ {vs : List V} {ds : List D} {ks : List Key}, Reps K w H vs ds → keysOf ds = some ks → vs = ks.map kV
  | _, _, ks, .nil, h => by simp only [keysOf, Option.some.injEq] at h; subst h; rfl
  | _, _, ks, .cons r t, h => by
    unfold keysOf at h
    split at h
    · rename_i k ks' h1 h2
      cases h
      rw [List.map_cons, ← RepR.keyV (.inl r) h1, ← Reps.keysV t h2]
    · cases h

/-! ### a new cell -/
def Wd.cellAt (w : Wd) (p : Addr) : Wd := ⟨fun b => w.S b ∧ b ≠ p, w.r ++ [p]⟩
theorem Sim.newCell {T : Tb} {B : Bs} {w0 w : Wd} {env : Ev} {st0 st : Sto} {σ : L2.St} {H0 H : Hp} {p : Addr} {o : HO} {c : Cell} (s0 : Sim T B w0 env st0 σ H0) (hp : H0 p = none) (l : Le w0 H0 w H) (s : Sim T B w env st σ H) (hS : w.S p)
    (hi : ∀ o', H p = some o' → ¬ Imm o') : Ok2 w H (w.cellAt p) (upd H p o) ∧ (CellOk T (w.cellAt p) (upd H p o) p c → Le w0 H0 (w.cellAt p) (upd H p o) ∧ Sim T B (w.cellAt p) env (st ++ [c]) σ (upd H p o)) ∧ (w.cellAt p).r[st.length]? = some p := by
  have nb : ∀ b, H0 b ≠ none → b ≠ p := fun b hb z => hb (z ▸ hp)
  have nr : p ∉ w.r := (s.al p hS).2
  have pre2 : ∀ (n : Nat) b, w.r[n]? = some b → (w.cellAt p).r[n]? = some b := fun n b e => by
    show (w.r ++ [p])[n]? = some b
    rw [List.getElem?_append_left]
    · exact e
    · rcases Nat.lt_or_ge n w.r.length with z | z
      · exact z
      · rw [List.getElem?_eq_none z] at e; cases e
  have nm : ∀ b, b ∉ w.r → b ≠ p → b ∉ (w.cellAt p).r := fun b h1 h2 z => by
    rcases List.mem_append.mp z with z | z
    · exact h1 z
    · exact h2 (List.mem_singleton.mp z)
  have ok : Ok2 w H (w.cellAt p) (upd H p o) := ⟨pre2, fun b u e im => by
    rw [upd_ne (fun z => hi u (by rw [← z]; exact e) im)]; exact e, fun b u e n1 n2 => by
    have hb : b ≠ p := fun z => n1 (z ▸ hS)
    exact ⟨by rw [upd_ne hb]; exact e, fun z => n1 z.1, nm b n2 hb⟩⟩
  have Ba : B.H p = none := by
    cases q1 : B.H p with
    | none => rfl
    | some o => obtain ⟨o', e'⟩ := s0.le.live p o q1; rw [hp] at e'; cases e'
  have nB : ∀ b, B.H b ≠ none → b ≠ p := fun b z e => z (e ▸ Ba)
  have hat : (w.cellAt p).r[st.length]? = some p := by
    show (w.r ++ [p])[st.length]? = some p
    rw [s.sto.len, List.getElem?_append_right (Nat.le_refl _), Nat.sub_self]; rfl
  refine ⟨ok, fun hc => ⟨⟨fun n b e => pre2 n b (l.pre n b e), fun b u e n => ?_, fun b u e => ?_, fun b z => ?_, fun b z => l.S b z.1, fun b z => ⟨l.Sm b z, nb b (s0.al b z).1⟩⟩, ?_⟩, hat⟩
  · rw [upd_ne (nb b (by rw [e]; exact fun z => nomatch z))]; exact l.fr b u e n
  · rw [upd_ne (nb b (by rw [e]; exact fun z => nomatch z))]; exact l.live b u e
  · rcases List.mem_append.mp z with z | z
    · exact l.new b z
    · rw [List.mem_singleton.mp z]; exact .inr hp
  refine ⟨s.len, fun i sl e => ?_, s.dist, ⟨?_, ?_, fun i c b h1 h2 => ?_⟩, fun b z => ⟨?_, nm b (s.al b z.1).2 z.2⟩, ⟨fun n b e => pre2 n b (s.le.pre n b e), fun b u e n => ?_, fun b u e => ?_, fun b z => ?_, fun b z => s.le.S b z.1, fun b z => ⟨s.sub b z, nB b (s.bal b z)⟩⟩, fun b z => ⟨s.sub b z, nB b (s.bal b z)⟩, s.bal,
          fun pp hp => (s.pin pp hp).to ok fun a0 u e n b => ⟨by rw [upd_ne (nB a0 b)]; exact e, nm a0 n (nB a0 b)⟩⟩
  · have q := s.slot i sl e
    have q0 := s0.slot i sl e
    match sl, q, q0 with
    | none, _, _ => trivial
    | some (.frz, d), ⟨v, e, r⟩, _ => exact ⟨v, e, Rep.to ok _ _ r⟩
    | some (.own, d), ⟨b, us, ds, f1, f2, f3, r, f4, f5⟩, ⟨b', us', ds', g1, g2, g3, _⟩ =>
      rw [g1] at f1; cases f1
      have hb : b ≠ p := nb _ (by rw [g3]; intro z; cases z)
      exact ⟨_, us, ds, g1, f2, by rw [upd_ne hb]; exact f3, Reps.to ok _ _ r, ⟨f4, hb⟩, f5⟩
    | some (.bor, d), ⟨b, us, ds, f1, f2, r, f4⟩, _ => exact ⟨b, us, ds, f1, f2, Reps.to ok _ _ r, f4.to fun a0 u e n bb => ⟨by rw [upd_ne (nB a0 bb)]; exact e, nm a0 n (nB a0 bb)⟩⟩
    | some (.exc, d), ⟨b, c, cls, dd, f, v0, ee, g1, g2, g3, g4, g5, g6, r⟩, _ =>
      have hd : dd ≠ p := fun z => g5 (by rw [z]; exact hS)
      exact ⟨b, c, cls, dd, f, v0, ee, g1, g2, g3, by rw [upd_ne hd]; exact g4, fun z => g5 z.1, nm dd g6 hd, Rep.to ok _ _ r⟩
  · show (st ++ [_]).length = (w.r ++ [p]).length
    rw [List.length_append, List.length_append, s.sto.len]; rfl
  · show (w.r ++ [p]).Nodup
    refine List.nodup_append.mpr ⟨s.sto.nd, by simp, fun b hb c hc e => nr ?_⟩
    rw [List.mem_singleton.mp hc] at e
    exact e ▸ hb
  · by_cases hi : i < st.length
    · rw [List.getElem?_append_left hi] at h1
      have h2' : w.r[i]? = some b := by
        have := h2
        rw [show (w.cellAt p).r = w.r ++ [p] from rfl, List.getElem?_append_left (by rw [← s.sto.len]; exact hi)] at this
        exact this
      have hb : b ≠ p := fun z => nr (z ▸ List.mem_of_getElem? h2')
      exact (s.sto.at_ i c b h1 h2').to ok (upd_ne hb)
    · have hi2 : st.length ≤ i := Nat.le_of_not_lt hi
      rw [List.getElem?_append_right hi2] at h1
      rw [show (w.cellAt p).r = w.r ++ [p] from rfl, List.getElem?_append_right (by rw [← s.sto.len]; exact hi2), ← s.sto.len] at h2
      match hk : i - st.length, h1, h2 with
      | 0, h1, h2 =>
        cases h1; cases h2
        exact hc
      | k + 1, h1, h2 => simp at h1
  · rw [upd_ne z.2]; exact (s.al b z.1).1
  · rw [upd_ne (nB b (by rw [e]; exact fun z => nomatch z))]; exact s.le.fr b u e n
  · rw [upd_ne (nB b (by rw [e]; exact fun z => nomatch z))]; exact s.le.live b u e
  · rcases List.mem_append.mp z with z | z
    · exact s.le.new b z
    · rw [List.mem_singleton.mp z]; exact .inr Ba

theorem upd_twice {H : Hp} {p : Addr} {o o2 : HO} : upd (upd H p o) p o2 = upd H p o2 := by
  funext a
  by_cases h : a = p
  · rw [h, upd_same, upd_same]
  · rw [upd_ne h, upd_ne h, upd_ne h]
/-! ### {} -/
def bDNew (t : Bool) : F := fun _ st => .ok (.loc st.length) (st ++ [.dic t []])
section
variable {G : Ct} {M : Mo} {m : Md} {X : Cx} {C : Cf} {a b c e o i : Expr} {es : List Expr} {f g h fo fk fv : F} {fl : FL} {pos pos' p1 p2 : Pos} {x : Str}
theorem sn_dnewK : SndE G M .esc (.Dict [] [] pos) (bDNew false) := fun X C gd => pe_dnewK.imp fun σ H Q ⟨w, env, st, s, p⟩ p0 hp => by
  have s1 := s.pushO (o := .dK []) hp
  have l1 : Le w H (w.add p0) (upd H p0 (.dK [])) := (Le.push hp).add hp
  obtain ⟨k1, k2, k3⟩ := Sim.newCell (o := .dK []) (c := .dic false []) s hp l1 s1 (.inr rfl) (fun o' e im => by rw [upd_same] at e; cases e; exact im)
  obtain ⟨l2, s2⟩ := k2 ⟨[], upd_same, rfl, .nil⟩
  rw [upd_twice] at l2 s2
  exact p _ (.ref p0) _ l2 s2 (.loc k3)
theorem sn_dnewT : SndE G M .esc (.Dict [] [] pos) (bDNew true) := fun X C gd => pe_dnewT.imp fun σ H Q ⟨w, env, st, s, p⟩ p0 hp => by
  have s1 := s.pushO (o := .dT []) hp
  have l1 : Le w H (w.add p0) (upd H p0 (.dT [])) := (Le.push hp).add hp
  obtain ⟨k1, k2, k3⟩ := Sim.newCell (o := .dT []) (c := .dic true []) s hp l1 s1 (.inr rfl) (fun o' e im => by rw [upd_same] at e; cases e; exact im)
  obtain ⟨l2, s2⟩ := k2 ⟨[], upd_same, rfl, .nil⟩
  rw [upd_twice] at l2 s2
  exact p _ (.ref p0) _ l2 s2 (.loc k3)

/-! ### {k: v, ..} -/
inductive PRep (K : PySem.W.Frag) (w : Wd) (H : Hp) : List (V × V) → List (D × D) → Prop where
  | nil : PRep K w H [] []
  | cons {x y : V} {c d : D} {vs : List (V × V)} {ds : List (D × D)} : RepR K w H x c → Rep K w H y d → PRep K w H vs ds → PRep K w H ((x, y) :: vs) ((c, d) :: ds)
theorem PRep.keys {K : PySem.W.Frag} {w : Wd} {H : Hp} {ps : List (V × V)} {ds : List (D × D)} (r : PRep K w H ps ds) : ∀ {ks : List Key}, keysOf (ds.map (·.1)) = some ks →
    ∃ kvs : List (Key × V), ps = kvs.map (fun kv => (kV kv.1, kv.2)) ∧ ds.map (·.1) = kvs.map (fun p => keyD p.1) ∧ Reps K w H (kvs.map (·.2)) (ds.map (·.2)) := by
  induction r with
  | nil => intro ks h; exact ⟨[], rfl, rfl, .nil⟩
  | @cons x y c d vs ds r1 r2 r3 ih =>
    intro ks h
    rw [List.map_cons] at h
    unfold keysOf at h
    split at h
    · rename_i k ks' h1 h2
      obtain ⟨kvs, e1, e2, e3⟩ := ih h2
      refine ⟨(k, y) :: kvs, ?_, ?_, .cons r2 e3⟩
      · rw [List.map_cons, ← e1, r1.keyV h1]
      · rw [List.map_cons, List.map_cons, ← e2, keyOf_some h1]
    · cases h
def mergeD (kvs more : List (D × D)) : List (D × D) := more.foldl (fun acc p => putK' acc p.1 p.2) kvs
theorem merge_rel {K : PySem.W.Frag} {w : Wd} {H : Hp} : ∀ {more : List (D × D)} {more' : List (Key × V)} {kvs : List (D × D)} {ks : List (Key × V)}, more.map (·.1) = more'.map (fun p => keyD p.1) → Reps K w H (more'.map (·.2)) (more.map (·.2)) →
    kvs.map (·.1) = ks.map (fun p => keyD p.1) → Reps K w H (ks.map (·.2)) (kvs.map (·.2)) →
    (mergeD kvs more).map (·.1) = (mergeK ks more').map (fun p => keyD p.1) ∧ Reps K w H ((mergeK ks more').map (·.2)) ((mergeD kvs more).map (·.2))
  | [], [], _, _, _, _, h, r => ⟨h, r⟩
  | [], _ :: _, _, _, h, _, _, _ => by cases h
  | _ :: _, [], _, _, h, _, _, _ => by cases h
  | p :: r, q :: s, kvs, ks, h, rr, h0, r0 => by
    rw [List.map_cons, List.map_cons] at h
    injection h with h1 h2
    rw [List.map_cons, List.map_cons] at rr
    cases rr with
    | cons r1 r2 =>
      obtain ⟨z1, z2⟩ := put_rel (enc := keyD) keyEq_keyD q.1 r1 h0 r0
      rw [← h1] at z1 z2
      exact merge_rel (more := r) (more' := s) h2 r2 z1 z2
def lPairs : List (F × F) → Ev → Sto → R (List (D × D))
  | [], _, st => .ok [] st
  | q :: r, env, st => (q.1 env st).bind fun a st1 => (q.2 env st1).bind fun b st2 => (lPairs r env st2).bind fun l st3 => .ok ((a, b) :: l) st3
def trsOf (C : Cf) (fs : List (F × F)) : List (TE × TE) := fs.map fun q => (tE C .rd q.1, tE C .esc q.2)
def SndP (G : Ct) (M : Mo) (pos : Pos) (keys : List (Option Expr)) (values : List Expr) (fs : List (F × F)) : Prop := ∀ X C, Gd G M X C → PPs X pos keys values (trsOf C fs)
theorem sp_nil : SndP G M pos [] [] [] := fun X C gd => pps_nil
theorem sp_cons {ks : List (Option Expr)} {vs : List Expr} {fs : List (F × F)} (hk : SndE G M .rd a f) (hv : SndE G M .esc b g) (hr : SndP G M pos ks vs fs) : SndP G M pos (some a :: ks) (b :: vs) ((f, g) :: fs) :=
  fun X C gd => pps_cons (hk X C gd) (hv X C gd) (hr X C gd)
def PostP (C : Cf) (env : Ev) (σ : St) (w : Wd) (H : Hp) (r : R (List (D × D))) (Q : List (V × V) → Hp → Prop) : Prop := match r with
  | .ok ds st' => ∀ w' vs H', Le w H w' H' → Sim C.T C.B w' env st' σ H' → PRep C.T.K w' H' vs ds → Q vs H'
  | .exc x st' => ∀ w' H' c dx, Le w H w' H' → Sim C.T C.B w' env st' σ H' → XRep C.T w' H' x c dx → C.W c dx σ H'
  | .stuck => False
theorem PostP.le {C : Cf} {env : Ev} {σ : L2.St} {w w1 : Wd} {H H1 : Hp} {Q : List (V × V) → Hp → Prop} {r : R (List (D × D))} (h : PostP C env σ w H r Q) (l : Le w H w1 H1) : PostP C env σ w1 H1 r Q := by
  cases r with
  | ok d st' => exact fun w' v H' l' s rep => h w' v H' (l.trans l') s rep
  | exc x st' => exact fun w' H' c dx l' s xr => h w' H' c dx (l.trans l') s xr
  | stuck => exact h
theorem PostP.bind {C : Cf} {env : Ev} {σ : L2.St} {w : Wd} {H : Hp} {Q : List (V × V) → Hp → Prop} {r : R D} {k : D → Sto → R (List (D × D))} {R' : VK} (h : PostP C env σ w H (r.bind k) Q)
    (f : ∀ d st1 w1 v1 H1, Le w H w1 H1 → Sim C.T C.B w1 env st1 σ H1 → RepM C.T.K m H w1 H1 v1 d → PostP C env σ w1 H1 (k d st1) Q → R' v1 H1) : PostE C m env σ w H r R' := by
  cases r with
  | ok d st' => exact fun w' v H' l' s rep => f d st' w' v H' l' s rep (PostP.le (r := k d st') h l')
  | exc x st' => exact h
  | stuck => exact h
theorem PRep.le {T : Tb} {w w' : Wd} {H H' : Hp} {vs : List (V × V)} {ds : List (D × D)} {st : Sto} (l : Le w H w' H') (s : Stok T w H st) (h : PRep T.K w H vs ds) : PRep T.K w' H' vs ds := by
  induction h with
  | nil => exact .nil
  | cons h1 h2 _ ih => exact .cons (h1.le l s) (Rep.to (l.ok2 s) _ _ h2) ih
theorem pairs_post {C : Cf} : ∀ (fs : List (F × F)) {env : Ev} {σ : L2.St} {w : Wd} {H : Hp} {st : Sto} {Q : List (V × V) → Hp → Prop}, Sim C.T C.B w env st σ H → PostP C env σ w H (lPairs fs env st) Q → tPairs (trsOf C fs) σ H Q
  | [], env, σ, w, H, st, Q, s, p => p w [] H (.refl _ _) s .nil
  | q :: r, env, σ, w, H, st, Q, s, p => by
    refine ⟨w, env, st, s, PostP.bind (m := .rd) p fun d st1 w1 v1 H1 l1 s1 r1 p1 => ⟨w1, env, st1, s1, PostP.bind (m := .esc) p1 fun d2 st2 w2 v2 H2 l2 s2 r2 p2 => ?_⟩⟩
    refine pairs_post r s2 ?_
    cases e : lPairs r env st2 with
    | stuck => rw [e] at p2; exact p2.elim
    | exc x st' => rw [e] at p2; exact p2
    | ok ds st' =>
      rw [e] at p2
      intro w' vs H' l' s' rep
      have r1' : RepR C.T.K w1 H1 v1 d := r1
      have r2' : Rep C.T.K w2 H2 v2 d2 := r2
      exact p2 w' ((v1, v2) :: vs) H' l' s' (.cons (r1'.le (l2.trans l') s1.sto) (Rep.to (l'.ok2 s2.sto) _ _ r2') rep)
def bDisp (fs : List (F × F)) : F := fun env st => match lPairs fs env st with
  | .ok kvs st' => match keysOf (kvs.map (·.1)) with
    | some _ => if kvs.length ≤ 15 then .ok (.loc st'.length) (st' ++ [.dic false (mergeD [] kvs)]) else .stuck
    | none => .stuck
  | .exc x st' => .exc x st'
  | .stuck => .stuck
theorem sn_disp {keys : List (Option Expr)} {values : List Expr} {fs : List (F × F)} (h : SndP G M pos keys values fs) (hall : keys.all (·.isSome) = true := by rfl) (hl : keys.length = values.length := by rfl) (h0 : keys ≠ [] := by intro h; cases h)
    (h15 : keys.length ≤ 15 := by decide) : SndE G M .esc (.Dict keys values pos) (bDisp fs) := fun X C gd => (pe_disp (h X C gd) hall hl h0 h15).imp fun σ H Q ⟨w, env, st, s, p⟩ p0 hp => by
  have s1 := s.pushO (o := .dK []) hp
  have l1 : Le w H (w.add p0) (upd H p0 (.dK [])) := (Le.push hp).add hp
  refine pairs_post fs s1 ?_
  unfold bDisp at p
  cases e : lPairs fs env st with
  | stuck => rw [e] at p; exact p.elim
  | exc x st' =>
    rw [e] at p
    exact fun w' H' c dx l' s' xr => p w' H' c dx (l1.trans l') s' xr
  | ok kvs st' =>
    rw [e] at p
    dsimp only at p
    intro w' ps H' l' s' rep
    cases e2 : keysOf (kvs.map (·.1)) with
    | none => rw [e2] at p; exact p.elim
    | some ks =>
      rw [e2] at p
      dsimp only at p
      split at p
      · rename_i hz
        obtain ⟨kv2, q1, q2, q3⟩ := rep.keys e2
        have hp0 : H' p0 = some (.dK []) := l'.fr p0 _ upd_same (s1.al p0 (.inr rfl)).2
        have hlen : kv2.length = kvs.length := by have := congrArg List.length q2; simpa using this.symm
        refine ⟨hp0, kv2, q1, by rw [hlen]; exact hz, ?_⟩
        obtain ⟨k1, k2, k3⟩ := Sim.newCell (o := .dK (mergeK [] kv2)) (c := .dic false (mergeD [] kvs)) s hp (l1.trans l') s' (l'.Sm p0 (.inr rfl)) (fun o' e im => by rw [hp0] at e; cases e; exact im)
        obtain ⟨z1, z2⟩ := merge_rel (kvs := []) (ks := []) q2 q3 rfl .nil
        obtain ⟨l2, s2⟩ := k2 ⟨_, upd_same, z1, Reps.to k1 _ _ z2⟩
        exact p _ (.ref p0) _ l2 s2 (.loc k3)
      · exact p.elim

/-! ### d[k] -/
def dGetO : D → D → Sto → Option (Option D)
  | .loc n, y, st => match st[n]? with
    | some (.dic false kvs) => match keyOf y with
      | some _ => some (lookD kvs y)
      | none => none
    | _ => none
  | _, _, _ => none
def kDGet : D → D → Sto → R D := fun d y st => match dGetO d y st with
  | some (some v) => .ok v st
  | _ => .stuck
theorem dGetO_cases {n : Nat} {y : D} {st : Sto} {o : Option D} (h : dGetO (.loc n) y st = some o) : ∃ kvs k, st[n]? = some (.dic false kvs) ∧ keyOf y = some k ∧ o = lookD kvs y := by
  unfold dGetO at h
  dsimp only at h
  split at h
  · rename_i kvs q
    split at h
    · rename_i k q2
      cases h
      exact ⟨kvs, k, q, q2, rfl⟩
    · cases h
  · cases h
def GetRel (K : PySem.W.Frag) (w : Wd) (H : Hp) (r : Option D) (o : Option V) : Prop := match r with
  | none => o = none
  | some d => ∃ v, o = some v ∧ Rep K w H v d
theorem dget_ok {T : Tb} {B : Bs} {w : Wd} {env : Ev} {st : Sto} {σ : L2.St} {H : Hp} {x y : V} {d dy : D} {r : Option D} (s : Sim T B w env st σ H) (rx : RepR T.K w H x d) (ry : RepR T.K w H y dy) (h : dGetO d dy st = some r) :
    ∃ a o, x = .ref a ∧ DGet H a y o ∧ GetRel T.K w H r o := by
  cases d with
  | loc n =>
    obtain ⟨a, rfl, ea⟩ := rx.loc
    obtain ⟨kvs, k, q1, q2, q3⟩ := dGetO_cases h
    obtain ⟨ks, h1, h2, h3⟩ := s.sto.at_ n _ a q1 ea
    have ey := ry.keyV q2
    have ed := keyOf_some q2
    refine ⟨a, valV ks k, rfl, by rw [ey]; exact DGet.k h1, ?_⟩
    rcases look_rel (enc := keyD) keyEq_keyD k h2 h3 with ⟨z1, z2⟩ | ⟨d', v, z1, z2, z3⟩
    · rw [← ed] at z1
      rw [q3, z1]; exact z2
    · rw [← ed] at z1
      rw [q3, z1]; exact ⟨v, z2, z3⟩
  | _ => cases h
theorem sn_dget (ho : SndE G M .rd o fo) (hi : SndE G M .rd i fk) (hs : NoSl i := by intro _ _; rfl) : SndE G M .esc (.Subscript o i pos) (bBin kDGet fo fk) := by
  intro X C gd
  refine (pe_dget (by have := gd.un; omega) (ho X C gd) (hi X C gd) hs).imp fun σ H Q ⟨w, env, st, s, p⟩ => ⟨w, env, st, s, PostE.bind p fun d st1 w1 v1 H1 l1 s1 r1 p1 => ⟨w1, env, st1, s1, PostE.bind p1 fun d2 st2 w2 v2 H2 l2 s2 r2 p2 => ?_⟩⟩
  have r1' : RepR C.T.K w1 H1 v1 d := r1
  unfold kDGet at p2
  cases e : dGetO d d2 st2 with
  | none => rw [e] at p2; exact p2.elim
  | some r =>
    rw [e] at p2
    cases r with
    | none => exact p2.elim
    | some d' =>
      obtain ⟨a, oo, ex, g, v, rfl, rv⟩ := dget_ok s2 (r1'.le l2 s1.sto) r2 e
      exact ⟨a, v, ex, g, PostE.done (m := .esc) p2 s2 rv⟩
/-! ### d[k] = v -/
def dPutO : D → D → D → Sto → Option Sto
  | .loc n, y, v, st => match st[n]? with
    | some (.dic false kvs) => match keyOf y with
      | some _ => if kvs.length < 1000 then some (st.set n (.dic false (putK' kvs y v))) else none
      | none => none
    | _ => none
  | _, _, _, _ => none
theorem dPutO_cases {n : Nat} {y v : D} {st st' : Sto} (h : dPutO (.loc n) y v st = some st') : ∃ kvs k, st[n]? = some (.dic false kvs) ∧ keyOf y = some k ∧ kvs.length < 1000 ∧ st' = st.set n (.dic false (putK' kvs y v)) := by
  unfold dPutO at h
  dsimp only at h
  split at h
  · rename_i kvs q
    split at h
    · rename_i k q2
      split at h
      · rename_i q3
        cases h
        exact ⟨kvs, k, q, q2, q3, rfl⟩
      · cases h
    · cases h
  · cases h
/-- value, dict, key -/
def sDPut' (fo fk fv : F) : FS := fun env st => (fv env st).out env fun v st1 => (fo env st1).out env fun d st2 => (fk env st2).out env fun y st3 => match dPutO d y v st3 with
  | some st4 => .next env st4
  | none => .stuck
theorem ss_dput (ho : SndE G M .rd o fo) (hi : SndE G M .rd i fk) (hv : SndE G M .esc e fv) (hs : ∀ env, swapsWith e (some (.Subscript o i pos')) pos.line env = pure false := by intro _; rfl) : SndS G M (.Assign [.Subscript o i pos'] e pos) (sDPut' fo fk fv) := fun X C gd => by
  refine (ps_dput (by have := gd.un; omega) (ho X C gd) (hi X C gd) (hv X C gd) (hs _)).imp fun E σ H ⟨w, env, st, s, p⟩ => ⟨w, env, st, s, PostS.bind p fun d st1 w1 v1 H1 l1 s1 r1 p1 => ⟨w1, env, st1, s1, PostS.bind p1 fun oo st2 w2 v2 H2 l2 s2 r2 p2 =>
    ⟨w2, env, st2, s2, PostS.bind p2 fun y st3 w3 v3 H3 l3 s3 r3 p3 => ?_⟩⟩⟩
  cases z : dPutO oo y d st3 with
  | none => rw [z] at p3; exact p3.elim
  | some st4 =>
    rw [z] at p3
    have r2' : RepR C.T.K w2 H2 v2 oo := r2
    have r2b := r2'.le l3 s2.sto
    have rv : Rep C.T.K w3 H3 v1 d := Rep.to ((l2.trans l3).ok2 s1.sto) _ _ r1
    cases oo with
    | loc n =>
      obtain ⟨a, rfl, ea⟩ := r2b.loc
      obtain ⟨kvs, k, q1, q2, q3, q4⟩ := dPutO_cases z
      obtain ⟨ks, h1, h2, h3⟩ := s3.sto.at_ n _ a q1 ea
      have ey := RepR.keyV r3 q2
      have ed := keyOf_some q2
      have hlen : ks.length = kvs.length := by have := congrArg List.length h2; simpa using this.symm
      refine ⟨a, _, rfl, by rw [ey]; exact DPut.k (k := k) (v := v1) h1 (by rw [hlen]; exact small1000 (Nat.le_of_lt q3)), ?_⟩
      have hm : a ∈ w3.r := List.mem_of_getElem? ea
      have kk := (Le.cell (H := H3) (o := .dK (putK ks k v1)) hm).ok2 s3.sto
      obtain ⟨z1, z2⟩ := put_rel (enc := keyD) keyEq_keyD k rv h2 h3
      rw [← ed] at z1 z2
      have hc : CellOk C.T w3 (upd H3 a (.dK (putK ks k v1))) a (.dic false (putK' kvs y d)) := ⟨_, upd_same, z1, Reps.to kk _ _ z2⟩
      subst q4
      exact p3 w3 σ _ (s3.cell ea hc)
    | _ => cases z
end
end NC

namespace NC
open PySem L2 PyProof.Rows PySem.Spec
/-! ### enumerate -/
def enumD : Nat → List D → List D
  | _, [] => []
  | n, d :: r => .tup [.int n, d] :: enumD (n + 1) r
theorem enumD_len : ∀ (n : Nat) (ds : List D), (enumD n ds).length = ds.length
  | _, [] => rfl
  | n, d :: r => by show (enumD (n + 1) r).length + 1 = r.length + 1; rw [enumD_len]
theorem enumD_get : ∀ (n : Nat) (ds : List D) (i : Nat), (enumD n ds)[i]? = ds[i]?.map fun d => D.tup [.int ((n + i : Nat) : Int), d]
  | _, [], _ => by simp [enumD]
  | n, d :: r, 0 => by simp [enumD]
  | n, d :: r, i + 1 => by
    show (enumD (n + 1) r)[i]? = _
    rw [enumD_get (n + 1) r i, List.getElem?_cons_succ, show n + 1 + i = n + (i + 1) by omega]
def iEnumD (f : F) : FL := fun env st => (f env st).bind fun d st1 => match d with
  | .lst ds => if ds.length ≤ sizeLine then .ok (enumD 0 ds) st1 else .stuck
  | _ => .stuck
theorem enum_it {C : Cf} {aa : Addr} {ds : List D} : ItOk C [(.ref aa, .lst ds)] (Ite C.T.K aa) (enumD 0 ds) := by
  intro B' _ _ hp w2 env2 st2 σ2 H2 s2 i
  obtain ⟨_, us, e0, k1, _, k4⟩ := PinOk.lst (s2.pin _ (hp (.ref aa, .lst ds) (by simp)))
  cases e0
  refine ⟨fun d hd => ?_, fun hi => ⟨_, k1.sq, by rw [k4.length, ← enumD_len 0]; exact hi⟩⟩
  rw [enumD_get] at hd
  obtain ⟨d0, hd0, rfl⟩ := Option.map_eq_some_iff.mp hd
  obtain ⟨v, hv, rv⟩ := k4.get hd0
  refine ⟨⟨_, v, k1.sq, hv⟩, fun x H' hy => ?_⟩
  obtain ⟨T, x0, rfl, hT, rfl, hy⟩ := hy
  have := hy _ k1.sq
  rw [hv] at this
  cases this
  have l : Le w2 H2 w2 (upd H2 T (.tup [.int (i : Nat), v])) := Le.push hT
  refine ⟨w2, l, s2.push hT, .tup (SqT.of upd_same) (Reps.to (l.ok2 s2.sto) _ _ (.cons ?_ (.cons rv .nil)))⟩
  rw [Nat.zero_add]
  exact .int _
section
variable {G : Ct} {M : Mo} {m : Md} {X : Cx} {C : Cf} {a b c e o i : Expr} {es : List Expr} {f g h fo fk fv : F} {fl : FL} {pos pos' tpos p1 p2 pe : Pos} {x cx : Str} {elts : List Expr} {kk n : Nat}
theorem si_enum (hg : G.sc.names.lookup ("enumerate" : Str) = some .globalImplicit) (hm : M.mg ("enumerate" : Str) = none) (he : SndE G M .esc e f) (hs : ∀ env, starEach [e] env = [(false, eval e env)] := by intro _; rfl) :
    SndI G M (.Tuple elts kk tpos) (.Call (.Name "enumerate" p1) [e] [] pos) (iEnumD f) := by
  intro X C gd
  refine (pi_enum (by show X.env.scope.names.lookup _ = _; rw [gd.sc]; exact hg) (by rw [gd.mg]; exact hm) (pa_cons (he X C gd) pa_nil (hs _)) (hs _)).imp fun σ H Q ⟨w, env, st, s, p⟩ => ⟨w, env, st, s, ?_⟩
  rw [show X.K = C.T.K from gd.K.trans (by rw [gd.T])]
  unfold iEnumD at p
  cases e1 : f env st with
  | stuck => rw [e1] at p; exact p.elim
  | exc x st' => rw [e1] at p; exact p
  | ok d st' =>
    rw [e1] at p
    intro w' v H' l s' r
    cases d with
    | lst ds =>
      have p' : PostI C env σ w H (if ds.length ≤ sizeLine then .ok (enumD 0 ds) st' else .stuck) Q := p
      split at p'
      · rename_i hz
        have r' : Rep C.T.K w' H' v (.lst ds) := r
        obtain ⟨aa, vs, rfl, h1, _, h4⟩ := RepR.lst (.inl r')
        refine ⟨aa, vs, rfl, h1.sq, p' w' H' _ [(.ref aa, .lst ds)] l s' (fun q hq => ?_) enum_it (by rw [enumD_len]; exact hz)⟩
        have : q = (.ref aa, .lst ds) := by simpa using hq
        subst this; exact .inl r'
      · exact p'.elim
    | _ => exact p.elim

/-! ### isinstance(e, (C1, ..)) in a suite -/
def rIsXT (K : PySem.W.Frag) (D a dd : Addr) : List V → Hp → VK → Prop := fun xs H Q => ∃ (tp : Addr) (cs : List V) (us : List Value) (b : Bool) (fs : List (Str × V)), xs = [.ref a, .ref tp] ∧ H tp = some (.tup cs) ∧ Paired ClsV cs us ∧ H dd = some (.xd fs) ∧ PySem.W.kitAny K (.ref D) us = some b ∧ Q (.bl b) H
theorem call_isXT {X : Cx} {a D dd : Addr} {oe : Obj} {pn : List (Addr × Obj)} (C : ExcC X.K D) (hz : Zc (.ref D) (some dd) oe) (hf : ∃ vs, oe.data = .fields vs) : CallR (L2.Cx.suite X a ((a, oe) :: pn)) (.builtin "isinstance") (rIsXT X.K D a dd) := by
  intro pins s σ H xs us Q I r h
  obtain ⟨tp, cs, ws, b, fs, rfl, hT, k, hx, e, q⟩ := h
  obtain ⟨u1, u2, rfl, r1, r2⟩ := vals2 r
  cases (show u1 = Value.ref a from r1)
  cases (show u2 = Value.ref tp from r2)
  obtain ⟨hget, _⟩ := I.pin (a, oe) (List.mem_append.mpr (.inl List.mem_cons_self))
  obtain ⟨vs, hv⟩ := hf
  obtain ⟨mA, hns, hr⟩ := (show ObjOk X.prog X.w H s.heap dd (.xd fs) from I.hok dd _ hx)
  obtain ⟨od, ho, hl⟩ := lookIn_ns hns
  have J : PySem.W.InstAt s.heap a oe D (some od) := ⟨hget, hz.1, by unfold PySem.W.notCls; rw [hv] <;> rfl, by rw [hz.2]; exact ho⟩
  obtain ⟨_, its, rv, o, h1, h2, n, h3⟩ := (show ObjOk X.prog X.w H s.heap tp (.tup cs) from I.hok tp _ hT)
  have e3 := ClsV.all k rv
  subst e3
  obtain ⟨oc, od', dt, sl⟩ := o
  simp only at h2 h3
  subst h2 h3
  exact PySem.W.kia_tup (PySem.W.nc_kitx C) I.kIn J h1 e (fun z => nomatch z) fun tk => ⟨.bl b, H, I.kept (t' := tk) fun _ _ z => z, rfl, q⟩
def anyMt : List (Str → Option Bool) → Str → Option Bool
  | [], _ => some false
  | m :: r, c => match m c with
    | some true => some true
    | some false => anyMt r c
    | none => none
inductive ClsL (G : Ct) (M : Mo) : List Expr → List (Str → Option Bool) → List Addr → Prop where
  | nil : ClsL G M [] [] []
  | cons {cx : Str} {p : Pos} {mt : Str → Option Bool} {CE : Addr} {es mts CEs} (hg : G.sc.names.lookup cx = some .globalImplicit) (hdb : (cx == ("__debug__" : Str)) = false) (hmg : M.mg cx = some (.ref CE))
      (hc : ∀ c b, mt c = some b → ∀ C0, M.T.cls c = some C0 → ExcC M.T.K C0 ∧ PySem.W.kitOne M.T.K (.ref C0) (.ref CE) = some b) : ClsL G M es mts CEs → ClsL G M (.Name cx p :: es) (mt :: mts) (CE :: CEs)
def tCs : List Addr → TA
  | [] => tNil
  | c :: r => tCons (tC (.ref c)) (tCs r)
theorem cl_pa {es : List Expr} {mts CEs} (h : ClsL G M es mts CEs) {X : Cx} {C : Cf} (gd : Gd G M X C) : PA X es (tCs CEs) := by
  induction h with
  | nil => exact pa_nil
  | cons hg hdb hmg _ _ ih => exact pa_cons (pe_glob (by show X.env.scope.names.lookup _ = _; rw [gd.sc]; exact hg) (by rw [gd.mg]; exact hmg) rfl hdb) ih rfl
theorem cl_run : ∀ {CEs : List Addr} {σ : L2.St} {H : Hp} {Q : List V → Hp → Prop}, Q (CEs.map V.ref) H → tCs CEs σ H Q
  | [], _, _, _, q => q
  | c :: r, σ, H, Q, q => (cl_run (CEs := r) (Q := fun vs H1 => Q (.ref c :: vs) H1) q : tCs r σ H fun vs H1 => Q (.ref c :: vs) H1)
theorem cl_kit {c : Str} {C0 : Addr} (h0 : M.T.cls c = some C0) : ∀ {es : List Expr} {mts CEs}, ClsL G M es mts CEs → ∀ {b : Bool}, anyMt mts c = some b → PySem.W.kitAny M.T.K (.ref C0) (CEs.map Value.ref) = some b := by
  intro es mts CEs h
  induction h with
  | nil => intro b e; exact e
  | @cons cx p mt CE es mts CEs hg hdb hmg hc _ ih =>
    intro b e
    unfold anyMt at e
    split at e
    · rename_i q
      cases e
      exact kitAny_cons (hc c true q C0 h0).2 (fun z => nomatch z) fun _ => rfl
    · rename_i q
      exact kitAny_cons (hc c false q C0 h0).2 (fun _ => ih e) fun z => nomatch z
    · cases e
theorem cl_exc {c : Str} {C0 : Addr} (h0 : M.T.cls c = some C0) {es : List Expr} {mt mts CEs} (h : ClsL G M es (mt :: mts) CEs) {b : Bool} (e : anyMt (mt :: mts) c = some b) : ExcC M.T.K C0 := by
  cases h with
  | cons hg hdb hmg hc _ =>
    unfold anyMt at e
    split at e
    · rename_i q; exact (hc c true q C0 h0).1
    · rename_i q; exact (hc c false q C0 h0).1
    · cases e
theorem cl_vs : ∀ CEs : List Addr, Paired ClsV (CEs.map V.ref) (CEs.map Value.ref)
  | [] => .nil
  | c :: r => .cons (.own c) (cl_vs r)
theorem cl_len {es : List Expr} {mts CEs} (h : ClsL G M es mts CEs) : CEs.length = es.length := by
  induction h with
  | nil => rfl
  | cons _ _ _ _ _ ih => rw [List.length_cons, List.length_cons, ih]
def bXisT (i : Nat) (mts : List (Str → Option Bool)) : F := fun env st => match env[i]? with
  | some (some (.exc, .tup [.str c, .str g, d])) => match anyMt mts c with
    | some b => .ok (.bl b) st
    | none => .stuck
  | _ => .stuck
theorem sn_xist {i : Nat} {mt : Str → Option Bool} {mts : List (Str → Option Bool)} {kt : Nat} (hN : G.N[i]? = some x) (hv : Vis G.sc x) (hg : G.sc.names.lookup ("isinstance" : Str) = some .globalImplicit) (hm : M.mg ("isinstance" : Str) = none)
    (hc : ∃ CEs, ClsL G M es (mt :: mts) CEs) (hlen : es.length ≤ 1000 := by decide)
    (hd : (x == ("__debug__" : Str)) = false := by decide) (hcd : (x == ("__classdict__" : Str)) = false := by decide) : SndE G M m (.Call (.Name "isinstance" p1) [.Name x pe, .Tuple es kt p2] [] pos) (bXisT i (mt :: mts)) := by
  intro X C gd
  obtain ⟨CEs, hcl⟩ := hc
  cases q : C.B.ex with
  | none =>
    refine ⟨fun pins s σ H Q I ⟨w, env, st, s0, p⟩ => ?_⟩
    exfalso
    unfold bXisT at p
    split at p
    · rename_i c g d hi
      obtain ⟨a, c, cls, dd, f, v0, e, e1, _⟩ := s0.slot i _ hi
      rw [q] at e1; cases e1
    · exact p
  | some z =>
    obtain ⟨a, c0, cls, dd⟩ := z
    obtain ⟨X0, oe, pn, hX, hz, hvs, C0, hc0, hcls⟩ := gd.exk a c0 cls dd q
    have gl : ∀ {y : Str}, G.sc.names.lookup y = some .globalImplicit → Gl X y := fun {y} z => by show X.env.scope.names.lookup _ = _; rw [gd.sc]; exact z
    cases qm : anyMt (mt :: mts) c0 with
    | none =>
      refine ⟨fun pins s σ H Q I ⟨w, env, st, s0, p⟩ => ?_⟩
      exfalso
      unfold bXisT at p
      split at p
      · rename_i c g d hi
        obtain ⟨a', c', cls', dd', f', v0, e, e1, e2, e3, _⟩ := s0.slot i _ hi
        rw [q] at e1
        cases e1
        cases e3
        rw [qm] at p
        exact p
      · exact p
    | some b =>
      have hc0' : M.T.cls c0 = some C0 := by rw [← gd.T]; exact hc0
      have g1 := cl_exc hc0' hcl qm
      have g2 := cl_kit hc0' hcl qm
      have pv : PE X (.Name x pe) (tVar i) := pe_var (i := i) (x := x) (by rw [gd.N]; exact hN) (by rw [gd.sc]; exact hv) hd hcd
      have pc : PE X (.Tuple es kt p2) (tTup (tCs CEs)) := pe_tup (cl_pa hcl gd)
      have key : CallR X (.builtin "isinstance") (rIsXT X.K C0 a dd) := by
        have hKX : X.K = M.T.K := gd.K
        subst hX
        exact call_isXT (X := X0) (by rw [show X0.K = M.T.K from hKX]; exact g1) (by rw [← hcls]; exact hz) hvs
      refine (pe_callB key (gl hg) (by rw [gd.mg]; exact hm) (by decide +kernel) (pa_cons pv (pa_cons pc pa_nil) (by rfl)) (by decide) (by decide) (by rfl) (by rfl)).imp fun σ H Q ⟨w, env, st, s0, p⟩ => ?_
      unfold bXisT at p
      split at p
      · rename_i c g d hi
        obtain ⟨a', c', cls', dd', f', v0, e, e1, e2, e3, e4, e5, e6, e7⟩ := s0.slot i _ hi
        rw [q] at e1
        cases e1
        cases e3
        rw [qm] at p
        refine ⟨.ref a, join_some e2, cl_run ⟨Nat.le_of_lt (small1000 (by rw [List.length_map, cl_len hcl]; exact hlen)), fun pp hp => ?_⟩⟩
        refine ⟨pp, _, _, b, _, rfl, upd_same, cl_vs CEs, by rw [upd_ne (ne_of_none e4 hp)]; exact e4, by rw [gd.K]; exact g2, ?_⟩
        exact p w (.bl b) _ (Le.push hp) (s0.push hp) (RepM.bl _)
      · exact p.elim
theorem cl_cons {mt : Str → Option Bool} {mts : List (Str → Option Bool)} (hc : ∃ CE, M.mg cx = some (.ref CE) ∧ ∀ c b, mt c = some b → ∀ C0, M.T.cls c = some C0 → ExcC M.T.K C0 ∧ PySem.W.kitOne M.T.K (.ref C0) (.ref CE) = some b)
    (h : ∃ CEs, ClsL G M es mts CEs) (h2 : glX G cx = true := by decide +kernel) : ∃ CEs, ClsL G M (.Name cx p2 :: es) (mt :: mts) CEs := by
  obtain ⟨CE, h1, hh⟩ := hc
  obtain ⟨CEs, k⟩ := h
  exact ⟨CE :: CEs, .cons (glX_ok h2).1 (glX_ok h2).2.1 h1 hh k⟩
theorem cl_nil : ∃ CEs, ClsL G M [] [] CEs := ⟨[], .nil⟩
theorem xist {mt : Str → Option Bool} {mts : List (Str → Option Bool)} {kt : Nat} (hb : Bn M) (i : Nat) (hc : ∃ CEs, ClsL G M es (mt :: mts) CEs) (h : varX G i x = true := by decide +kernel) (h1 : glX G ("isinstance" : Str) = true := by decide +kernel) (hlen : es.length ≤ 1000 := by decide +kernel) :
    SndE G M m (.Call (.Name "isinstance" p1) [.Name x pe, .Tuple es kt p2] [] pos) (bXisT i (mt :: mts)) :=
  let h := varX_ok h; sn_xist h.1 h.2.1 (glX_ok h1).1 (hb _ (by decide +kernel)) hc hlen h.2.2.1 h.2.2.2
theorem enu (hb : Bn M) (he : SndE G M .esc e f) (h : glX G ("enumerate" : Str) = true := by decide +kernel) (hs : ∀ env, starEach [e] env = [(false, eval e env)] := by intro _; rfl) : SndI G M (.Tuple elts kk tpos) (.Call (.Name "enumerate" p1) [e] [] pos) (iEnumD f) :=
  si_enum (glX_ok h).1 (hb _ (by decide +kernel)) he hs
end

section
variable {P : Program} {w : World} {T : Tb} {mg : Str → Option Value} {base : Heap} {Δ : Str → Option Df} {n : Nat} {x : Str} {st : Stmt} {N ps : List Str} {sh : Calls → FS}
theorem callOkH_zero (F : DefAt T.K mg x st)
    (hb : ∀ (kV doc pm : Value) (an : Option Addr) (cdv ct : Value) (us : List Value), us.length = ps.length → bindArgs (PySem.W.fnOf x x (defArgs st) (defBody st) (defScope st) .none kV doc pm an cdv ct) ⟨us, []⟩ = pure (ps.zip us)) : CallOk { MoN P w T mg base Δ 0 with hot := true } x := by
  obtain ⟨fa, fd, h1, h2⟩ := F.ex
  exact ⟨fa, fd, ps, h1, h2.kp, h2.binds hb, (fun h => Bool.noConfusion h), fun _ => fn_okH0 fun _ _ => rfl⟩
theorem callOkH_succ (F : DefAt T.K mg x st) (S : FnScope N ps (defScope st))
    (hb : ∀ (kV doc pm : Value) (an : Option Addr) (cdv ct : Value) (us : List Value), us.length = ps.length → bindArgs (PySem.W.fnOf x x (defArgs st) (defBody st) (defScope st) .none kV doc pm an cdv ct) ⟨us, []⟩ = pure (ps.zip us))
    (snd : SndB ⟨N, defScope st, none⟩ { MoN P w T mg base Δ n with hot := true } (defBody st) (sh (interp Δ n))) (hΔ : Δ x = some (dfD ps.length N.length sh)) : CallOk { MoN P w T mg base Δ (n + 1) with hot := true } x := by
  obtain ⟨fa, fd, h1, h2⟩ := F.ex
  exact ⟨fa, fd, ps, h1, h2.kp, h2.binds hb, (fun h => Bool.noConfusion h), fun _ => fn_okH h2 S snd fun as s => interp_eq hΔ as s⟩
end
end NC

/-! ### readings of houses, comprehensions, plain data, in -/
namespace NC
open PySem L2
theorem hd_ix0 (h : Str × Nat) (st : Sto) : kIx (hdD h) (.int 0) st = .ok (.str h.1) st := kIx_tup_of atI_0
theorem hd_ix1 (h : Str × Nat) (st : Sto) : kIx (hdD h) (.int 1) st = .ok (.int (h.2 : Nat)) st := kIx_tup_of atI_1
theorem vr_ix0 (h : Str × Nat × Nat) (st : Sto) : kIx (vrD h) (.int 0) st = .ok (.str h.1) st := kIx_tup_of atI_0
theorem vr_ix1 (h : Str × Nat × Nat) (st : Sto) : kIx (vrD h) (.int 1) st = .ok (.int (h.2.1 : Nat)) st := kIx_tup_of atI_1
theorem vr_ix2 (h : Str × Nat × Nat) (st : Sto) : kIx (vrD h) (.int 2) st = .ok (.int (h.2.2 : Nat)) st := kIx_tup_of atI_2
theorem co_ix0 (co : Co) (st : Sto) : kIx co.d (.int 0) st = .ok (.str co.n) st := kIx_tup_of atI_0
theorem co_ix1 (co : Co) (st : Sto) : kIx co.d (.int 1) st = .ok (.tup (co.vs.map vrD)) st := kIx_tup_of atI_1
theorem co_ix2 (co : Co) (st : Sto) : kIx co.d (.int 2) st = .ok (.tup (co.hs.map hdD)) st := kIx_tup_of atI_2
theorem co_ix3 (co : Co) (st : Sto) : kIx co.d (.int 3) st = .ok (.tup (co.ps.map Pr.d)) st := kIx_tup_of atI_3
theorem pr_ix0 (p : Pr) (st : Sto) : kIx p.d (.int 0) st = .ok (.str p.n) st := kIx_tup_of atI_0
theorem pr_ix1 (p : Pr) (st : Sto) : kIx p.d (.int 1) st = .ok (.int (p.z : Nat)) st := kIx_tup_of atI_1
theorem pr_ix2 (p : Pr) (st : Sto) : kIx p.d (.int 2) st = .ok (.bl p.sh) st := kIx_tup_of atI_2
theorem pr_ix3 (p : Pr) (st : Sto) : kIx p.d (.int 3) st = .ok (.tup p.b.ds) st := kIx_tup_of atI_3
theorem ho_ix0 (h : Ho) (st : Sto) : kIx h.d (.int 0) st = .ok (.lst (h.as.map hdD)) st := kIx_tup_of atI_0
theorem ho_ix1 (h : Ho) (st : Sto) : kIx h.d (.int 1) st = .ok (.lst (h.cs.map Co.d)) st := kIx_tup_of atI_1
/-- a comprehension over listed things -/
theorem compL_ex2 {α : Type} (h : α → D) {t : Tg} {c : FB} {f : F} {env : Ev} {st : Sto} (p : α → Bool) (g : α → D) : ∀ xs : List α, (∀ x ∈ xs, ∃ e1, t (h x) env = some e1 ∧ c e1 st = .ok (p x) st ∧ (p x = true → f e1 st = .ok (g x) st)) → compL t c f (xs.map h) env st = .ok ((xs.filter p).map g) st
  | [], _ => rfl
  | x :: xs, ht => by
    obtain ⟨env1, h1, h2, h3⟩ := ht x (List.mem_cons_self ..)
    have ih := compL_ex2 h p g xs fun y hy => ht y (List.mem_cons_of_mem _ hy)
    rw [List.map_cons]
    unfold compL
    rw [h1]
    dsimp only
    rw [h2]
    cases hp : p x with
    | true =>
      rw [List.filter_cons_of_pos hp, List.map_cons]
      show (if true = true then (f env1 st).nox.bind _ else compL t c f (xs.map h) env st) = _
      rw [if_pos rfl, h3 hp]
      show (compL t c f (xs.map h) env st).bind _ = _
      rw [ih]
      rfl
    | false =>
      rw [List.filter_cons_of_neg (by simp [hp])]
      exact ih
theorem comp_ex {α : Type} (h : α → D) {own : List Nat} {fi : FL} {t : Tg} {c : FB} {f : F} {env : Ev} {st : Sto} (xs : List α) (p : α → Bool) (g : α → D) (he : fi env st = .ok (xs.map h) st)
    (ht : ∀ x ∈ xs, ∃ e1, t (h x) (wipeE env own) = some e1 ∧ c e1 st = .ok (p x) st ∧ (p x = true → f e1 st = .ok (g x) st)) : bComp own fi t c f env st = .ok (.lst ((xs.filter p).map g)) st :=
  bComp_of he (compL_ex2 h p g xs ht)
theorem comp_all {α : Type} (h : α → D) {own : List Nat} {fi : FL} {t : Tg} {f : F} {env : Ev} {st : Sto} (xs : List α) (g : α → D) (he : fi env st = .ok (xs.map h) st)
    (ht : ∀ x ∈ xs, ∃ e1, t (h x) (wipeE env own) = some e1 ∧ f e1 st = .ok (g x) st) : bComp own fi t cYes f env st = .ok (.lst (xs.map g)) st := by
  have := comp_ex h (own := own) (fi := fi) (t := t) (c := cYes) (f := f) (env := env) (st := st) xs (fun _ => true) g he fun x hx => by
    obtain ⟨e1, h1, h2⟩ := ht x hx
    exact ⟨e1, h1, rfl, fun _ => h2⟩
  rwa [List.filter_eq_self.mpr fun _ _ => rfl] at this
/-- plain data, at most n deep -/
def gdP (n : Nat) (d : D) : Prop := d.plain = true ∧ d.dep ≤ n
theorem gdP.mono {n k : Nat} {d : D} (h : gdP n d) (hk : n ≤ k) : gdP k d := ⟨h.1, Nat.le_trans h.2 hk⟩
theorem gp_tup {n : Nat} {ds : List D} (h : ∀ d ∈ ds, gdP n d) : gdP (n + 1) (.tup ds) :=
  ⟨by rw [D.plain]; exact plains_all fun d hd => (h d hd).1, by rw [D.dep]; exact Nat.succ_le_succ (deps_all fun d hd => (h d hd).2)⟩
theorem gp_lst {n : Nat} {ds : List D} (h : ∀ d ∈ ds, gdP n d) : gdP (n + 1) (.lst ds) :=
  ⟨by rw [D.plain]; exact plains_all fun d hd => (h d hd).1, by rw [D.dep]; exact Nat.succ_le_succ (deps_all fun d hd => (h d hd).2)⟩
theorem gp_str {n : Nat} {w : Str} (h : PyData.strOk w = true) : gdP n (.str w) := ⟨h, Nat.zero_le _⟩
theorem gp_int {n : Nat} {i : Int} : gdP n (.int i) := ⟨rfl, Nat.zero_le _⟩
theorem gp_bl {n : Nat} {i : Bool} : gdP n (.bl i) := ⟨rfl, Nat.zero_le _⟩
theorem gp_non {n : Nat} : gdP n .non := ⟨rfl, Nat.zero_le _⟩
theorem gp1 {n : Nat} {a : D} (h : gdP n a) : gdP (n + 1) (.tup [a]) := gp_tup fun d hd => by
  rw [List.mem_singleton.mp hd]; exact h
theorem gp2 {n : Nat} {a b : D} (h1 : gdP n a) (h2 : gdP n b) : gdP (n + 1) (.tup [a, b]) := gp_tup fun d hd => by
  simp only [List.mem_cons, List.not_mem_nil, or_false] at hd
  rcases hd with rfl | rfl <;> assumption
theorem gp3 {n : Nat} {a b c : D} (h1 : gdP n a) (h2 : gdP n b) (h3 : gdP n c) : gdP (n + 1) (.tup [a, b, c]) := gp_tup fun d hd => by
  simp only [List.mem_cons, List.not_mem_nil, or_false] at hd
  rcases hd with rfl | rfl | rfl <;> assumption
theorem gp4 {n : Nat} {a b c e : D} (h1 : gdP n a) (h2 : gdP n b) (h3 : gdP n c) (h4 : gdP n e) : gdP (n + 1) (.tup [a, b, c, e]) := gp_tup fun d hd => by
  simp only [List.mem_cons, List.not_mem_nil, or_false] at hd
  rcases hd with rfl | rfl | rfl | rfl <;> assumption
theorem gp_map {α : Type} {n : Nat} {f : α → D} {xs : List α} (h : ∀ x ∈ xs, gdP n (f x)) : ∀ d ∈ xs.map f, gdP n d := fun d hd => by
  obtain ⟨x, hx, rfl⟩ := List.mem_map.mp hd
  exact h x hx
theorem kEq_gd {n : Nat} {d e : D} (h : gdP n d) (g : gdP n e) (hn : n ≤ 64 := by decide) (st : Sto) : kEq d e st = .ok (.bl (d.same e)) st := kEq_data h.1 (Nat.le_trans h.2 hn) g.1 (Nat.le_trans g.2 hn)
theorem kNe_gd {n : Nat} {d e : D} (h : gdP n d) (g : gdP n e) (hn : n ≤ 64 := by decide) (st : Sto) : kNe d e st = .ok (.bl (!d.same e)) st := kNe_data h.1 (Nat.le_trans h.2 hn) g.1 (Nat.le_trans g.2 hn)
theorem kEq_self {n : Nat} {d : D} (h : gdP n d) (hn : n ≤ 64 := by decide) (st : Sto) : kEq d d st = .ok (.bl true) st := by rw [kEq_gd h h hn, same_refl d h.1]
theorem kNe_self {n : Nat} {d : D} (h : gdP n d) (hn : n ≤ 64 := by decide) (st : Sto) : kNe d d st = .ok (.bl false) st := by rw [kNe_gd h h hn, same_refl d h.1]; rfl
/-- a tuple in a list of data -/
theorem kIn_gd {n : Nat} {ds es : List D} (h : gdP n (.tup ds)) (g : ∀ e ∈ es, gdP n e) (hn : n < 64 := by decide) (st : Sto) : kIn (.tup ds) (.lst es) st = .ok (.bl (es.any fun z => z.same (.tup ds))) st := by
  have g2 := gp_lst g
  have s1 := shaped_of h.1 (Nat.le_trans h.2 (Nat.le_of_lt hn))
  have s2 := shaped_of g2.1 (Nat.le_trans g2.2 hn)
  unfold kIn inD
  dsimp only
  rw [if_neg (fun z => by simp [D.atom] at z), if_pos ⟨s1, s2⟩]
  rfl
theorem in_inj {α : Type} [DecidableEq α] {f : α → D} (hf : ∀ a b, (f a).same (f b) = decide (a = b)) (x : α) (xs : List α) : ((xs.map f).any fun z => z.same (f x)) = decide (x ∈ xs) := by
  rw [List.any_map]
  induction xs with
  | nil => simp
  | cons y ys ih =>
    rw [List.any_cons, ih]
    show ((f y).same (f x) || _) = _
    rw [hf]
    by_cases h : y = x
    · subst h; simp
    · have h2 : ¬ x = y := fun z => h z.symm
      simp [h, h2]
theorem same_tup (ds es : List D) : (D.tup ds).same (.tup es) = PyData.eqvAll (D.pys ds) (D.pys es) := by rw [D.same, D.py, D.py, PyData.eqv]
theorem same_str (a b : Str) : (D.str a).same (.str b) = decide (a = b) := by simp [D.same, D.py, PyData.eqv, BEq.beq]
theorem same_int (a b : Int) : (D.int a).same (.int b) = decide (a = b) := by simp [D.same, D.py, PyData.eqv, BEq.beq]
theorem same_bl (a b : Bool) : (D.bl a).same (.bl b) = decide (a = b) := by cases a <;> cases b <;> simp [D.same, D.py, PyData.eqv]
theorem sames_cons (d e : D) (ds es : List D) : PyData.eqvAll (D.pys (d :: ds)) (D.pys (e :: es)) = (d.same e && PyData.eqvAll (D.pys ds) (D.pys es)) := by rw [D.pys, D.pys, PyData.eqvAll]; rfl
theorem sames_nil : PyData.eqvAll (D.pys []) (D.pys []) = true := rfl
theorem sames_l (d : D) (ds : List D) : PyData.eqvAll (D.pys (d :: ds)) (D.pys []) = false := by rw [D.pys, D.pys]; rfl
theorem sames_r (d : D) (ds : List D) : PyData.eqvAll (D.pys []) (D.pys (d :: ds)) = false := by rw [D.pys, D.pys]; rfl
/-! the dict's table -/
theorem kDGet_of {st : Sto} {n : Nat} {kvs : List (D × D)} {x : Str} {v : D} (h : st[n]? = some (.dic false kvs)) (h2 : lookD kvs (.str x) = some v) : kDGet (.loc n) (.str x) st = .ok v st := by
  unfold kDGet dGetO
  simp only [h, keyOf, h2]
theorem dPutO_of {st : Sto} {n : Nat} {kvs : List (D × D)} {y v : D} {k : Key} (h : st[n]? = some (.dic false kvs)) (h2 : keyOf y = some k) (h3 : kvs.length < 1000) : dPutO (.loc n) y v st = some (st.set n (.dic false (putK' kvs y v))) := by
  unfold dPutO
  simp only [h, h2, if_pos h3]
theorem sDPut_eq (fo fk fv : F) (env : Ev) (st : Sto) : sDPut' fo fk fv env st = (fv env st).out env fun v st1 => (fo env st1).out env fun d st2 => (fk env st2).out env fun y st3 => stO env (dPutO d y v st3) := rfl
/-- a table of texts -/
def enS (p : Str × Str) : D × D := (.str p.1, .str p.2)
theorem hasD_str (x : Str) : ∀ acc : List (Str × Str), hasD (acc.map enS) (.str x) = decide (x ∈ acc.map (·.1))
  | [] => by simp [hasD]
  | p :: r => by
    have ih := hasD_str x r
    unfold hasD at ih ⊢
    rw [List.map_cons, List.any_cons, ih, List.map_cons]
    show (decide (p.1 = x) || _) = _
    by_cases h : p.1 = x
    · subst h; simp
    · have h2 : ¬ x = p.1 := fun z => h z.symm
      simp [h, h2]
theorem putK_new {x y : Str} {acc : List (Str × Str)} (h : x ∉ acc.map (·.1)) : putK' (acc.map enS) (.str x) (.str y) = (acc ++ [(x, y)]).map enS := by
  unfold putK'
  rw [hasD_str, if_neg (by simpa using h), List.map_append]; rfl
theorem mergeD_new : ∀ (more acc : List (Str × Str)), ((acc ++ more).map (·.1)).Nodup → mergeD (acc.map enS) (more.map enS) = (acc ++ more).map enS
  | [], acc, _ => by simp [mergeD]
  | p :: r, acc, h => by
    have hn : p.1 ∉ acc.map (·.1) := fun z => by
      rw [List.map_append, List.nodup_append] at h
      exact h.2.2 _ z _ (by simp) rfl
    show mergeD (putK' (acc.map enS) (.str p.1) (.str p.2)) (r.map enS) = _
    rw [putK_new hn, mergeD_new r (acc ++ [(p.1, p.2)]) (by rw [List.append_assoc]; exact h), List.append_assoc]; rfl
theorem lookS_mem {x y : Str} : ∀ {kvs : List (Str × Str)}, kvs.lookup x = some y → lookD (kvs.map enS) (.str x) = some (.str y)
  | [], h => by simp at h
  | p :: r, h => by
    rw [List.map_cons]
    unfold lookD
    by_cases e : p.1 = x
    · rw [if_pos (by show decide (p.1 = x) = true; simp [e])]
      obtain ⟨a, b⟩ := p
      simp only at e
      subst e
      simp [List.lookup] at h
      subst h; rfl
    · rw [if_neg (by show ¬ decide (p.1 = x) = true; simp [e])]
      obtain ⟨a, b⟩ := p
      have hb : (x == a) = false := by simpa using fun z => e z.symm
      simp only [List.lookup, hb] at h
      exact lookS_mem h
/-- further entries, one by one -/
theorem loop_put {j k : Nat} {body : FS} {P : Ev → Prop} (c : Nat) (hb : ∀ env st x y, P env → ∃ e1, tgTup (tgCons (tgName j) (tgCons (tgName k) tgNil)) (.tup [.str x, .str y]) env = some e1 ∧ body e1 st = stO e1 (dPutO (.loc c) (.str x) (.str y) st) ∧ P e1) :
    ∀ (more acc : List (Str × Str)) (st : Sto) (env : Ev), st.length = c → ((acc ++ more).map (·.1)).Nodup → (acc ++ more).length < 1000 → P env →
      ∃ e1, forL (tgTup (tgCons (tgName j) (tgCons (tgName k) tgNil))) body (more.map pairD) env (st ++ [.dic false (acc.map enS)]) = .next e1 (st ++ [.dic false ((acc ++ more).map enS)]) ∧ P e1
  | [], acc, st, env, hc, hn, hl, hp => ⟨env, by rw [List.append_nil]; rfl, hp⟩
  | p :: r, acc, st, env, hc, hn, hl, hp => by
    obtain ⟨e1, h1, h2, h3⟩ := hb env (st ++ [.dic false (acc.map enS)]) p.1 p.2 hp
    have hn1 : p.1 ∉ acc.map (·.1) := fun z => by
      have h := hn
      rw [List.map_append, List.nodup_append] at h
      exact h.2.2 _ z _ (by simp) rfl
    obtain ⟨e2, g1, g2⟩ := loop_put c hb r (acc ++ [(p.1, p.2)]) st e1 hc (by rw [List.append_assoc]; exact hn) (by rw [List.append_assoc]; exact hl) h3
    refine ⟨e2, ?_, g2⟩
    have hget : (st ++ [Cell.dic false (acc.map enS)])[c]? = some (.dic false (acc.map enS)) := by subst hc; exact get_mid st [] _
    have hset : ∀ z, (st ++ [Cell.dic false (acc.map enS)]).set c z = st ++ [z] := fun z => by subst hc; exact set_mid st [] _ z
    rw [List.map_cons, forL_cons h1, h2, dPutO_of (k := .inr p.1) hget rfl (by rw [List.length_map]; rw [List.length_append] at hl; omega), hset, putK_new hn1, stO_some]
    show forL _ body (r.map pairD) e1 _ = _
    rw [g1, List.append_assoc]; rfl
end NC

namespace K40
open PySem L2 NC
abbrev PWx := PySem.Challenge.pw_nestcall_k40_guards_of_a_house
def topS (i : Nat) : Stmt := PWx.main.body.getD i (.Pass ⟨0, 0, 0, 0⟩)
def mS (i j : Nat) : Stmt := inClass (topS i) j
def g_LOCK : D := D.str "lock"
def known : List Str := ["guarded", "fits", "changed", "fenced", "_law_cell", "_law_is_integer", "_law_row", "_law_expression", "_law_statement", "_law_body", "_law_contract", "_law_house", "_law_guard", "_law_fits", "_law_fenced", "_law_guarded", "_law_made", "_law_called", "_law_called_value", "_law_called_block", "_law_guarding", "law"]
def fc_assets : List Str := ["House"]
def fc_contracts : List Str := ["House"]
def mt_HouseError : Str → Option Bool := fun c => ([("BadText", true), ("BadAct", true), ("TooLarge", true), ("BadGuard", true), ("BadPaper", true), ("BadHouse", true)] : List (Str × Bool)).lookup c
def mx_BadAct : Str → Option Bool := fun c => ([("BadText", false), ("BadAct", true), ("TooLarge", false), ("BadGuard", false), ("BadPaper", false), ("BadHouse", false)] : List (Str × Bool)).lookup c
def mx_BadHouse : Str → Option Bool := fun c => ([("BadText", false), ("BadAct", false), ("TooLarge", false), ("BadGuard", false), ("BadPaper", false), ("BadHouse", true)] : List (Str × Bool)).lookup c
def mx_BadPaper : Str → Option Bool := fun c => ([("BadText", false), ("BadAct", false), ("TooLarge", false), ("BadGuard", false), ("BadPaper", true), ("BadHouse", false)] : List (Str × Bool)).lookup c
def mx_BadText : Str → Option Bool := fun c => ([("BadText", true), ("BadAct", false), ("TooLarge", false), ("BadGuard", false), ("BadPaper", false), ("BadHouse", false)] : List (Str × Bool)).lookup c
def mx_TooLarge : Str → Option Bool := fun c => ([("BadText", false), ("BadAct", false), ("TooLarge", true), ("BadGuard", false), ("BadPaper", false), ("BadHouse", false)] : List (Str × Bool)).lookup c
def mx_BadGuard : Str → Option Bool := fun c => ([("BadText", false), ("BadAct", false), ("TooLarge", false), ("BadGuard", true), ("BadPaper", false), ("BadHouse", false)] : List (Str × Bool)).lookup c
def mi_House : Str → Option Bool := fun c => ([("House", true)] : List (Str × Bool)).lookup c
def xc_at : List Str := ["BadText", "BadAct", "BadGuard", "BadPaper"]
structure StcH (M : Mo) : Prop where
  bn : Bn M
  g_LOCK : GlobOk M "LOCK" g_LOCK
  z_BadAct : ∃ CE, M.mg "BadAct" = some (.ref CE) ∧ ∀ c b, mx_BadAct c = some b → ∀ C0, M.T.cls c = some C0 → ExcC M.T.K C0 ∧ PySem.W.kitOne M.T.K (.ref C0) (.ref CE) = some b
  z_BadHouse : ∃ CE, M.mg "BadHouse" = some (.ref CE) ∧ ∀ c b, mx_BadHouse c = some b → ∀ C0, M.T.cls c = some C0 → ExcC M.T.K C0 ∧ PySem.W.kitOne M.T.K (.ref C0) (.ref CE) = some b
  z_BadPaper : ∃ CE, M.mg "BadPaper" = some (.ref CE) ∧ ∀ c b, mx_BadPaper c = some b → ∀ C0, M.T.cls c = some C0 → ExcC M.T.K C0 ∧ PySem.W.kitOne M.T.K (.ref C0) (.ref CE) = some b
  z_BadText : ∃ CE, M.mg "BadText" = some (.ref CE) ∧ ∀ c b, mx_BadText c = some b → ∀ C0, M.T.cls c = some C0 → ExcC M.T.K C0 ∧ PySem.W.kitOne M.T.K (.ref C0) (.ref CE) = some b
  z_TooLarge : ∃ CE, M.mg "TooLarge" = some (.ref CE) ∧ ∀ c b, mx_TooLarge c = some b → ∀ C0, M.T.cls c = some C0 → ExcC M.T.K C0 ∧ PySem.W.kitOne M.T.K (.ref C0) (.ref CE) = some b
  z_BadGuard : ∃ CE, M.mg "BadGuard" = some (.ref CE) ∧ ∀ c b, mx_BadGuard c = some b → ∀ C0, M.T.cls c = some C0 → ExcC M.T.K C0 ∧ PySem.W.kitOne M.T.K (.ref C0) (.ref CE) = some b
  w_at : ∀ c, xc_at.contains c = true → ∀ C0, M.T.cls c = some C0 → XfC M.T.K C0 ∧ PySem.W.findIn M.T.K (.ref C0) "at" = some none
def knownH : List Str := ["_law_is_integer"]
structure RtH (M : Mo) : Prop where
  fn : ∀ x : Str, knownH.contains x = true → CallOk M x
structure Stc (M : Mo) : Prop where
  bn : Bn M
  cold : M.hot = false
  g_LOCK : GlobOk M "LOCK" g_LOCK
  f_assets : ∀ c, fc_assets.contains c = true → ∀ C, M.T.cls c = some C → NoAttr M.T.K C "assets"
  f_contracts : ∀ c, fc_contracts.contains c = true → ∀ C, M.T.cls c = some C → NoAttr M.T.K C "contracts"
  y_HouseError : ∃ CE, M.mg "HouseError" = some (.ref CE) ∧ ∀ c b, mt_HouseError c = some b → ∀ C0, M.T.cls c = some C0 → PySem.W.exmOne M.T.K (.ref C0) (.ref CE) = some b
  i_House : ∃ CE, M.mg "House" = some (.ref CE) ∧ ∀ c b, mi_House c = some b → ∀ C0, M.T.cls c = some C0 → InsC M.T.K C0 ∧ PySem.W.kitOne M.T.K (.ref C0) (.ref CE) = some b
  hotS : StcH { M with hot := true }
structure Rt (M : Mo) : Prop where
  fn : ∀ x : Str, known.contains x = true → CallOk M x
  hotR : RtH { M with hot := true }
  x_BadText : RaiseOk M "BadText" "at"
  x_BadAct : RaiseOk M "BadAct" "at"
  x_TooLarge : RaiseOk M "TooLarge" "what"
  x_BadGuard : RaiseOk M "BadGuard" "at"
  x_BadPaper : RaiseOk M "BadPaper" "at"
  x_BadHouse : RaiseOk M "BadHouse" "what"
  k_House : MakeOk M "House" []
  m_House___init__ : MethOk M "House" "__init__" "House.__init__"
  m_House___eq__ : MethOk M "House" "__eq__" "House.__eq__"
def tab___eq__ : List (Str × Str) := [("House", "House.__eq__")]
theorem mt___eq__ {M : Mo} (rt : Rt M) : ∀ c y, tab___eq__.lookup c = some y → MethOk M c "__eq__" y := (tab_cons rt.m_House___eq__ tab_nil)
/-! House.__init__ -/
abbrev N_House___init__ : List Str := ["self", "assets", "contracts"]
theorem sc_House___init__ : FnScope N_House___init__ ["self", "assets", "contracts"] (defScope (mS 9 0)) := ⟨rfl, rfl, rfl, by decide +kernel, rfl, by decide +kernel, by decide +kernel⟩
def sh_House___init__ (cl : Calls) : FS :=
  (sCons (sFldD fc_assets "assets" (bVarR 0) (bCall kTuple (lCons (bVarR 1) lNil)))
  (sFldD fc_contracts "contracts" (bVarR 0) (bCall kTuple (lCons (bVarR 2) lNil))))
theorem snd_House___init__ {M : Mo} (h : Stc M) (rt : Rt M) : SndB ⟨N_House___init__, defScope (mS 9 0), none⟩ M (defBody (mS 9 0)) (sh_House___init__ M.cl) :=
  have hb := h.bn
  have hm := h.cold
  (sb_cons (ss_fld (vr 0) (cT hb bu_tuple (sl_rd (vr 1) sl_nil)) h.f_assets)
  (sb_one (ss_fld (vr 0) (cT hb bu_tuple (sl_rd (vr 2) sl_nil)) h.f_contracts)))
/-! House.__eq__ -/
abbrev N_House___eq__ : List Str := ["self", "other"]
theorem sc_House___eq__ : FnScope N_House___eq__ ["self", "other"] (defScope (mS 9 1)) := ⟨rfl, rfl, rfl, by decide +kernel, rfl, by decide +kernel, by decide +kernel⟩
def sh_House___eq__ (cl : Calls) : FS :=
  (sRet (bAndV (bIsC mi_House (bVarR 1)) (bAndV (bBin kEq (bAttr "assets" (bVarR 0)) (bAttr "assets" (bVarR 1))) (bBin kEq (bAttr "contracts" (bVarR 0)) (bAttr "contracts" (bVarR 1))))))
theorem snd_House___eq__ {M : Mo} (h : Stc M) (rt : Rt M) : SndB ⟨N_House___eq__, defScope (mS 9 1), none⟩ M (defBody (mS 9 1)) (sh_House___eq__ M.cl) :=
  have hb := h.bn
  have hm := h.cold
  (sb_one (ss_ret (sn_and (isc hb h.i_House (vr 1)) (sn_and (sn_cmp (SndE.read (sn_attr (vr 0))) (SndE.read (sn_attr (vr 1))) os_eq (nomark _)) (sn_one (sn_cmp (SndE.read (sn_attr (vr 0))) (SndE.read (sn_attr (vr 1))) os_eq (nomark _)))))))
/-! guarded -/
abbrev N_guarded : List Str := ["house", "guards", "at", "guard", "contracts", "contract", "own"]
theorem sc_guarded : FnScope N_guarded ["house", "guards"] (defScope (topS 12)) := ⟨rfl, rfl, rfl, by decide +kernel, rfl, by decide +kernel, by decide +kernel⟩
def lb_guarded_0 (cl : Calls) : FS :=
  (sIf (bOrT (bNotT (bTru (bDef cl "fits" [.rd, .rd] (lCons (bVarR 0) (lCons (bVarR 3) lNil))))) (bTst (bBin kIn (bVarR 3) (bSl (bVarR 1) oNone (oSome (bVarR 2))))))
  (sRaise cl "BadGuard" (bVar 2))
  sNil)
def lb_guarded_1 (cl : Calls) : FS :=
  (sCons (sSet 6 (bComp [3] (iVarC 1) (tgName 3) (bTst (bBin kEq (bBin kIx (bVarR 3) (bC (D.int 1))) (bBin kIx (bVarR 5) (bC (D.int 0))))) (bVar 3)))
  (sApp 4 (bDef cl "changed" [.esc, .rd] (lCons (bVar 5) (lCons (bVarR 6) lNil)))))
def sh_guarded (cl : Calls) : FS :=
  (sCons (sFor (iEnumD (bVar 1)) (tgTup (tgCons (tgName 2) (tgCons (tgName 3) tgNil)))
  (lb_guarded_0 cl))
  (sCons (sSet 4 (bLst lNil))
  (sCons (sFor (iSeq (bAttr "contracts" (bVarR 0))) (tgName 5)
  (lb_guarded_1 cl))
  (sRet (bMk cl "House" [.rd, .rd] (lCons (bAttr "assets" (bVarR 0)) (lCons (bVarR 4) lNil)) [])))))
theorem snd_guarded {M : Mo} (h : Stc M) (rt : Rt M) : SndB ⟨N_guarded, defScope (topS 12), none⟩ M (defBody (topS 12)) (sh_guarded M.cl) :=
  have hb := h.bn
  have hm := h.cold
  (sb_cons (ss_for hm (enu hb (v1 1)) (sg_tup hm (sgs_cons (tn 2) (sgs_cons (tn 3) sgs_nil)) (tgCons_len (tgCons_len tgNil_len)))
  (sb_one (ss_if (sn_tw (sw_or (sn_tnot (sn_tru (SndE.read (cD (rt.fn "fits" (by decide +kernel)) (sl_rd (vr 0) (sl_rd (vr 3) sl_nil)))))) (sw_or1 (sn_tcmp (vr 3) (SndE.read (SndE.keep (sn_sl (vr 1) so_none (so_some (vr 2))))) os_in (by rfl)))))
  (sb_one (ss_raise hm rt.x_BadGuard (by decide +kernel) (v1 2)))
  sb_nil)))
  (sb_cons (st 4 (sn_lst (n := 0) sl_nil))
  (sb_cons (ss_for hm (si_seq (sn_attr (vr 0))) (tn 5)
  (sb_cons (slc hm 6 [("guard", 3)] (ivc 1) (tn 3) (st_one (sn_tcmp (SndE.read (sn_ix (vr 3) sn_int)) (SndE.read (sn_ix (vr 5) sn_int)) os_eq (nomark _))) (v1 3))
  (sb_one (sap 4 (cD (rt.fn "changed" (by decide +kernel)) (sl_esc (v1 5) (sl_rd (vr 6) sl_nil)))))))
  (sb_one (ss_ret (mk hm rt.k_House (sl_rd (SndE.read (sn_attr (vr 0))) (sl_rd (vr 4) sl_nil))))))))
/-! fits -/
abbrev N_fits : List Str := ["house", "guard", "name", "variables", "_", "procs", "proc", "variable", "asset"]
theorem sc_fits : FnScope N_fits ["house", "guard"] (defScope (topS 13)) := ⟨rfl, rfl, rfl, by decide +kernel, rfl, by decide +kernel, by decide +kernel⟩
def lb_fits_0 (cl : Calls) : FS :=
  (sIf (bTst (bBin kEq (bVarR 2) (bBin kIx (bVarR 1) (bC (D.int 1)))))
  (sCons (sIf (bTst (bBin kEq (bBin kIx (bVarR 1) (bC (D.int 0))) (bC (D.str "hide"))))
  (sRet (bCall kAny (lCons (bComp [6] (iVarC 5) (tgName 6) cYes (bAndV (bBin kEq (bBin kIx (bVarR 6) (bC (D.int 0))) (bBin kIx (bVarR 1) (bC (D.int 2)))) (bBin kIx (bVarR 6) (bC (D.int 2))))) lNil)))
  sNil)
  (sCons (sIf (bTst (bBin kEq (bBin kIx (bVarR 1) (bC (D.int 0))) (bC (D.str "lock"))))
  (sRet (bBin kNotIn (bC g_LOCK) (bComp [7] (iVarC 3) (tgName 7) cYes (bBin kIx (bVarR 7) (bC (D.int 0))))))
  sNil)
  (sRet (bBin kIn (bBin kIx (bVarR 1) (bC (D.int 2))) (bComp [8] (iSeq (bAttr "assets" (bVarR 0))) (tgName 8) cYes (bBin kIx (bVarR 8) (bC (D.int 0))))))))
  sNil)
def sh_fits (cl : Calls) : FS :=
  (sCons (sFor (iSeq (bAttr "contracts" (bVarR 0))) (tgTup (tgCons (tgName 2) (tgCons (tgName 3) (tgCons (tgName 4) (tgCons (tgName 5) tgNil)))))
  (lb_fits_0 cl))
  (sRet (bC (D.bl false))))
theorem snd_fits {M : Mo} (h : Stc M) (rt : Rt M) : SndB ⟨N_fits, defScope (topS 13), none⟩ M (defBody (topS 13)) (sh_fits M.cl) :=
  have hb := h.bn
  have hm := h.cold
  (sb_cons (ss_for hm (si_seq (sn_attr (vr 0))) (sg_tup hm (sgs_cons (tn 2) (sgs_cons (tn 3) (sgs_cons (tn 4) (sgs_cons (tn 5) sgs_nil)))) (tgCons_len (tgCons_len (tgCons_len (tgCons_len tgNil_len)))))
  (sb_one (ss_if (sn_tcmp (vr 2) (SndE.read (sn_ix (vr 1) sn_int)) os_eq (nomark _))
  (sb_cons (ss_if (sn_tcmp (SndE.read (sn_ix (vr 1) sn_int)) sn_str os_eq (nomark _))
  (sb_one (ss_ret (cB hb (bu_any hm) (sl_rd (SndE.read (SndE.keep (lc hm [("proc", 6)] (ivc 5) (tn 6) st_nil (sn_and (sn_cmp (SndE.read (sn_ix (vr 6) sn_int)) (SndE.read (sn_ix (vr 1) sn_int)) os_eq (nomark _)) (sn_one (sn_ix (vr 6) sn_int)))))) sl_nil))))
  sb_nil)
  (sb_cons (ss_if (sn_tcmp (SndE.read (sn_ix (vr 1) sn_int)) sn_str os_eq (nomark _))
  (sb_one (ss_ret (sn_cmp (SndE.read (gl h.g_LOCK)) (SndE.read (SndE.keep (lc hm [("variable", 7)] (ivc 3) (tn 7) st_nil (sn_ix (vr 7) sn_int)))) os_notIn (by rfl))))
  sb_nil)
  (sb_one (ss_ret (sn_cmp (SndE.read (sn_ix (vr 1) sn_int)) (SndE.read (SndE.keep (lc hm [("asset", 8)] (SndI.toC (si_seq (sn_attr (vr 0)))) (tn 8) st_nil (sn_ix (vr 8) sn_int)))) os_in (by rfl))))))
  sb_nil)))
  (sb_one (ss_ret sn_bl)))
/-! changed -/
abbrev N_changed : List Str := ["contract", "guards", "name", "variables", "holds", "procs", "locked", "guard", "hidden", "floors", "result", "proc", "size", "shown", "block"]
theorem sc_changed : FnScope N_changed ["contract", "guards"] (defScope (topS 14)) := ⟨rfl, rfl, rfl, by decide +kernel, rfl, by decide +kernel, by decide +kernel⟩
def lb_changed_0 (cl : Calls) : FS :=
  (sCons (sIf (bTru (bVarR 13))
  (sAsg (tgName 14) (bDef cl "fenced" [.esc, .rd, .rd] (lCons (bVar 14) (lCons (bVarR 6) (lCons (bVarR 9) lNil)))))
  sNil)
  (sApp 10 (bTup (lCons (bVar 11) (lCons (bVar 12) (lCons (bAndV (bVarR 13) (bBin kNotIn (bVarR 11) (bVarR 8))) (lCons (bVar 14) lNil)))))))
def sh_changed (cl : Calls) : FS :=
  (sCons (sAsg (tgTup (tgCons (tgName 2) (tgCons (tgName 3) (tgCons (tgName 4) (tgCons (tgName 5) tgNil))))) (bVar 0))
  (sCons (sSet 6 (bCall kAny (lCons (bComp [7] (iVarC 1) (tgName 7) cYes (bBin kEq (bBin kIx (bVarR 7) (bC (D.int 0))) (bC (D.str "lock")))) lNil)))
  (sCons (sSet 8 (bComp [7] (iVarC 1) (tgName 7) (bTst (bBin kEq (bBin kIx (bVarR 7) (bC (D.int 0))) (bC (D.str "hide")))) (bBin kIx (bVarR 7) (bC (D.int 2)))))
  (sCons (sSet 9 (bComp [7] (iVarC 1) (tgName 7) (bTst (bBin kEq (bBin kIx (bVarR 7) (bC (D.int 0))) (bC (D.str "floor")))) (bVar 7)))
  (sCons (sIf (bTru (bVarR 6))
  (sSet 3 (bBin kAdd (bVarR 3) (bTup (lCons (bTup (lCons (bC g_LOCK) (lCons (bC (D.int 2)) (lCons (bC (D.int 0)) lNil)))) lNil))))
  sNil)
  (sCons (sSet 10 (bLst lNil))
  (sCons (sFor (iVar 5) (tgTup (tgCons (tgName 11) (tgCons (tgName 12) (tgCons (tgName 13) (tgCons (tgName 14) tgNil)))))
  (lb_changed_0 cl))
  (sRet (bTup (lCons (bVar 2) (lCons (bVar 3) (lCons (bVar 4) (lCons (bCall kTuple (lCons (bVarR 10) lNil)) lNil)))))))))))))
theorem snd_changed {M : Mo} (h : Stc M) (rt : Rt M) : SndB ⟨N_changed, defScope (topS 14), none⟩ M (defBody (topS 14)) (sh_changed M.cl) :=
  have hb := h.bn
  have hm := h.cold
  (sb_cons (ss_asg (v1 0) (sg_tup hm (sgs_cons (tn 2) (sgs_cons (tn 3) (sgs_cons (tn 4) (sgs_cons (tn 5) sgs_nil)))) (tgCons_len (tgCons_len (tgCons_len (tgCons_len tgNil_len))))))
  (sb_cons (st 6 (cB hb (bu_any hm) (sl_rd (SndE.read (SndE.keep (lc hm [("guard", 7)] (ivc 1) (tn 7) st_nil (sn_cmp (SndE.read (sn_ix (vr 7) sn_int)) sn_str os_eq (nomark _))))) sl_nil)))
  (sb_cons (slc hm 8 [("guard", 7)] (ivc 1) (tn 7) (st_one (sn_tcmp (SndE.read (sn_ix (vr 7) sn_int)) sn_str os_eq (nomark _))) (sn_ix (vr 7) sn_int))
  (sb_cons (slc hm 9 [("guard", 7)] (ivc 1) (tn 7) (st_one (sn_tcmp (SndE.read (sn_ix (vr 7) sn_int)) sn_str os_eq (nomark _))) (v1 7))
  (sb_cons (ss_if (sn_tru (vr 6))
  (sb_one (st 3 (sn_bin (vr 3) (sn_tup (n := 1) (sl_esc (sn_tup (n := 3) (sl_esc (gl h.g_LOCK) (sl_esc sn_int (sl_esc sn_int sl_nil)))) sl_nil)) os_add)))
  sb_nil)
  (sb_cons (st 10 (sn_lst (n := 0) sl_nil))
  (sb_cons (ss_for hm (iv 5) (sg_tup hm (sgs_cons (tn 11) (sgs_cons (tn 12) (sgs_cons (tn 13) (sgs_cons (tn 14) sgs_nil)))) (tgCons_len (tgCons_len (tgCons_len (tgCons_len tgNil_len)))))
  (sb_cons (ss_if (sn_tru (vr 13))
  (sb_one (se 14 (cD (rt.fn "fenced" (by decide +kernel)) (sl_esc (v1 14) (sl_rd (vr 6) (sl_rd (vr 9) sl_nil))))))
  sb_nil)
  (sb_one (sap 10 (sn_tup (n := 4) (sl_esc (v1 11) (sl_esc (v1 12) (sl_esc (sn_and (vr 13) (sn_one (sn_cmp (vr 11) (vr 8) os_notIn (by rfl)))) (sl_esc (v1 14) sl_nil)))))))))
  (sb_one (ss_ret (sn_tup (n := 4) (sl_esc (v1 2) (sl_esc (v1 3) (sl_esc (v1 4) (sl_esc (cT hb bu_tuple (sl_rd (vr 10) sl_nil)) sl_nil))))))))))))))
/-! fenced -/
abbrev N_fenced : List Str := ["block", "locked", "floors", "guard"]
theorem sc_fenced : FnScope N_fenced ["block", "locked", "floors"] (defScope (topS 15)) := ⟨rfl, rfl, rfl, by decide +kernel, rfl, by decide +kernel, by decide +kernel⟩
def lb_fenced_0 (cl : Calls) : FS :=
  (sSet 0 (bBin kAdd (bVarR 0) (bTup (lCons (bTup (lCons (bC (D.str "need")) (lCons (bTup (lCons (bC (D.str "=")) (lCons (bTup (lCons (bC (D.str "<")) (lCons (bTup (lCons (bC (D.str "have")) (lCons (bBin kIx (bVarR 3) (bC (D.int 2))) lNil))) (lCons (bTup (lCons (bC (D.str "number")) (lCons (bBin kIx (bVarR 3) (bC (D.int 3))) lNil))) lNil)))) (lCons (bTup (lCons (bC (D.str "number")) (lCons (bC (D.int 0)) lNil))) lNil)))) lNil))) lNil))))
def sh_fenced (cl : Calls) : FS :=
  (sCons (sIf (bTru (bVarR 1))
  (sCons (sSet 0 (bBin kAdd (bTup (lCons (bTup (lCons (bC (D.str "need")) (lCons (bTup (lCons (bC (D.str "=")) (lCons (bTup (lCons (bC (D.str "variable")) (lCons (bC g_LOCK) lNil))) (lCons (bTup (lCons (bC (D.str "number")) (lCons (bC (D.int 0)) lNil))) lNil)))) lNil))) (lCons (bTup (lCons (bC (D.str "set")) (lCons (bC g_LOCK) (lCons (bTup (lCons (bC (D.str "number")) (lCons (bC (D.int 1)) lNil))) lNil)))) lNil))) (bVarR 0)))
  (sSet 0 (bBin kAdd (bVarR 0) (bTup (lCons (bTup (lCons (bC (D.str "set")) (lCons (bC g_LOCK) (lCons (bTup (lCons (bC (D.str "number")) (lCons (bC (D.int 0)) lNil))) lNil)))) lNil)))))
  sNil)
  (sCons (sFor (iVar 2) (tgName 3)
  (lb_fenced_0 cl))
  (sRetV 0)))
theorem snd_fenced {M : Mo} (h : Stc M) (rt : Rt M) : SndB ⟨N_fenced, defScope (topS 15), none⟩ M (defBody (topS 15)) (sh_fenced M.cl) :=
  have hb := h.bn
  have hm := h.cold
  (sb_cons (ss_if (sn_tru (vr 1))
  (sb_cons (st 0 (sn_bin (sn_tup (n := 2) (sl_esc (sn_tup (n := 2) (sl_esc sn_str (sl_esc (sn_tup (n := 3) (sl_esc sn_str (sl_esc (sn_tup (n := 2) (sl_esc sn_str (sl_esc (gl h.g_LOCK) sl_nil))) (sl_esc (sn_tup (n := 2) (sl_esc sn_str (sl_esc sn_int sl_nil))) sl_nil)))) sl_nil))) (sl_esc (sn_tup (n := 3) (sl_esc sn_str (sl_esc (gl h.g_LOCK) (sl_esc (sn_tup (n := 2) (sl_esc sn_str (sl_esc sn_int sl_nil))) sl_nil)))) sl_nil))) (vr 0) os_add))
  (sb_one (st 0 (sn_bin (vr 0) (sn_tup (n := 1) (sl_esc (sn_tup (n := 3) (sl_esc sn_str (sl_esc (gl h.g_LOCK) (sl_esc (sn_tup (n := 2) (sl_esc sn_str (sl_esc sn_int sl_nil))) sl_nil)))) sl_nil)) os_add))))
  sb_nil)
  (sb_cons (ss_for hm (iv 2) (tn 3)
  (sb_one (st 0 (sn_bin (vr 0) (sn_tup (n := 1) (sl_esc (sn_tup (n := 2) (sl_esc sn_str (sl_esc (sn_tup (n := 3) (sl_esc sn_str (sl_esc (sn_tup (n := 3) (sl_esc sn_str (sl_esc (sn_tup (n := 2) (sl_esc sn_str (sl_esc (sn_ix (vr 3) sn_int) sl_nil))) (sl_esc (sn_tup (n := 2) (sl_esc sn_str (sl_esc (sn_ix (vr 3) sn_int) sl_nil))) sl_nil)))) (sl_esc (sn_tup (n := 2) (sl_esc sn_str (sl_esc sn_int sl_nil))) sl_nil)))) sl_nil))) sl_nil)) os_add))))
  (sb_one (rv 0))))
/-! law_cell -/
abbrev N_law_cell : List Str := ["_law_script", "_law_k"]
theorem sc_law_cell : FnScope N_law_cell ["_law_script", "_law_k"] (defScope (topS 17)) := ⟨rfl, rfl, rfl, by decide +kernel, rfl, by decide +kernel, by decide +kernel⟩
def sh_law_cell (cl : Calls) : FS :=
  (sCons (sIf (bTst (bBin kLt (bVarR 1) (bCall kLen (lCons (bVarR 0) lNil))))
  (sRet (bBin kIx (bVarR 0) (bVarR 1)))
  sNil)
  (sRet (bC (D.int 0))))
theorem snd_law_cell {M : Mo} (h : Stc M) (rt : Rt M) : SndB ⟨N_law_cell, defScope (topS 17), none⟩ M (defBody (topS 17)) (sh_law_cell M.cl) :=
  have hb := h.bn
  have hm := h.cold
  (sb_cons (ss_if (sn_tcmp (vr 1) (cB hb bu_len (sl_rd (vr 0) sl_nil)) os_lt (nomark _))
  (sb_one (ss_ret (sn_ix (vr 0) (vr 1))))
  sb_nil)
  (sb_one (ss_ret sn_int)))
/-! law_is_integer -/
abbrev N_law_is_integer : List Str := ["_law_actual"]
theorem sc_law_is_integer : FnScope N_law_is_integer ["_law_actual"] (defScope (topS 18)) := ⟨rfl, rfl, rfl, by decide +kernel, rfl, by decide +kernel, by decide +kernel⟩
def sh_law_is_integer (cl : Calls) : FS :=
  (sRet (bAndV (bIsi "int" (bVarR 0)) (bNotV (bIsi "bool" (bVarR 0)))))
theorem snd_law_is_integer {M : Mo} (h : Stc M) (rt : Rt M) : SndB ⟨N_law_is_integer, defScope (topS 18), none⟩ M (defBody (topS 18)) (sh_law_is_integer M.cl) :=
  have hb := h.bn
  have hm := h.cold
  (sb_one (ss_ret (sn_and (isi hb (vr 0)) (sn_one (sn_not (isi hb (vr 0)))))))
theorem sndH_law_is_integer {M : Mo} (h : StcH M) (rt : RtH M) : SndB ⟨N_law_is_integer, defScope (topS 18), none⟩ M (defBody (topS 18)) (sh_law_is_integer M.cl) :=
  have hb := h.bn
  (sb_one (ss_ret (sn_and (isi hb (vr 0)) (sn_one (sn_not (isi hb (vr 0)))))))
/-! law_row -/
abbrev N_law_row : List Str := ["_law_cell_here", "_law_count", "_law_size", "_law_state", "_law_row_here", "_law_k"]
theorem sc_law_row : FnScope N_law_row ["_law_cell_here", "_law_count", "_law_size"] (defScope (topS 19)) := ⟨rfl, rfl, rfl, by decide +kernel, rfl, by decide +kernel, by decide +kernel⟩
def lb_law_row_0 (cl : Calls) : FS :=
  (sIf (bTst (bBin kGe (bVarR 0) (bBin kPow (bC (D.int 10)) (bC (D.int 18)))))
  (sCons (sApp 4 (bBin kMod (bCall kInt (lCons (bVarR 3) lNil)) (bVarR 2)))
  (sSet 3 (bBin kFdiv (bVarR 3) (bVarR 2))))
  (sCons (sSet 3 (bBin kMod (bBin kAdd (bBin kMulL (bVarR 3) (bC (D.int 48271))) (bC (D.int 12345))) (bC (D.int 2147483647))))
  (sApp 4 (bBin kMod (bBin kMod (bCall kInt (lCons (bBin kAdd (bBin kMulL (bVarR 3) (bC (D.int 69621))) (bBin kMulL (bVarR 5) (bC (D.int 7919)))) lNil)) (bC (D.int 2147483647))) (bVarR 2)))))
def sh_law_row (cl : Calls) : FS :=
  (sCons (sAsg (tgName 3) (bVar 0))
  (sCons (sSet 4 (bLst lNil))
  (sCons (sFor (iRng1D (bVarR 1)) (tgName 5)
  (lb_law_row_0 cl))
  (sRetV 4))))
theorem snd_law_row {M : Mo} (h : Stc M) (rt : Rt M) : SndB ⟨N_law_row, defScope (topS 19), none⟩ M (defBody (topS 19)) (sh_law_row M.cl) :=
  have hb := h.bn
  have hm := h.cold
  (sb_cons (se 3 (v1 0))
  (sb_cons (st 4 (sn_lst (n := 0) sl_nil))
  (sb_cons (ss_for hm (rg1 hb (vr 1)) (tn 5)
  (sb_one (ss_if (sn_tcmp (vr 0) (sn_bin sn_int sn_int os_pow) os_ge (nomark _))
  (sb_cons (sap 4 (sn_bin (cT hb bu_int (sl_rd (vr 3) sl_nil)) (vr 2) os_mod))
  (sb_one (st 3 (sn_bin (vr 3) (vr 2) os_fdiv))))
  (sb_cons (st 3 (sn_bin (SndE.read (SndE.keep (sn_bin (SndE.read (SndE.keep (sn_bin (vr 3) sn_int os_mulL))) sn_int os_add))) sn_int os_mod))
  (sb_one (sap 4 (sn_bin (sn_bin (cT hb bu_int (sl_rd (SndE.read (SndE.keep (sn_bin (SndE.read (SndE.keep (sn_bin (vr 3) sn_int os_mulL))) (SndE.read (SndE.keep (sn_bin (vr 5) sn_int os_mulL))) os_add))) sl_nil)) sn_int os_mod) (vr 2) os_mod)))))))
  (sb_one (rv 4)))))
/-! law_expression -/
abbrev N_law_expression : List Str := ["_law_cell_here", "_law_names", "_law_assets", "_law_kind", "_law_rest", "_law_left"]
theorem sc_law_expression : FnScope N_law_expression ["_law_cell_here", "_law_names", "_law_assets"] (defScope (topS 20)) := ⟨rfl, rfl, rfl, by decide +kernel, rfl, by decide +kernel, by decide +kernel⟩
def sh_law_expression (cl : Calls) : FS :=
  (sCons (sSet 3 (bBin kMod (bCall kInt (lCons (bVarR 0) lNil)) (bC (D.int 8))))
  (sCons (sSet 4 (bBin kFdiv (bCall kInt (lCons (bVarR 0) lNil)) (bC (D.int 8))))
  (sCons (sIf (bAndT (bTst (bBin kLt (bVarR 3) (bC (D.int 2)))) (bTst (bBin kGt (bCall kLen (lCons (bVarR 1) lNil)) (bC (D.int 0)))))
  (sRet (bTup (lCons (bC (D.str "variable")) (lCons (bBin kIx (bVarR 1) (bBin kMod (bVarR 4) (bCall kLen (lCons (bVarR 1) lNil)))) lNil))))
  sNil)
  (sCons (sIf (bTst (bBin kEq (bVarR 3) (bC (D.int 2))))
  (sRet (bTup (lCons (bC (D.str "given")) lNil)))
  sNil)
  (sCons (sIf (bAndT (bTst (bBin kEq (bVarR 3) (bC (D.int 3)))) (bTst (bBin kGt (bCall kLen (lCons (bVarR 2) lNil)) (bC (D.int 0)))))
  (sRet (bTup (lCons (bBin kIx (bTup (lCons (bC (D.str "have")) (lCons (bC (D.str "out")) lNil))) (bBin kMod (bVarR 4) (bC (D.int 2)))) (lCons (bBin kIx (bVarR 2) (bBin kMod (bBin kFdiv (bVarR 4) (bC (D.int 2))) (bCall kLen (lCons (bVarR 2) lNil)))) lNil))))
  sNil)
  (sCons (sIf (bTst (bBin kEq (bVarR 3) (bC (D.int 4))))
  (sCons (sAsg (tgName 5) (bDef cl "_law_expression" [.rd, .rd, .rd] (lCons (bBin kMod (bBin kFdiv (bVarR 4) (bC (D.int 7))) (bC (D.int 60))) (lCons (bVarR 1) (lCons (bVarR 2) lNil)))))
  (sRet (bTup (lCons (bBin kIx (bTup (lCons (bC (D.str "+")) (lCons (bC (D.str "-")) (lCons (bC (D.str "*")) (lCons (bC (D.str "/")) (lCons (bC (D.str "mod")) (lCons (bC (D.str "<")) (lCons (bC (D.str "=")) lNil)))))))) (bBin kMod (bVarR 4) (bC (D.int 7)))) (lCons (bVar 5) (lCons (bDef cl "_law_expression" [.rd, .rd, .rd] (lCons (bBin kMod (bBin kFdiv (bVarR 4) (bC (D.int 420))) (bC (D.int 60))) (lCons (bVarR 1) (lCons (bVarR 2) lNil)))) lNil))))))
  sNil)
  (sRet (bTup (lCons (bC (D.str "number")) (lCons (bBin kMod (bVarR 4) (bC (D.int 4))) lNil))))))))))
theorem snd_law_expression {M : Mo} (h : Stc M) (rt : Rt M) : SndB ⟨N_law_expression, defScope (topS 20), none⟩ M (defBody (topS 20)) (sh_law_expression M.cl) :=
  have hb := h.bn
  have hm := h.cold
  (sb_cons (st 3 (sn_bin (cT hb bu_int (sl_rd (vr 0) sl_nil)) sn_int os_mod))
  (sb_cons (st 4 (sn_bin (cT hb bu_int (sl_rd (vr 0) sl_nil)) sn_int os_fdiv))
  (sb_cons (ss_if (sn_tw (sw_and (sn_tcmp (vr 3) sn_int os_lt (nomark _)) (sw_and1 (sn_tcmp (cB hb bu_len (sl_rd (vr 1) sl_nil)) sn_int os_gt (nomark _)))))
  (sb_one (ss_ret (sn_tup (n := 2) (sl_esc sn_str (sl_esc (sn_ix (vr 1) (sn_bin (vr 4) (cB hb bu_len (sl_rd (vr 1) sl_nil)) os_mod)) sl_nil)))))
  sb_nil)
  (sb_cons (ss_if (sn_tcmp (vr 3) sn_int os_eq (nomark _))
  (sb_one (ss_ret (sn_tup (n := 1) (sl_esc sn_str sl_nil))))
  sb_nil)
  (sb_cons (ss_if (sn_tw (sw_and (sn_tcmp (vr 3) sn_int os_eq (nomark _)) (sw_and1 (sn_tcmp (cB hb bu_len (sl_rd (vr 2) sl_nil)) sn_int os_gt (nomark _)))))
  (sb_one (ss_ret (sn_tup (n := 2) (sl_esc (sn_ix (sn_tup (n := 2) (sl_esc sn_str (sl_esc sn_str sl_nil))) (sn_bin (vr 4) sn_int os_mod)) (sl_esc (sn_ix (vr 2) (sn_bin (sn_bin (vr 4) sn_int os_fdiv) (cB hb bu_len (sl_rd (vr 2) sl_nil)) os_mod)) sl_nil)))))
  sb_nil)
  (sb_cons (ss_if (sn_tcmp (vr 3) sn_int os_eq (nomark _))
  (sb_cons (se 5 (cD (rt.fn "_law_expression" (by decide +kernel)) (sl_rd (sn_bin (sn_bin (vr 4) sn_int os_fdiv) sn_int os_mod) (sl_rd (vr 1) (sl_rd (vr 2) sl_nil)))))
  (sb_one (ss_ret (sn_tup (n := 3) (sl_esc (sn_ix (sn_tup (n := 7) (sl_esc sn_str (sl_esc sn_str (sl_esc sn_str (sl_esc sn_str (sl_esc sn_str (sl_esc sn_str (sl_esc sn_str sl_nil)))))))) (sn_bin (vr 4) sn_int os_mod)) (sl_esc (v1 5) (sl_esc (cD (rt.fn "_law_expression" (by decide +kernel)) (sl_rd (sn_bin (sn_bin (vr 4) sn_int os_fdiv) sn_int os_mod) (sl_rd (vr 1) (sl_rd (vr 2) sl_nil)))) sl_nil)))))))
  sb_nil)
  (sb_one (ss_ret (sn_tup (n := 2) (sl_esc sn_str (sl_esc (sn_bin (vr 4) sn_int os_mod) sl_nil)))))))))))
/-! law_statement -/
abbrev N_law_statement : List Str := ["_law_cell_here", "_law_names", "_law_assets", "_law_known", "_law_asks", "_law_kind", "_law_rest", "_law_pair"]
theorem sc_law_statement : FnScope N_law_statement ["_law_cell_here", "_law_names", "_law_assets", "_law_known", "_law_asks"] (defScope (topS 21)) := ⟨rfl, rfl, rfl, by decide +kernel, rfl, by decide +kernel, by decide +kernel⟩
def sh_law_statement (cl : Calls) : FS :=
  (sCons (sSet 5 (bBin kMod (bCall kInt (lCons (bVarR 0) lNil)) (bC (D.int 7))))
  (sCons (sSet 6 (bBin kFdiv (bCall kInt (lCons (bVarR 0) lNil)) (bC (D.int 7))))
  (sCons (sIf (bAndT (bTst (bBin kEq (bVarR 5) (bC (D.int 0)))) (bTst (bBin kGt (bCall kLen (lCons (bVarR 1) lNil)) (bC (D.int 0)))))
  (sRet (bTup (lCons (bC (D.str "set")) (lCons (bBin kIx (bVarR 1) (bBin kMod (bVarR 6) (bCall kLen (lCons (bVarR 1) lNil)))) (lCons (bDef cl "_law_expression" [.rd, .rd, .rd] (lCons (bBin kFdiv (bVarR 6) (bC (D.int 6))) (lCons (bVarR 1) (lCons (bVarR 2) lNil)))) lNil)))))
  sNil)
  (sCons (sIf (bTst (bBin kEq (bVarR 5) (bC (D.int 1))))
  (sRet (bTup (lCons (bC (D.str "need")) (lCons (bDef cl "_law_expression" [.rd, .rd, .rd] (lCons (bVarR 6) (lCons (bVarR 1) (lCons (bVarR 2) lNil)))) lNil))))
  sNil)
  (sCons (sIf (bAndT (bTst (bBin kLt (bVarR 5) (bC (D.int 4)))) (bTst (bBin kGt (bCall kLen (lCons (bVarR 2) lNil)) (bC (D.int 0)))))
  (sRet (bTup (lCons (bBin kIx (bTup (lCons (bC (D.str "give")) (lCons (bC (D.str "get")) lNil))) (bBin kMod (bVarR 6) (bC (D.int 2)))) (lCons (bBin kIx (bVarR 2) (bBin kMod (bBin kFdiv (bVarR 6) (bC (D.int 2))) (bCall kLen (lCons (bVarR 2) lNil)))) (lCons (bDef cl "_law_expression" [.rd, .rd, .rd] (lCons (bBin kFdiv (bVarR 6) (bC (D.int 6))) (lCons (bVarR 1) (lCons (bVarR 2) lNil)))) lNil)))))
  sNil)
  (sCons (sIf (bAndT (bTst (bBin kEq (bVarR 5) (bC (D.int 4)))) (bAndT (bTst (bBin kGt (bCall kLen (lCons (bVarR 1) lNil)) (bC (D.int 0)))) (bTst (bBin kGt (bVarR 4) (bC (D.int 0))))))
  (sRet (bTup (lCons (bC (D.str "ask")) (lCons (bBin kIx (bVarR 1) (bBin kMod (bVarR 6) (bCall kLen (lCons (bVarR 1) lNil)))) (lCons (bBin kAdd (bC (D.int 1)) (bBin kMod (bBin kFdiv (bVarR 6) (bC (D.int 6))) (bC (D.int 2)))) lNil)))))
  sNil)
  (sCons (sIf (bAndT (bTst (bBin kEq (bVarR 5) (bC (D.int 5)))) (bTst (bBin kGt (bCall kLen (lCons (bVarR 3) lNil)) (bC (D.int 0)))))
  (sCons (sAsg (tgName 7) (bBin kIx (bVarR 3) (bBin kMod (bVarR 6) (bCall kLen (lCons (bVarR 3) lNil)))))
  (sRet (bTup (lCons (bC (D.str "call")) (lCons (bBin kIx (bVarR 7) (bC (D.int 0))) (lCons (bBin kIx (bVarR 7) (bC (D.int 1))) (lCons (bDef cl "_law_expression" [.rd, .rd, .rd] (lCons (bBin kFdiv (bVarR 6) (bC (D.int 12))) (lCons (bVarR 1) (lCons (bVarR 2) lNil)))) lNil)))))))
  sNil)
  (sRet (bIfE (bTst (bBin kGt (bCall kLen (lCons (bVarR 1) lNil)) (bC (D.int 0)))) (bTup (lCons (bC (D.str "set")) (lCons (bBin kIx (bVarR 1) (bC (D.int 0))) (lCons (bTup (lCons (bC (D.str "number")) (lCons (bBin kMod (bVarR 6) (bC (D.int 3))) lNil))) lNil)))) (bTup (lCons (bC (D.str "need")) (lCons (bTup (lCons (bC (D.str "number")) (lCons (bC (D.int 1)) lNil))) lNil))))))))))))
theorem snd_law_statement {M : Mo} (h : Stc M) (rt : Rt M) : SndB ⟨N_law_statement, defScope (topS 21), none⟩ M (defBody (topS 21)) (sh_law_statement M.cl) :=
  have hb := h.bn
  have hm := h.cold
  (sb_cons (st 5 (sn_bin (cT hb bu_int (sl_rd (vr 0) sl_nil)) sn_int os_mod))
  (sb_cons (st 6 (sn_bin (cT hb bu_int (sl_rd (vr 0) sl_nil)) sn_int os_fdiv))
  (sb_cons (ss_if (sn_tw (sw_and (sn_tcmp (vr 5) sn_int os_eq (nomark _)) (sw_and1 (sn_tcmp (cB hb bu_len (sl_rd (vr 1) sl_nil)) sn_int os_gt (nomark _)))))
  (sb_one (ss_ret (sn_tup (n := 3) (sl_esc sn_str (sl_esc (sn_ix (vr 1) (sn_bin (vr 6) (cB hb bu_len (sl_rd (vr 1) sl_nil)) os_mod)) (sl_esc (cD (rt.fn "_law_expression" (by decide +kernel)) (sl_rd (sn_bin (vr 6) sn_int os_fdiv) (sl_rd (vr 1) (sl_rd (vr 2) sl_nil)))) sl_nil))))))
  sb_nil)
  (sb_cons (ss_if (sn_tcmp (vr 5) sn_int os_eq (nomark _))
  (sb_one (ss_ret (sn_tup (n := 2) (sl_esc sn_str (sl_esc (cD (rt.fn "_law_expression" (by decide +kernel)) (sl_rd (vr 6) (sl_rd (vr 1) (sl_rd (vr 2) sl_nil)))) sl_nil)))))
  sb_nil)
  (sb_cons (ss_if (sn_tw (sw_and (sn_tcmp (vr 5) sn_int os_lt (nomark _)) (sw_and1 (sn_tcmp (cB hb bu_len (sl_rd (vr 2) sl_nil)) sn_int os_gt (nomark _)))))
  (sb_one (ss_ret (sn_tup (n := 3) (sl_esc (sn_ix (sn_tup (n := 2) (sl_esc sn_str (sl_esc sn_str sl_nil))) (sn_bin (vr 6) sn_int os_mod)) (sl_esc (sn_ix (vr 2) (sn_bin (sn_bin (vr 6) sn_int os_fdiv) (cB hb bu_len (sl_rd (vr 2) sl_nil)) os_mod)) (sl_esc (cD (rt.fn "_law_expression" (by decide +kernel)) (sl_rd (sn_bin (vr 6) sn_int os_fdiv) (sl_rd (vr 1) (sl_rd (vr 2) sl_nil)))) sl_nil))))))
  sb_nil)
  (sb_cons (ss_if (sn_tw (sw_and (sn_tcmp (vr 5) sn_int os_eq (nomark _)) (sw_and (sn_tcmp (cB hb bu_len (sl_rd (vr 1) sl_nil)) sn_int os_gt (nomark _)) (sw_and1 (sn_tcmp (vr 4) sn_int os_gt (nomark _))))))
  (sb_one (ss_ret (sn_tup (n := 3) (sl_esc sn_str (sl_esc (sn_ix (vr 1) (sn_bin (vr 6) (cB hb bu_len (sl_rd (vr 1) sl_nil)) os_mod)) (sl_esc (SndE.keep (sn_bin sn_int (sn_bin (sn_bin (vr 6) sn_int os_fdiv) sn_int os_mod) os_add)) sl_nil))))))
  sb_nil)
  (sb_cons (ss_if (sn_tw (sw_and (sn_tcmp (vr 5) sn_int os_eq (nomark _)) (sw_and1 (sn_tcmp (cB hb bu_len (sl_rd (vr 3) sl_nil)) sn_int os_gt (nomark _)))))
  (sb_cons (se 7 (sn_ix (vr 3) (sn_bin (vr 6) (cB hb bu_len (sl_rd (vr 3) sl_nil)) os_mod)))
  (sb_one (ss_ret (sn_tup (n := 4) (sl_esc sn_str (sl_esc (sn_ix (vr 7) sn_int) (sl_esc (sn_ix (vr 7) sn_int) (sl_esc (cD (rt.fn "_law_expression" (by decide +kernel)) (sl_rd (sn_bin (vr 6) sn_int os_fdiv) (sl_rd (vr 1) (sl_rd (vr 2) sl_nil)))) sl_nil))))))))
  sb_nil)
  (sb_one (ss_ret (SndE.keep (sn_ifE (sn_tcmp (cB hb bu_len (sl_rd (vr 1) sl_nil)) sn_int os_gt (nomark _)) (sn_tup (n := 3) (sl_esc sn_str (sl_esc (sn_ix (vr 1) sn_int) (sl_esc (sn_tup (n := 2) (sl_esc sn_str (sl_esc (sn_bin (vr 6) sn_int os_mod) sl_nil))) sl_nil)))) (sn_tup (n := 2) (sl_esc sn_str (sl_esc (sn_tup (n := 2) (sl_esc sn_str (sl_esc sn_int sl_nil))) sl_nil))))))))))))))
/-! law_body -/
abbrev N_law_body : List Str := ["_law_cells", "_law_names", "_law_assets", "_law_known", "_law_asks", "_law_block", "_law_left", "_law_cell_here", "_law_inner", "_law_other", "_law_statement_here"]
theorem sc_law_body : FnScope N_law_body ["_law_cells", "_law_names", "_law_assets", "_law_known", "_law_asks"] (defScope (topS 22)) := ⟨rfl, rfl, rfl, by decide +kernel, rfl, by decide +kernel, by decide +kernel⟩
def lb_law_body_0 (cl : Calls) : FS :=
  (sIf (bAndT (bTst (bBin kEq (bBin kMod (bCall kInt (lCons (bVarR 7) lNil)) (bC (D.int 11))) (bC (D.int 5)))) (bTst (bBin kGt (bCall kLen (lCons (bVarR 0) lNil)) (bC (D.int 1)))))
  (sCons (sAsg (tgName 8) (bDef cl "_law_statement" [.rd, .rd, .rd, .rd, .rd] (lCons (bBin kFdiv (bCall kInt (lCons (bVarR 7) lNil)) (bC (D.int 11))) (lCons (bVarR 1) (lCons (bVarR 2) (lCons (bTup lNil) (lCons (bC (D.int 0)) lNil)))))))
  (sCons (sSet 9 (bTup lNil))
  (sCons (sIf (bTst (bBin kEq (bBin kMod (bBin kFdiv (bCall kInt (lCons (bVarR 7) lNil)) (bC (D.int 11))) (bC (D.int 2))) (bC (D.int 1))))
  (sSet 9 (bTup (lCons (bDef cl "_law_statement" [.rd, .rd, .rd, .rd, .rd] (lCons (bBin kFdiv (bCall kInt (lCons (bVarR 7) lNil)) (bC (D.int 77))) (lCons (bVarR 1) (lCons (bVarR 2) (lCons (bTup lNil) (lCons (bC (D.int 0)) lNil)))))) lNil)))
  sNil)
  (sApp 5 (bTup (lCons (bC (D.str "if")) (lCons (bDef cl "_law_expression" [.rd, .rd, .rd] (lCons (bBin kFdiv (bCall kInt (lCons (bVarR 7) lNil)) (bC (D.int 22))) (lCons (bVarR 1) (lCons (bVarR 2) lNil)))) (lCons (bTup (lCons (bVar 8) lNil)) (lCons (bVar 9) lNil)))))))))
  (sCons (sAsg (tgName 10) (bDef cl "_law_statement" [.rd, .rd, .rd, .rd, .rd] (lCons (bBin kFdiv (bCall kInt (lCons (bVarR 7) lNil)) (bC (D.int 11))) (lCons (bVarR 1) (lCons (bVarR 2) (lCons (bVarR 3) (lCons (bVarR 6) lNil)))))))
  (sCons (sSet 6 (bBin kSub (bVarR 6) (bCall kInt (lCons (bBin kEq (bBin kIx (bVarR 10) (bC (D.int 0))) (bC (D.str "ask"))) lNil))))
  (sApp 5 (bVar 10)))))
def sh_law_body (cl : Calls) : FS :=
  (sCons (sSet 5 (bLst lNil))
  (sCons (sAsg (tgName 6) (bVar 4))
  (sCons (sFor (iVar 0) (tgName 7)
  (lb_law_body_0 cl))
  (sRet (bTup (lCons (bCall kTuple (lCons (bVarR 5) lNil)) (lCons (bVar 6) lNil)))))))
theorem snd_law_body {M : Mo} (h : Stc M) (rt : Rt M) : SndB ⟨N_law_body, defScope (topS 22), none⟩ M (defBody (topS 22)) (sh_law_body M.cl) :=
  have hb := h.bn
  have hm := h.cold
  (sb_cons (st 5 (sn_lst (n := 0) sl_nil))
  (sb_cons (se 6 (v1 4))
  (sb_cons (ss_for hm (iv 0) (tn 7)
  (sb_one (ss_if (sn_tw (sw_and (sn_tcmp (sn_bin (cT hb bu_int (sl_rd (vr 7) sl_nil)) sn_int os_mod) sn_int os_eq (nomark _)) (sw_and1 (sn_tcmp (cB hb bu_len (sl_rd (vr 0) sl_nil)) sn_int os_gt (nomark _)))))
  (sb_cons (se 8 (cD (rt.fn "_law_statement" (by decide +kernel)) (sl_rd (sn_bin (cT hb bu_int (sl_rd (vr 7) sl_nil)) sn_int os_fdiv) (sl_rd (vr 1) (sl_rd (vr 2) (sl_rd (sn_tup (n := 0) sl_nil) (sl_rd sn_int sl_nil)))))))
  (sb_cons (st 9 (sn_tup (n := 0) sl_nil))
  (sb_cons (ss_if (sn_tcmp (sn_bin (sn_bin (cT hb bu_int (sl_rd (vr 7) sl_nil)) sn_int os_fdiv) sn_int os_mod) sn_int os_eq (nomark _))
  (sb_one (st 9 (sn_tup (n := 1) (sl_esc (cD (rt.fn "_law_statement" (by decide +kernel)) (sl_rd (sn_bin (cT hb bu_int (sl_rd (vr 7) sl_nil)) sn_int os_fdiv) (sl_rd (vr 1) (sl_rd (vr 2) (sl_rd (sn_tup (n := 0) sl_nil) (sl_rd sn_int sl_nil)))))) sl_nil))))
  sb_nil)
  (sb_one (sap 5 (sn_tup (n := 4) (sl_esc sn_str (sl_esc (cD (rt.fn "_law_expression" (by decide +kernel)) (sl_rd (sn_bin (cT hb bu_int (sl_rd (vr 7) sl_nil)) sn_int os_fdiv) (sl_rd (vr 1) (sl_rd (vr 2) sl_nil)))) (sl_esc (sn_tup (n := 1) (sl_esc (v1 8) sl_nil)) (sl_esc (v1 9) sl_nil))))))))))
  (sb_cons (se 10 (cD (rt.fn "_law_statement" (by decide +kernel)) (sl_rd (sn_bin (cT hb bu_int (sl_rd (vr 7) sl_nil)) sn_int os_fdiv) (sl_rd (vr 1) (sl_rd (vr 2) (sl_rd (vr 3) (sl_rd (vr 6) sl_nil)))))))
  (sb_cons (st 6 (sn_bin (vr 6) (cT hb bu_int (sl_rd (sn_cmp (SndE.read (sn_ix (vr 10) sn_int)) sn_str os_eq (nomark _)) sl_nil)) os_sub))
  (sb_one (sap 5 (v1 10))))))))
  (sb_one (ss_ret (sn_tup (n := 2) (sl_esc (cT hb bu_tuple (sl_rd (vr 5) sl_nil)) (sl_esc (v1 6) sl_nil))))))))
/-! law_contract -/
abbrev N_law_contract : List Str := ["_law_name", "_law_cells", "_law_assets", "_law_known", "_law_asks", "_law_small", "_law_digits", "_law_names", "_law_variables", "_law_k", "_law_holds", "_law_asset", "_law_procs", "_law_links", "_law_left", "_law_size", "_law_body_here", "_law_calls", "_law_statement_here"]
theorem sc_law_contract : FnScope N_law_contract ["_law_name", "_law_cells", "_law_assets", "_law_known", "_law_asks", "_law_small"] (defScope (topS 23)) := ⟨rfl, rfl, rfl, by decide +kernel, rfl, by decide +kernel, by decide +kernel⟩
def lb_law_contract_0 (cl : Calls) : FS :=
  (sCons (sAsg (tgName 15) (bBin kIx (bTup (lCons (bC (D.int 1)) (lCons (bC (D.int 2)) (lCons (bC (D.int 3)) lNil)))) (bBin kMod (bBin kIx (bVarR 6) (bBin kAdd (bC (D.int 8)) (bVarR 9))) (bC (D.int 3)))))
  (sCons (sIf (bNotT (bTru (bVarR 5)))
  (sAsg (tgName 15) (bBin kIx (bTup (lCons (bC (D.int 1)) (lCons (bC (D.int 2)) (lCons (bC (D.int 3)) (lCons (bC (D.int 5)) (lCons (bC (D.int 64)) lNil)))))) (bBin kMod (bBin kIx (bVarR 6) (bBin kAdd (bC (D.int 8)) (bVarR 9))) (bC (D.int 5)))))
  sNil)
  (sCons (sAsg (tgName 16) (bDef cl "_law_body" [.rd, .rd, .rd, .rd, .esc] (lCons (bDef cl "_law_row" [.esc, .rd, .rd] (lCons (bBin kIx (bVarR 1) (bBin kAdd (bC (D.int 1)) (bVarR 9))) (lCons (bBin kAdd (bC (D.int 1)) (bBin kMod (bBin kIx (bVarR 6) (bBin kAdd (bC (D.int 10)) (bVarR 9))) (bC (D.int 4)))) (lCons (bBin kPow (bC (D.int 10)) (bC (D.int 9))) lNil)))) (lCons (bVarR 7) (lCons (bVarR 2) (lCons (bVarR 13) (lCons (bVar 14) lNil)))))))
  (sCons (sAsg (tgName 14) (bBin kIx (bVarR 16) (bC (D.int 1))))
  (sCons (sApp 12 (bTup (lCons (bBin kIx (bC (D.str "pq")) (bVarR 9)) (lCons (bVar 15) (lCons (bBin kGt (bBin kMod (bBin kFdiv (bBin kIx (bVarR 6) (bBin kAdd (bC (D.int 8)) (bVarR 9))) (bC (D.int 2))) (bC (D.int 5))) (bC (D.int 0))) (lCons (bBin kIx (bVarR 16) (bC (D.int 0))) lNil))))))
  (sCons (sSet 17 (bComp [18] (iSeq (bBin kIx (bVarR 16) (bC (D.int 0)))) (tgName 18) (bTst (bBin kEq (bBin kIx (bVarR 18) (bC (D.int 0))) (bC (D.str "call")))) (bVar 18)))
  (sIf (bAndT (bTst (bBin kEq (bCall kLen (lCons (bVarR 17) lNil)) (bC (D.int 0)))) (bNotT (bTru (bVarR 5))))
  (sApp 13 (bTup (lCons (bVar 0) (lCons (bBin kIx (bC (D.str "pq")) (bVarR 9)) lNil))))
  sNil)))))))
def sh_law_contract (cl : Calls) : FS :=
  (sCons (sAsg (tgName 6) (bDef cl "_law_row" [.esc, .rd, .rd] (lCons (bBin kIx (bVarR 1) (bC (D.int 0))) (lCons (bC (D.int 12)) (lCons (bC (D.int 60)) lNil)))))
  (sCons (sSet 7 (bSl (bLst (lCons (bC (D.str "x")) (lCons (bC (D.str "y")) lNil))) oNone (oSome (bBin kMod (bBin kIx (bVarR 6) (bC (D.int 0))) (bC (D.int 3))))))
  (sCons (sIf (bTru (bVarR 5))
  (sSet 7 (bSl (bVarR 7) oNone (oSome (bC (D.int 1)))))
  sNil)
  (sCons (sSet 8 (bComp [9] (iRng1D (bCall kLen (lCons (bVarR 7) lNil))) (tgName 9) cYes (bTup (lCons (bBin kIx (bVarR 7) (bVarR 9)) (lCons (bBin kAdd (bC (D.int 2)) (bBin kMod (bBin kIx (bVarR 6) (bBin kAdd (bC (D.int 1)) (bVarR 9))) (bBin kSub (bC (D.int 2)) (bCall kInt (lCons (bVarR 5) lNil))))) (lCons (bBin kMod (bBin kIx (bVarR 6) (bBin kAdd (bC (D.int 3)) (bVarR 9))) (bC (D.int 2))) lNil))))))
  (sCons (sSet 10 (bComp [11] (iVarC 2) (tgName 11) (bTst (bBin kGt (bBin kMod (bBin kIx (bVarR 6) (bC (D.int 6))) (bC (D.int 4))) (bC (D.int 0)))) (bTup (lCons (bVar 11) (lCons (bBin kMod (bBin kIx (bVarR 6) (bC (D.int 5))) (bBin kSub (bC (D.int 4)) (bCall kInt (lCons (bVarR 5) lNil)))) lNil)))))
  (sCons (sSet 12 (bLst lNil))
  (sCons (sSet 13 (bCall kList (lCons (bVarR 3) lNil)))
  (sCons (sAsg (tgName 14) (bVar 4))
  (sCons (sFor (iRng1D (bBin kMod (bBin kIx (bVarR 6) (bC (D.int 7))) (bC (D.int 3)))) (tgName 9)
  (lb_law_contract_0 cl))
  (sFrz [13] (sRet (bTup (lCons (bTup (lCons (bVar 0) (lCons (bCall kTuple (lCons (bVarR 8) lNil)) (lCons (bCall kTuple (lCons (bVarR 10) lNil)) (lCons (bCall kTuple (lCons (bVarR 12) lNil)) lNil))))) (lCons (bVar 13) (lCons (bVar 14) lNil)))))))))))))))
theorem snd_law_contract {M : Mo} (h : Stc M) (rt : Rt M) : SndB ⟨N_law_contract, defScope (topS 23), none⟩ M (defBody (topS 23)) (sh_law_contract M.cl) :=
  have hb := h.bn
  have hm := h.cold
  (sb_cons (se 6 (cD (rt.fn "_law_row" (by decide +kernel)) (sl_esc (sn_ix (vr 1) sn_int) (sl_rd sn_int (sl_rd sn_int sl_nil)))))
  (sb_cons (st 7 (sn_sl (SndE.read (SndE.keep (sn_lst (n := 2) (sl_esc sn_str (sl_esc sn_str sl_nil))))) so_none (so_some (sn_bin (SndE.read (sn_ix (vr 6) sn_int)) sn_int os_mod))))
  (sb_cons (ss_if (sn_tru (vr 5))
  (sb_one (st 7 (sn_sl (vr 7) so_none (so_some sn_int))))
  sb_nil)
  (sb_cons (slc hm 8 [("_law_k", 9)] (SndI.toC (rg1 hb (cB hb bu_len (sl_rd (vr 7) sl_nil)))) (tn 9) st_nil (sn_tup (n := 3) (sl_esc (sn_ix (vr 7) (vr 9)) (sl_esc (SndE.keep (sn_bin sn_int (sn_bin (SndE.read (sn_ix (vr 6) (SndE.read (SndE.keep (sn_bin sn_int (vr 9) os_add))))) (sn_bin sn_int (cT hb bu_int (sl_rd (vr 5) sl_nil)) os_sub) os_mod) os_add)) (sl_esc (sn_bin (SndE.read (sn_ix (vr 6) (SndE.read (SndE.keep (sn_bin sn_int (vr 9) os_add))))) sn_int os_mod) sl_nil)))))
  (sb_cons (slc hm 10 [("_law_asset", 11)] (ivc 2) (tn 11) (st_one (sn_tcmp (sn_bin (SndE.read (sn_ix (vr 6) sn_int)) sn_int os_mod) sn_int os_gt (nomark _))) (sn_tup (n := 2) (sl_esc (v1 11) (sl_esc (sn_bin (SndE.read (sn_ix (vr 6) sn_int)) (sn_bin sn_int (cT hb bu_int (sl_rd (vr 5) sl_nil)) os_sub) os_mod) sl_nil))))
  (sb_cons (st 12 (sn_lst (n := 0) sl_nil))
  (sb_cons (st 13 (cT hb bu_list (sl_rd (vr 3) sl_nil)))
  (sb_cons (se 14 (v1 4))
  (sb_cons (ss_for hm (rg1 hb (sn_bin (SndE.read (sn_ix (vr 6) sn_int)) sn_int os_mod)) (tn 9)
  (sb_cons (se 15 (sn_ix (sn_tup (n := 3) (sl_esc sn_int (sl_esc sn_int (sl_esc sn_int sl_nil)))) (sn_bin (SndE.read (sn_ix (vr 6) (SndE.read (SndE.keep (sn_bin sn_int (vr 9) os_add))))) sn_int os_mod)))
  (sb_cons (ss_if (sn_tnot (sn_tru (vr 5)))
  (sb_one (se 15 (sn_ix (sn_tup (n := 5) (sl_esc sn_int (sl_esc sn_int (sl_esc sn_int (sl_esc sn_int (sl_esc sn_int sl_nil)))))) (sn_bin (SndE.read (sn_ix (vr 6) (SndE.read (SndE.keep (sn_bin sn_int (vr 9) os_add))))) sn_int os_mod))))
  sb_nil)
  (sb_cons (se 16 (cD (rt.fn "_law_body" (by decide +kernel)) (sl_rd (SndE.read (cD (rt.fn "_law_row" (by decide +kernel)) (sl_esc (sn_ix (vr 1) (SndE.read (SndE.keep (sn_bin sn_int (vr 9) os_add)))) (sl_rd (SndE.read (SndE.keep (sn_bin sn_int (sn_bin (SndE.read (sn_ix (vr 6) (SndE.read (SndE.keep (sn_bin sn_int (vr 9) os_add))))) sn_int os_mod) os_add))) (sl_rd (sn_bin sn_int sn_int os_pow) sl_nil))))) (sl_rd (vr 7) (sl_rd (vr 2) (sl_rd (vr 13) (sl_esc (v1 14) sl_nil)))))))
  (sb_cons (se 14 (sn_ix (vr 16) sn_int))
  (sb_cons (sap 12 (sn_tup (n := 4) (sl_esc (sn_ix sn_str (vr 9)) (sl_esc (v1 15) (sl_esc (sn_cmp (sn_bin (sn_bin (SndE.read (sn_ix (vr 6) (SndE.read (SndE.keep (sn_bin sn_int (vr 9) os_add))))) sn_int os_fdiv) sn_int os_mod) sn_int os_gt (nomark _)) (sl_esc (sn_ix (vr 16) sn_int) sl_nil))))))
  (sb_cons (slc hm 17 [("_law_statement_here", 18)] (SndI.toC (si_seq (sn_ix (vr 16) sn_int))) (tn 18) (st_one (sn_tcmp (SndE.read (sn_ix (vr 18) sn_int)) sn_str os_eq (nomark _))) (v1 18))
  (sb_one (ss_if (sn_tw (sw_and (sn_tcmp (cB hb bu_len (sl_rd (vr 17) sl_nil)) sn_int os_eq (nomark _)) (sw_and1 (sn_tnot (sn_tru (vr 5))))))
  (sb_one (sap 13 (sn_tup (n := 2) (sl_esc (v1 0) (sl_esc (sn_ix sn_str (vr 9)) sl_nil)))))
  sb_nil)))))))))
  (sb_one (ss_frz (ss_ret (sn_tup (n := 3) (sl_esc (sn_tup (n := 4) (sl_esc (v1 0) (sl_esc (cT hb bu_tuple (sl_rd (vr 8) sl_nil)) (sl_esc (cT hb bu_tuple (sl_rd (vr 10) sl_nil)) (sl_esc (cT hb bu_tuple (sl_rd (vr 12) sl_nil)) sl_nil))))) (sl_esc (v1 13) (sl_esc (v1 14) sl_nil))))))))))))))))
/-! law_house -/
abbrev N_law_house : List Str := ["_law_script", "_law_at", "_law_many", "_law_small", "_law_digits", "_law_assets", "_law_contracts", "_law_known", "_law_left", "_law_k", "_law_cells", "_law_j", "_law_made_here", "_law_asset"]
theorem sc_law_house : FnScope N_law_house ["_law_script", "_law_at", "_law_many", "_law_small"] (defScope (topS 24)) := ⟨rfl, rfl, rfl, by decide +kernel, rfl, by decide +kernel, by decide +kernel⟩
def lb_law_house_0 (cl : Calls) : FS :=
  (sCons (sSet 10 (bComp [11] (iRng1D (bC (D.int 3))) (tgName 11) cYes (bDef cl "_law_cell" [.rd, .rd] (lCons (bVarR 0) (lCons (bBin kAdd (bBin kAdd (bBin kAdd (bVarR 1) (bC (D.int 1))) (bBin kMulL (bC (D.int 3)) (bVarR 9))) (bVarR 11)) lNil)))))
  (sCons (sAsg (tgName 12) (bDef cl "_law_contract" [.esc, .rd, .rd, .rd, .esc, .rd] (lCons (bBin kIx (bC (D.str "cd")) (bVarR 9)) (lCons (bVarR 10) (lCons (bVarR 5) (lCons (bVarR 7) (lCons (bVar 8) (lCons (bVarR 3) lNil))))))))
  (sCons (sApp 6 (bBin kIx (bVarR 12) (bC (D.int 0))))
  (sCons (sAsg (tgName 7) (bBin kIx (bVarR 12) (bC (D.int 1))))
  (sAsg (tgName 8) (bBin kIx (bVarR 12) (bC (D.int 2))))))))
def sh_law_house (cl : Calls) : FS :=
  (sCons (sAsg (tgName 4) (bDef cl "_law_row" [.esc, .rd, .rd] (lCons (bDef cl "_law_cell" [.rd, .rd] (lCons (bVarR 0) (lCons (bVarR 1) lNil))) (lCons (bC (D.int 4)) (lCons (bC (D.int 60)) lNil)))))
  (sCons (sSet 5 (bSl (bLst (lCons (bC (D.str "a")) (lCons (bC (D.str "b")) lNil))) oNone (oSome (bCall kMin2 (lCons (bBin kMod (bBin kIx (bVarR 4) (bC (D.int 0))) (bC (D.int 3))) (lCons (bBin kSub (bC (D.int 2)) (bCall kInt (lCons (bVarR 3) lNil))) lNil))))))
  (sCons (sSet 6 (bLst lNil))
  (sCons (sSet 7 (bLst lNil))
  (sCons (sSet 8 (bC (D.int 2)))
  (sCons (sIf (bTru (bVarR 3))
  (sSet 8 (bBin kAdd (bC (D.int 1)) (bBin kMod (bBin kIx (bVarR 4) (bC (D.int 3))) (bC (D.int 2)))))
  sNil)
  (sCons (sFor (iRng1D (bBin kAdd (bC (D.int 1)) (bBin kMod (bBin kIx (bVarR 4) (bC (D.int 1))) (bVarR 2)))) (tgName 9)
  (lb_law_house_0 cl))
  (sFrz [6] (sRet (bTup (lCons (bComp [13] (iVarC 5) (tgName 13) cYes (bTup (lCons (bVar 13) (lCons (bBin kMod (bBin kIx (bVarR 4) (bC (D.int 2))) (bBin kSub (bC (D.int 3)) (bCall kInt (lCons (bVarR 3) lNil)))) lNil)))) (lCons (bVar 6) lNil))))))))))))
theorem snd_law_house {M : Mo} (h : Stc M) (rt : Rt M) : SndB ⟨N_law_house, defScope (topS 24), none⟩ M (defBody (topS 24)) (sh_law_house M.cl) :=
  have hb := h.bn
  have hm := h.cold
  (sb_cons (se 4 (cD (rt.fn "_law_row" (by decide +kernel)) (sl_esc (cD (rt.fn "_law_cell" (by decide +kernel)) (sl_rd (vr 0) (sl_rd (vr 1) sl_nil))) (sl_rd sn_int (sl_rd sn_int sl_nil)))))
  (sb_cons (st 5 (sn_sl (SndE.read (SndE.keep (sn_lst (n := 2) (sl_esc sn_str (sl_esc sn_str sl_nil))))) so_none (so_some (cB hb (bu_min2 hm) (sl_rd (sn_bin (SndE.read (sn_ix (vr 4) sn_int)) sn_int os_mod) (sl_rd (sn_bin sn_int (cT hb bu_int (sl_rd (vr 3) sl_nil)) os_sub) sl_nil))))))
  (sb_cons (st 6 (sn_lst (n := 0) sl_nil))
  (sb_cons (st 7 (sn_lst (n := 0) sl_nil))
  (sb_cons (st 8 sn_int)
  (sb_cons (ss_if (sn_tru (vr 3))
  (sb_one (st 8 (sn_bin sn_int (sn_bin (SndE.read (sn_ix (vr 4) sn_int)) sn_int os_mod) os_add)))
  sb_nil)
  (sb_cons (ss_for hm (rg1 hb (SndE.read (SndE.keep (sn_bin sn_int (sn_bin (SndE.read (sn_ix (vr 4) sn_int)) (vr 2) os_mod) os_add)))) (tn 9)
  (sb_cons (slc hm 10 [("_law_j", 11)] (SndI.toC (rg1 hb sn_int)) (tn 11) st_nil (cD (rt.fn "_law_cell" (by decide +kernel)) (sl_rd (vr 0) (sl_rd (SndE.read (SndE.keep (sn_bin (SndE.read (SndE.keep (sn_bin (SndE.read (SndE.keep (sn_bin (vr 1) sn_int os_add))) (SndE.read (SndE.keep (sn_bin sn_int (vr 9) os_mulL))) os_add))) (vr 11) os_add))) sl_nil))))
  (sb_cons (se 12 (cD (rt.fn "_law_contract" (by decide +kernel)) (sl_esc (sn_ix sn_str (vr 9)) (sl_rd (vr 10) (sl_rd (vr 5) (sl_rd (vr 7) (sl_esc (v1 8) (sl_rd (vr 3) sl_nil))))))))
  (sb_cons (sap 6 (sn_ix (vr 12) sn_int))
  (sb_cons (se 7 (sn_ix (vr 12) sn_int))
  (sb_one (se 8 (sn_ix (vr 12) sn_int))))))))
  (sb_one (ss_frz (ss_ret (sn_tup (n := 2) (sl_esc (SndE.keep (lc hm [("_law_asset", 13)] (ivc 5) (tn 13) st_nil (sn_tup (n := 2) (sl_esc (v1 13) (sl_esc (sn_bin (SndE.read (sn_ix (vr 4) sn_int)) (sn_bin sn_int (cT hb bu_int (sl_rd (vr 3) sl_nil)) os_sub) os_mod) sl_nil))))) (sl_esc (v1 6) sl_nil)))))))))))))
/-! law_guard -/
abbrev N_law_guard : List Str := ["_law_cell_here", "_law_house_here", "_law_kind", "_law_rest", "_law_contract_here"]
theorem sc_law_guard : FnScope N_law_guard ["_law_cell_here", "_law_house_here"] (defScope (topS 25)) := ⟨rfl, rfl, rfl, by decide +kernel, rfl, by decide +kernel, by decide +kernel⟩
def sh_law_guard (cl : Calls) : FS :=
  (sCons (sSet 2 (bBin kMod (bCall kInt (lCons (bVarR 0) lNil)) (bC (D.int 3))))
  (sCons (sSet 3 (bBin kFdiv (bCall kInt (lCons (bVarR 0) lNil)) (bC (D.int 3))))
  (sCons (sAsg (tgName 4) (bBin kIx (bC (D.str "cd")) (bBin kMod (bVarR 3) (bC (D.int 2)))))
  (sCons (sIf (bTst (bBin kGt (bBin kMod (bBin kFdiv (bVarR 3) (bC (D.int 2))) (bC (D.int 4))) (bC (D.int 0))))
  (sAsg (tgName 4) (bBin kIx (bBin kIx (bBin kIx (bVarR 1) (bC (D.int 1))) (bBin kMod (bBin kFdiv (bVarR 3) (bC (D.int 2))) (bCall kLen (lCons (bBin kIx (bVarR 1) (bC (D.int 1))) lNil)))) (bC (D.int 0))))
  sNil)
  (sCons (sIf (bTst (bBin kEq (bVarR 2) (bC (D.int 0))))
  (sRet (bTup (lCons (bC (D.str "hide")) (lCons (bVar 4) (lCons (bBin kIx (bC (D.str "pq")) (bBin kMod (bBin kFdiv (bVarR 3) (bC (D.int 24))) (bC (D.int 2)))) lNil)))))
  sNil)
  (sCons (sIf (bTst (bBin kEq (bVarR 2) (bC (D.int 1))))
  (sRet (bTup (lCons (bC (D.str "lock")) (lCons (bVar 4) lNil))))
  sNil)
  (sRet (bTup (lCons (bC (D.str "floor")) (lCons (bVar 4) (lCons (bBin kIx (bC (D.str "ab")) (bBin kFdiv (bBin kMod (bBin kFdiv (bVarR 3) (bC (D.int 24))) (bC (D.int 5))) (bC (D.int 4)))) (lCons (bBin kMod (bBin kFdiv (bVarR 3) (bC (D.int 120))) (bC (D.int 3))) lNil))))))))))))
theorem snd_law_guard {M : Mo} (h : Stc M) (rt : Rt M) : SndB ⟨N_law_guard, defScope (topS 25), none⟩ M (defBody (topS 25)) (sh_law_guard M.cl) :=
  have hb := h.bn
  have hm := h.cold
  (sb_cons (st 2 (sn_bin (cT hb bu_int (sl_rd (vr 0) sl_nil)) sn_int os_mod))
  (sb_cons (st 3 (sn_bin (cT hb bu_int (sl_rd (vr 0) sl_nil)) sn_int os_fdiv))
  (sb_cons (se 4 (sn_ix sn_str (sn_bin (vr 3) sn_int os_mod)))
  (sb_cons (ss_if (sn_tcmp (sn_bin (sn_bin (vr 3) sn_int os_fdiv) sn_int os_mod) sn_int os_gt (nomark _))
  (sb_one (se 4 (sn_ix (SndE.read (sn_ix (SndE.read (sn_ix (vr 1) sn_int)) (sn_bin (sn_bin (vr 3) sn_int os_fdiv) (cB hb bu_len (sl_rd (SndE.read (sn_ix (vr 1) sn_int)) sl_nil)) os_mod))) sn_int)))
  sb_nil)
  (sb_cons (ss_if (sn_tcmp (vr 2) sn_int os_eq (nomark _))
  (sb_one (ss_ret (sn_tup (n := 3) (sl_esc sn_str (sl_esc (v1 4) (sl_esc (sn_ix sn_str (sn_bin (sn_bin (vr 3) sn_int os_fdiv) sn_int os_mod)) sl_nil))))))
  sb_nil)
  (sb_cons (ss_if (sn_tcmp (vr 2) sn_int os_eq (nomark _))
  (sb_one (ss_ret (sn_tup (n := 2) (sl_esc sn_str (sl_esc (v1 4) sl_nil)))))
  sb_nil)
  (sb_one (ss_ret (sn_tup (n := 4) (sl_esc sn_str (sl_esc (v1 4) (sl_esc (sn_ix sn_str (sn_bin (sn_bin (sn_bin (vr 3) sn_int os_fdiv) sn_int os_mod) sn_int os_fdiv)) (sl_esc (sn_bin (sn_bin (vr 3) sn_int os_fdiv) sn_int os_mod) sl_nil)))))))))))))
/-! law_fits -/
abbrev N_law_fits : List Str := ["_law_house_here", "_law_guard_here", "_law_contract_here", "_law_proc", "_law_variable", "_law_asset"]
theorem sc_law_fits : FnScope N_law_fits ["_law_house_here", "_law_guard_here"] (defScope (topS 26)) := ⟨rfl, rfl, rfl, by decide +kernel, rfl, by decide +kernel, by decide +kernel⟩
def lb_law_fits_0 (cl : Calls) : FS :=
  (sIf (bTst (bBin kEq (bBin kIx (bVarR 2) (bC (D.int 0))) (bBin kIx (bVarR 1) (bC (D.int 1)))))
  (sCons (sIf (bTst (bBin kEq (bBin kIx (bVarR 1) (bC (D.int 0))) (bC (D.str "hide"))))
  (sRet (bBin kIn (bTup (lCons (bBin kIx (bVarR 1) (bC (D.int 2))) (lCons (bC (D.bl true)) lNil))) (bComp [3] (iSeq (bBin kIx (bVarR 2) (bC (D.int 3)))) (tgName 3) cYes (bTup (lCons (bBin kIx (bVarR 3) (bC (D.int 0))) (lCons (bBin kIx (bVarR 3) (bC (D.int 2))) lNil))))))
  sNil)
  (sCons (sIf (bTst (bBin kEq (bBin kIx (bVarR 1) (bC (D.int 0))) (bC (D.str "lock"))))
  (sRet (bBin kNotIn (bC (D.str "lock")) (bComp [4] (iSeq (bBin kIx (bVarR 2) (bC (D.int 1)))) (tgName 4) cYes (bBin kIx (bVarR 4) (bC (D.int 0))))))
  sNil)
  (sRet (bBin kIn (bBin kIx (bVarR 1) (bC (D.int 2))) (bComp [5] (iSeq (bBin kIx (bVarR 0) (bC (D.int 0)))) (tgName 5) cYes (bBin kIx (bVarR 5) (bC (D.int 0))))))))
  sNil)
def sh_law_fits (cl : Calls) : FS :=
  (sCons (sFor (iSeq (bBin kIx (bVarR 0) (bC (D.int 1)))) (tgName 2)
  (lb_law_fits_0 cl))
  (sRet (bC (D.bl false))))
theorem snd_law_fits {M : Mo} (h : Stc M) (rt : Rt M) : SndB ⟨N_law_fits, defScope (topS 26), none⟩ M (defBody (topS 26)) (sh_law_fits M.cl) :=
  have hb := h.bn
  have hm := h.cold
  (sb_cons (ss_for hm (si_seq (sn_ix (vr 0) sn_int)) (tn 2)
  (sb_one (ss_if (sn_tcmp (SndE.read (sn_ix (vr 2) sn_int)) (SndE.read (sn_ix (vr 1) sn_int)) os_eq (nomark _))
  (sb_cons (ss_if (sn_tcmp (SndE.read (sn_ix (vr 1) sn_int)) sn_str os_eq (nomark _))
  (sb_one (ss_ret (sn_cmp (sn_tup (n := 2) (sl_esc (sn_ix (vr 1) sn_int) (sl_esc sn_bl sl_nil))) (SndE.read (SndE.keep (lc hm [("_law_proc", 3)] (SndI.toC (si_seq (sn_ix (vr 2) sn_int))) (tn 3) st_nil (sn_tup (n := 2) (sl_esc (sn_ix (vr 3) sn_int) (sl_esc (sn_ix (vr 3) sn_int) sl_nil)))))) os_in (by rfl))))
  sb_nil)
  (sb_cons (ss_if (sn_tcmp (SndE.read (sn_ix (vr 1) sn_int)) sn_str os_eq (nomark _))
  (sb_one (ss_ret (sn_cmp sn_str (SndE.read (SndE.keep (lc hm [("_law_variable", 4)] (SndI.toC (si_seq (sn_ix (vr 2) sn_int))) (tn 4) st_nil (sn_ix (vr 4) sn_int)))) os_notIn (by rfl))))
  sb_nil)
  (sb_one (ss_ret (sn_cmp (SndE.read (sn_ix (vr 1) sn_int)) (SndE.read (SndE.keep (lc hm [("_law_asset", 5)] (SndI.toC (si_seq (sn_ix (vr 0) sn_int))) (tn 5) st_nil (sn_ix (vr 5) sn_int)))) os_in (by rfl))))))
  sb_nil)))
  (sb_one (ss_ret sn_bl)))
/-! law_fenced -/
abbrev N_law_fenced : List Str := ["_law_proc", "_law_own", "_law_block", "_law_name", "_law_guard_here", "_law_low", "_law_hidden"]
theorem sc_law_fenced : FnScope N_law_fenced ["_law_proc", "_law_own"] (defScope (topS 27)) := ⟨rfl, rfl, rfl, by decide +kernel, rfl, by decide +kernel, by decide +kernel⟩
def lb_law_fenced_0 (cl : Calls) : FS :=
  (sIf (bTst (bBin kEq (bBin kIx (bVarR 4) (bC (D.int 0))) (bC (D.str "floor"))))
  (sCons (sSet 5 (bTup (lCons (bC (D.str "<")) (lCons (bTup (lCons (bC (D.str "have")) (lCons (bBin kIx (bVarR 4) (bC (D.int 2))) lNil))) (lCons (bTup (lCons (bC (D.str "number")) (lCons (bBin kIx (bVarR 4) (bC (D.int 3))) lNil))) lNil)))))
  (sSet 2 (bBin kAdd (bVarR 2) (bTup (lCons (bTup (lCons (bC (D.str "need")) (lCons (bTup (lCons (bC (D.str "=")) (lCons (bVar 5) (lCons (bTup (lCons (bC (D.str "number")) (lCons (bC (D.int 0)) lNil))) lNil)))) lNil))) lNil)))))
  sNil)
def sh_law_fenced (cl : Calls) : FS :=
  (sCons (sAsg (tgName 2) (bBin kIx (bVarR 0) (bC (D.int 3))))
  (sCons (sSet 3 (bTup (lCons (bC (D.str "variable")) (lCons (bC (D.str "lock")) lNil))))
  (sCons (sIf (bTst (bBin kIn (bTup (lCons (bC (D.str "lock")) lNil)) (bComp [4] (iVarC 1) (tgName 4) cYes (bSl (bVarR 4) oNone (oSome (bC (D.int 1)))))))
  (sCons (sSet 2 (bBin kAdd (bTup (lCons (bTup (lCons (bC (D.str "need")) (lCons (bTup (lCons (bC (D.str "=")) (lCons (bVar 3) (lCons (bTup (lCons (bC (D.str "number")) (lCons (bC (D.int 0)) lNil))) lNil)))) lNil))) (lCons (bTup (lCons (bC (D.str "set")) (lCons (bC (D.str "lock")) (lCons (bTup (lCons (bC (D.str "number")) (lCons (bC (D.int 1)) lNil))) lNil)))) lNil))) (bVarR 2)))
  (sSet 2 (bBin kAdd (bVarR 2) (bTup (lCons (bTup (lCons (bC (D.str "set")) (lCons (bC (D.str "lock")) (lCons (bTup (lCons (bC (D.str "number")) (lCons (bC (D.int 0)) lNil))) lNil)))) lNil)))))
  sNil)
  (sCons (sFor (iVar 1) (tgName 4)
  (lb_law_fenced_0 cl))
  (sCons (sSet 6 (bComp [4] (iVarC 1) (tgName 4) (bTst (bBin kEq (bBin kIx (bVarR 4) (bC (D.int 0))) (bC (D.str "hide")))) (bBin kIx (bVarR 4) (bC (D.int 2)))))
  (sRet (bTup (lCons (bBin kIx (bVarR 0) (bC (D.int 0))) (lCons (bBin kIx (bVarR 0) (bC (D.int 1))) (lCons (bBin kNotIn (bBin kIx (bVarR 0) (bC (D.int 0))) (bVarR 6)) (lCons (bVar 2) lNil)))))))))))
theorem snd_law_fenced {M : Mo} (h : Stc M) (rt : Rt M) : SndB ⟨N_law_fenced, defScope (topS 27), none⟩ M (defBody (topS 27)) (sh_law_fenced M.cl) :=
  have hb := h.bn
  have hm := h.cold
  (sb_cons (se 2 (sn_ix (vr 0) sn_int))
  (sb_cons (st 3 (sn_tup (n := 2) (sl_esc sn_str (sl_esc sn_str sl_nil))))
  (sb_cons (ss_if (sn_tcmp (sn_tup (n := 1) (sl_esc sn_str sl_nil)) (SndE.read (SndE.keep (lc hm [("_law_guard_here", 4)] (ivc 1) (tn 4) st_nil (SndE.keep (sn_sl (vr 4) so_none (so_some sn_int)))))) os_in (by rfl))
  (sb_cons (st 2 (sn_bin (sn_tup (n := 2) (sl_esc (sn_tup (n := 2) (sl_esc sn_str (sl_esc (sn_tup (n := 3) (sl_esc sn_str (sl_esc (v1 3) (sl_esc (sn_tup (n := 2) (sl_esc sn_str (sl_esc sn_int sl_nil))) sl_nil)))) sl_nil))) (sl_esc (sn_tup (n := 3) (sl_esc sn_str (sl_esc sn_str (sl_esc (sn_tup (n := 2) (sl_esc sn_str (sl_esc sn_int sl_nil))) sl_nil)))) sl_nil))) (vr 2) os_add))
  (sb_one (st 2 (sn_bin (vr 2) (sn_tup (n := 1) (sl_esc (sn_tup (n := 3) (sl_esc sn_str (sl_esc sn_str (sl_esc (sn_tup (n := 2) (sl_esc sn_str (sl_esc sn_int sl_nil))) sl_nil)))) sl_nil)) os_add))))
  sb_nil)
  (sb_cons (ss_for hm (iv 1) (tn 4)
  (sb_one (ss_if (sn_tcmp (SndE.read (sn_ix (vr 4) sn_int)) sn_str os_eq (nomark _))
  (sb_cons (st 5 (sn_tup (n := 3) (sl_esc sn_str (sl_esc (sn_tup (n := 2) (sl_esc sn_str (sl_esc (sn_ix (vr 4) sn_int) sl_nil))) (sl_esc (sn_tup (n := 2) (sl_esc sn_str (sl_esc (sn_ix (vr 4) sn_int) sl_nil))) sl_nil)))))
  (sb_one (st 2 (sn_bin (vr 2) (sn_tup (n := 1) (sl_esc (sn_tup (n := 2) (sl_esc sn_str (sl_esc (sn_tup (n := 3) (sl_esc sn_str (sl_esc (v1 5) (sl_esc (sn_tup (n := 2) (sl_esc sn_str (sl_esc sn_int sl_nil))) sl_nil)))) sl_nil))) sl_nil)) os_add))))
  sb_nil)))
  (sb_cons (slc hm 6 [("_law_guard_here", 4)] (ivc 1) (tn 4) (st_one (sn_tcmp (SndE.read (sn_ix (vr 4) sn_int)) sn_str os_eq (nomark _))) (sn_ix (vr 4) sn_int))
  (sb_one (ss_ret (sn_tup (n := 4) (sl_esc (sn_ix (vr 0) sn_int) (sl_esc (sn_ix (vr 0) sn_int) (sl_esc (sn_cmp (SndE.read (sn_ix (vr 0) sn_int)) (vr 6) os_notIn (by rfl)) (sl_esc (v1 2) sl_nil))))))))))))
/-! law_guarded -/
abbrev N_law_guarded : List Str := ["_law_house_here", "_law_guards", "_law_contracts", "_law_contract_here", "_law_own", "_law_guard_here", "_law_variables", "_law_procs", "_law_proc"]
theorem sc_law_guarded : FnScope N_law_guarded ["_law_house_here", "_law_guards"] (defScope (topS 28)) := ⟨rfl, rfl, rfl, by decide +kernel, rfl, by decide +kernel, by decide +kernel⟩
def lb_law_guarded_0 (cl : Calls) : FS :=
  (sIf (bTru (bBin kIx (bVarR 8) (bC (D.int 2))))
  (sApp 7 (bDef cl "_law_fenced" [.rd, .rd] (lCons (bVarR 8) (lCons (bVarR 4) lNil))))
  (sApp 7 (bVar 8)))
def lb_law_guarded_1 (cl : Calls) : FS :=
  (sCons (sSet 4 (bComp [5] (iVarC 1) (tgName 5) (bTst (bBin kEq (bBin kIx (bVarR 5) (bC (D.int 1))) (bBin kIx (bVarR 3) (bC (D.int 0))))) (bVar 5)))
  (sCons (sAsg (tgName 6) (bBin kIx (bVarR 3) (bC (D.int 1))))
  (sCons (sIf (bTst (bBin kIn (bTup (lCons (bC (D.str "lock")) lNil)) (bComp [5] (iVarC 4) (tgName 5) cYes (bSl (bVarR 5) oNone (oSome (bC (D.int 1)))))))
  (sSet 6 (bBin kAdd (bVarR 6) (bTup (lCons (bTup (lCons (bC (D.str "lock")) (lCons (bC (D.int 2)) (lCons (bC (D.int 0)) lNil)))) lNil))))
  sNil)
  (sCons (sSet 7 (bLst lNil))
  (sCons (sFor (iSeq (bBin kIx (bVarR 3) (bC (D.int 3)))) (tgName 8)
  (lb_law_guarded_0 cl))
  (sApp 2 (bTup (lCons (bBin kIx (bVarR 3) (bC (D.int 0))) (lCons (bVar 6) (lCons (bBin kIx (bVarR 3) (bC (D.int 2))) (lCons (bCall kTuple (lCons (bVarR 7) lNil)) lNil)))))))))))
def sh_law_guarded (cl : Calls) : FS :=
  (sCons (sSet 2 (bLst lNil))
  (sCons (sFor (iSeq (bBin kIx (bVarR 0) (bC (D.int 1)))) (tgName 3)
  (lb_law_guarded_1 cl))
  (sFrz [2] (sRet (bTup (lCons (bBin kIx (bVarR 0) (bC (D.int 0))) (lCons (bVar 2) lNil)))))))
theorem snd_law_guarded {M : Mo} (h : Stc M) (rt : Rt M) : SndB ⟨N_law_guarded, defScope (topS 28), none⟩ M (defBody (topS 28)) (sh_law_guarded M.cl) :=
  have hb := h.bn
  have hm := h.cold
  (sb_cons (st 2 (sn_lst (n := 0) sl_nil))
  (sb_cons (ss_for hm (si_seq (sn_ix (vr 0) sn_int)) (tn 3)
  (sb_cons (slc hm 4 [("_law_guard_here", 5)] (ivc 1) (tn 5) (st_one (sn_tcmp (SndE.read (sn_ix (vr 5) sn_int)) (SndE.read (sn_ix (vr 3) sn_int)) os_eq (nomark _))) (v1 5))
  (sb_cons (se 6 (sn_ix (vr 3) sn_int))
  (sb_cons (ss_if (sn_tcmp (sn_tup (n := 1) (sl_esc sn_str sl_nil)) (SndE.read (SndE.keep (lc hm [("_law_guard_here", 5)] (ivc 4) (tn 5) st_nil (SndE.keep (sn_sl (vr 5) so_none (so_some sn_int)))))) os_in (by rfl))
  (sb_one (st 6 (sn_bin (vr 6) (sn_tup (n := 1) (sl_esc (sn_tup (n := 3) (sl_esc sn_str (sl_esc sn_int (sl_esc sn_int sl_nil)))) sl_nil)) os_add)))
  sb_nil)
  (sb_cons (st 7 (sn_lst (n := 0) sl_nil))
  (sb_cons (ss_for hm (si_seq (sn_ix (vr 3) sn_int)) (tn 8)
  (sb_one (ss_if (sn_tru (SndE.read (sn_ix (vr 8) sn_int)))
  (sb_one (sap 7 (cD (rt.fn "_law_fenced" (by decide +kernel)) (sl_rd (vr 8) (sl_rd (vr 4) sl_nil)))))
  (sb_one (sap 7 (v1 8))))))
  (sb_one (sap 2 (sn_tup (n := 4) (sl_esc (sn_ix (vr 3) sn_int) (sl_esc (v1 6) (sl_esc (sn_ix (vr 3) sn_int) (sl_esc (cT hb bu_tuple (sl_rd (vr 7) sl_nil)) sl_nil)))))))))))))
  (sb_one (ss_frz (ss_ret (sn_tup (n := 2) (sl_esc (sn_ix (vr 0) sn_int) (sl_esc (v1 2) sl_nil))))))))
/-! law_made -/
abbrev N_law_made : List Str := ["_law_house_here"]
theorem sc_law_made : FnScope N_law_made ["_law_house_here"] (defScope (topS 29)) := ⟨rfl, rfl, rfl, by decide +kernel, rfl, by decide +kernel, by decide +kernel⟩
def sh_law_made (cl : Calls) : FS :=
  (sRet (bMk cl "House" [.rd, .rd] (lCons (bCall kTuple (lCons (bBin kIx (bVarR 0) (bC (D.int 0))) lNil)) (lCons (bCall kTuple (lCons (bBin kIx (bVarR 0) (bC (D.int 1))) lNil)) lNil)) []))
theorem snd_law_made {M : Mo} (h : Stc M) (rt : Rt M) : SndB ⟨N_law_made, defScope (topS 29), none⟩ M (defBody (topS 29)) (sh_law_made M.cl) :=
  have hb := h.bn
  have hm := h.cold
  (sb_one (ss_ret (mk hm rt.k_House (sl_rd (cT hb bu_tuple (sl_rd (SndE.read (sn_ix (vr 0) sn_int)) sl_nil)) (sl_rd (cT hb bu_tuple (sl_rd (SndE.read (sn_ix (vr 0) sn_int)) sl_nil)) sl_nil)))))
/-! law_called -/
abbrev N_law_called : List Str := ["_law_house_here", "_law_names", "_law_key", "_law_name", "_law_contracts", "_law_contract_here", "_law_variables", "_law_row_here", "_law_holds", "_law_procs", "_law_proc"]
theorem sc_law_called : FnScope N_law_called ["_law_house_here"] (defScope (topS 30)) := ⟨rfl, rfl, rfl, by decide +kernel, rfl, by decide +kernel, by decide +kernel⟩
def lb_law_called_0 (cl : Calls) : FS :=
  (sDPut' (bVarR 1) (bVarR 2) (bVar 3))
def lb_law_called_1 (cl : Calls) : FS :=
  (sCons (sSet 6 (bCall kTuple (lCons (bComp [7] (iSeq (bBin kIx (bVarR 5) (bC (D.int 1)))) (tgName 7) cYes (bBin kAdd (bTup (lCons (bBin kDGet (bVarR 1) (bBin kIx (bVarR 7) (bC (D.int 0)))) lNil)) (bSl (bVarR 7) (oSome (bC (D.int 1))) oNone))) lNil)))
  (sCons (sSet 8 (bCall kTuple (lCons (bComp [7] (iSeq (bBin kIx (bVarR 5) (bC (D.int 2)))) (tgName 7) cYes (bTup (lCons (bBin kDGet (bVarR 1) (bBin kIx (bVarR 7) (bC (D.int 0)))) (lCons (bBin kIx (bVarR 7) (bC (D.int 1))) lNil)))) lNil)))
  (sCons (sSet 9 (bComp [10] (iSeq (bBin kIx (bVarR 5) (bC (D.int 3)))) (tgName 10) cYes (bTup (lCons (bBin kDGet (bVarR 1) (bBin kIx (bVarR 10) (bC (D.int 0)))) (lCons (bBin kIx (bVarR 10) (bC (D.int 1))) (lCons (bBin kIx (bVarR 10) (bC (D.int 2))) (lCons (bDef cl "_law_called_block" [.rd, .rd] (lCons (bBin kIx (bVarR 10) (bC (D.int 3))) (lCons (bVarR 1) lNil))) lNil)))))))
  (sApp 4 (bTup (lCons (bBin kDGet (bVarR 1) (bBin kIx (bVarR 5) (bC (D.int 0)))) (lCons (bVar 6) (lCons (bVar 8) (lCons (bCall kTuple (lCons (bVarR 9) lNil)) lNil)))))))))
def sh_law_called (cl : Calls) : FS :=
  (sCons (sAsg (tgName 1) (bDisp [((bC (D.str "a")), (bC (D.str "paid"))), ((bC (D.str "b")), (bC (D.str "paid1"))), ((bC (D.str "z")), (bC (D.str "paid12"))), ((bC (D.str "x")), (bC (D.str "paid"))), ((bC (D.str "y")), (bC (D.str "lock"))), ((bC (D.str "lock")), (bC (D.str "lock"))), ((bC (D.str "p")), (bC (D.str "paying"))), ((bC (D.str "q")), (bC (D.str "payinga")))]))
  (sCons (sFor (iSeq (bTup (lCons (bTup (lCons (bC (D.str "r")) (lCons (bC (D.str "payingab")) lNil))) (lCons (bTup (lCons (bC (D.str "c")) (lCons (bC (D.str "houses0hold1")) lNil))) (lCons (bTup (lCons (bC (D.str "d")) (lCons (bC (D.str "houses0hold2")) lNil))) (lCons (bTup (lCons (bC (D.str "e")) (lCons (bC (D.str "houses0hold")) lNil))) (lCons (bTup (lCons (bC (D.str "f")) (lCons (bC (D.str "paid")) lNil))) lNil))))))) (tgTup (tgCons (tgName 2) (tgCons (tgName 3) tgNil)))
  (lb_law_called_0 cl))
  (sCons (sSet 4 (bLst lNil))
  (sCons (sFor (iSeq (bBin kIx (bVarR 0) (bC (D.int 1)))) (tgName 5)
  (lb_law_called_1 cl))
  (sFrz [4] (sRet (bTup (lCons (bComp [7] (iSeq (bBin kIx (bVarR 0) (bC (D.int 0)))) (tgName 7) cYes (bTup (lCons (bBin kDGet (bVarR 1) (bBin kIx (bVarR 7) (bC (D.int 0)))) (lCons (bBin kIx (bVarR 7) (bC (D.int 1))) lNil)))) (lCons (bVar 4) lNil)))))))))
theorem snd_law_called {M : Mo} (h : Stc M) (rt : Rt M) : SndB ⟨N_law_called, defScope (topS 30), none⟩ M (defBody (topS 30)) (sh_law_called M.cl) :=
  have hb := h.bn
  have hm := h.cold
  (sb_cons (se 1 (sn_disp (sp_cons sn_str sn_str (sp_cons sn_str sn_str (sp_cons sn_str sn_str (sp_cons sn_str sn_str (sp_cons sn_str sn_str (sp_cons sn_str sn_str (sp_cons sn_str sn_str (sp_cons sn_str sn_str sp_nil))))))))))
  (sb_cons (ss_for hm (si_seq (sn_tup (n := 5) (sl_esc (sn_tup (n := 2) (sl_esc sn_str (sl_esc sn_str sl_nil))) (sl_esc (sn_tup (n := 2) (sl_esc sn_str (sl_esc sn_str sl_nil))) (sl_esc (sn_tup (n := 2) (sl_esc sn_str (sl_esc sn_str sl_nil))) (sl_esc (sn_tup (n := 2) (sl_esc sn_str (sl_esc sn_str sl_nil))) (sl_esc (sn_tup (n := 2) (sl_esc sn_str (sl_esc sn_str sl_nil))) sl_nil))))))) (sg_tup hm (sgs_cons (tn 2) (sgs_cons (tn 3) sgs_nil)) (tgCons_len (tgCons_len tgNil_len)))
  (sb_one (ss_dput (vr 1) (vr 2) (v1 3))))
  (sb_cons (st 4 (sn_lst (n := 0) sl_nil))
  (sb_cons (ss_for hm (si_seq (sn_ix (vr 0) sn_int)) (tn 5)
  (sb_cons (st 6 (cT hb bu_tuple (sl_rd (SndE.read (SndE.keep (lc hm [("_law_row_here", 7)] (SndI.toC (si_seq (sn_ix (vr 5) sn_int))) (tn 7) st_nil (SndE.keep (sn_bin (sn_tup (n := 1) (sl_esc (sn_dget (vr 1) (SndE.read (sn_ix (vr 7) sn_int))) sl_nil)) (SndE.read (SndE.keep (sn_sl (vr 7) (so_some sn_int) so_none))) os_add))))) sl_nil)))
  (sb_cons (st 8 (cT hb bu_tuple (sl_rd (SndE.read (SndE.keep (lc hm [("_law_row_here", 7)] (SndI.toC (si_seq (sn_ix (vr 5) sn_int))) (tn 7) st_nil (sn_tup (n := 2) (sl_esc (sn_dget (vr 1) (SndE.read (sn_ix (vr 7) sn_int))) (sl_esc (sn_ix (vr 7) sn_int) sl_nil)))))) sl_nil)))
  (sb_cons (slc hm 9 [("_law_proc", 10)] (SndI.toC (si_seq (sn_ix (vr 5) sn_int))) (tn 10) st_nil (sn_tup (n := 4) (sl_esc (sn_dget (vr 1) (SndE.read (sn_ix (vr 10) sn_int))) (sl_esc (sn_ix (vr 10) sn_int) (sl_esc (sn_ix (vr 10) sn_int) (sl_esc (cD (rt.fn "_law_called_block" (by decide +kernel)) (sl_rd (SndE.read (sn_ix (vr 10) sn_int)) (sl_rd (vr 1) sl_nil))) sl_nil))))))
  (sb_one (sap 4 (sn_tup (n := 4) (sl_esc (sn_dget (vr 1) (SndE.read (sn_ix (vr 5) sn_int))) (sl_esc (v1 6) (sl_esc (v1 8) (sl_esc (cT hb bu_tuple (sl_rd (vr 9) sl_nil)) sl_nil)))))))))))
  (sb_one (ss_frz (ss_ret (sn_tup (n := 2) (sl_esc (SndE.keep (lc hm [("_law_row_here", 7)] (SndI.toC (si_seq (sn_ix (vr 0) sn_int))) (tn 7) st_nil (sn_tup (n := 2) (sl_esc (sn_dget (vr 1) (SndE.read (sn_ix (vr 7) sn_int))) (sl_esc (sn_ix (vr 7) sn_int) sl_nil))))) (sl_esc (v1 4) sl_nil))))))))))
/-! law_called_value -/
abbrev N_law_called_value : List Str := ["_law_value", "_law_names"]
theorem sc_law_called_value : FnScope N_law_called_value ["_law_value", "_law_names"] (defScope (topS 31)) := ⟨rfl, rfl, rfl, by decide +kernel, rfl, by decide +kernel, by decide +kernel⟩
def sh_law_called_value (cl : Calls) : FS :=
  (sCons (sIf (bTst (bBin kIn (bBin kIx (bVarR 0) (bC (D.int 0))) (bTup (lCons (bC (D.str "variable")) (lCons (bC (D.str "have")) (lCons (bC (D.str "out")) lNil))))))
  (sRet (bTup (lCons (bBin kIx (bVarR 0) (bC (D.int 0))) (lCons (bBin kDGet (bVarR 1) (bBin kIx (bVarR 0) (bC (D.int 1)))) lNil))))
  sNil)
  (sCons (sIf (bTst (bBin kEq (bCall kLen (lCons (bVarR 0) lNil)) (bC (D.int 3))))
  (sRet (bTup (lCons (bBin kIx (bVarR 0) (bC (D.int 0))) (lCons (bDef cl "_law_called_value" [.esc, .rd] (lCons (bBin kIx (bVarR 0) (bC (D.int 1))) (lCons (bVarR 1) lNil))) (lCons (bDef cl "_law_called_value" [.esc, .rd] (lCons (bBin kIx (bVarR 0) (bC (D.int 2))) (lCons (bVarR 1) lNil))) lNil)))))
  sNil)
  (sRetV 0)))
theorem snd_law_called_value {M : Mo} (h : Stc M) (rt : Rt M) : SndB ⟨N_law_called_value, defScope (topS 31), none⟩ M (defBody (topS 31)) (sh_law_called_value M.cl) :=
  have hb := h.bn
  have hm := h.cold
  (sb_cons (ss_if (sn_tcmp (SndE.read (sn_ix (vr 0) sn_int)) (sn_tup (n := 3) (sl_esc sn_str (sl_esc sn_str (sl_esc sn_str sl_nil)))) os_in (by rfl))
  (sb_one (ss_ret (sn_tup (n := 2) (sl_esc (sn_ix (vr 0) sn_int) (sl_esc (sn_dget (vr 1) (SndE.read (sn_ix (vr 0) sn_int))) sl_nil)))))
  sb_nil)
  (sb_cons (ss_if (sn_tcmp (cB hb bu_len (sl_rd (vr 0) sl_nil)) sn_int os_eq (nomark _))
  (sb_one (ss_ret (sn_tup (n := 3) (sl_esc (sn_ix (vr 0) sn_int) (sl_esc (cD (rt.fn "_law_called_value" (by decide +kernel)) (sl_esc (sn_ix (vr 0) sn_int) (sl_rd (vr 1) sl_nil))) (sl_esc (cD (rt.fn "_law_called_value" (by decide +kernel)) (sl_esc (sn_ix (vr 0) sn_int) (sl_rd (vr 1) sl_nil))) sl_nil))))))
  sb_nil)
  (sb_one (rv 0))))
/-! law_called_block -/
abbrev N_law_called_block : List Str := ["_law_block", "_law_names", "_law_result", "_law_statement_here", "_law_parts", "_law_told", "_law_name"]
theorem sc_law_called_block : FnScope N_law_called_block ["_law_block", "_law_names"] (defScope (topS 32)) := ⟨rfl, rfl, rfl, by decide +kernel, rfl, by decide +kernel, by decide +kernel⟩
def lb_law_called_block_0 (cl : Calls) : FS :=
  (sIf (bTst (bBin kEq (bBin kIx (bVarR 3) (bC (D.int 0))) (bC (D.str "if"))))
  (sCons (sSet 4 (bTup (lCons (bDef cl "_law_called_block" [.rd, .rd] (lCons (bBin kIx (bVarR 3) (bC (D.int 2))) (lCons (bVarR 1) lNil))) (lCons (bDef cl "_law_called_block" [.rd, .rd] (lCons (bBin kIx (bVarR 3) (bC (D.int 3))) (lCons (bVarR 1) lNil))) lNil))))
  (sApp 2 (bTup (lCons (bC (D.str "if")) (lCons (bDef cl "_law_called_value" [.esc, .rd] (lCons (bBin kIx (bVarR 3) (bC (D.int 1))) (lCons (bVarR 1) lNil))) (lCons (bBin kIx (bVarR 4) (bC (D.int 0))) (lCons (bBin kIx (bVarR 4) (bC (D.int 1))) lNil)))))))
  (sIf (bTst (bBin kEq (bBin kIx (bVarR 3) (bC (D.int 0))) (bC (D.str "ask"))))
  (sApp 2 (bTup (lCons (bC (D.str "ask")) (lCons (bBin kDGet (bVarR 1) (bBin kIx (bVarR 3) (bC (D.int 1)))) (lCons (bBin kIx (bVarR 3) (bC (D.int 2))) lNil)))))
  (sCons (sSet 5 (bComp [6] (iSeq (bSl (bVarR 3) (oSome (bC (D.int 1))) (oSome (bNeg (bC (D.int 1)))))) (tgName 6) cYes (bBin kDGet (bVarR 1) (bVarR 6))))
  (sApp 2 (bBin kAdd (bBin kAdd (bTup (lCons (bBin kIx (bVarR 3) (bC (D.int 0))) lNil)) (bCall kTuple (lCons (bVarR 5) lNil))) (bTup (lCons (bDef cl "_law_called_value" [.esc, .rd] (lCons (bBin kIx (bVarR 3) (bNeg (bC (D.int 1)))) (lCons (bVarR 1) lNil))) lNil)))))))
def sh_law_called_block (cl : Calls) : FS :=
  (sCons (sSet 2 (bLst lNil))
  (sCons (sFor (iVar 0) (tgName 3)
  (lb_law_called_block_0 cl))
  (sRet (bCall kTuple (lCons (bVarR 2) lNil)))))
theorem snd_law_called_block {M : Mo} (h : Stc M) (rt : Rt M) : SndB ⟨N_law_called_block, defScope (topS 32), none⟩ M (defBody (topS 32)) (sh_law_called_block M.cl) :=
  have hb := h.bn
  have hm := h.cold
  (sb_cons (st 2 (sn_lst (n := 0) sl_nil))
  (sb_cons (ss_for hm (iv 0) (tn 3)
  (sb_one (ss_if (sn_tcmp (SndE.read (sn_ix (vr 3) sn_int)) sn_str os_eq (nomark _))
  (sb_cons (st 4 (sn_tup (n := 2) (sl_esc (cD (rt.fn "_law_called_block" (by decide +kernel)) (sl_rd (SndE.read (sn_ix (vr 3) sn_int)) (sl_rd (vr 1) sl_nil))) (sl_esc (cD (rt.fn "_law_called_block" (by decide +kernel)) (sl_rd (SndE.read (sn_ix (vr 3) sn_int)) (sl_rd (vr 1) sl_nil))) sl_nil))))
  (sb_one (sap 2 (sn_tup (n := 4) (sl_esc sn_str (sl_esc (cD (rt.fn "_law_called_value" (by decide +kernel)) (sl_esc (sn_ix (vr 3) sn_int) (sl_rd (vr 1) sl_nil))) (sl_esc (sn_ix (vr 4) sn_int) (sl_esc (sn_ix (vr 4) sn_int) sl_nil))))))))
  (sb_one (ss_if (sn_tcmp (SndE.read (sn_ix (vr 3) sn_int)) sn_str os_eq (nomark _))
  (sb_one (sap 2 (sn_tup (n := 3) (sl_esc sn_str (sl_esc (sn_dget (vr 1) (SndE.read (sn_ix (vr 3) sn_int))) (sl_esc (sn_ix (vr 3) sn_int) sl_nil))))))
  (sb_cons (slc hm 5 [("_law_name", 6)] (SndI.toC (si_seq (SndE.keep (sn_sl (vr 3) (so_some sn_int) (so_some (sn_neg sn_int)))))) (tn 6) st_nil (sn_dget (vr 1) (vr 6)))
  (sb_one (sap 2 (SndE.keep (sn_bin (SndE.read (SndE.keep (sn_bin (sn_tup (n := 1) (sl_esc (sn_ix (vr 3) sn_int) sl_nil)) (cT hb bu_tuple (sl_rd (vr 5) sl_nil)) os_add))) (sn_tup (n := 1) (sl_esc (cD (rt.fn "_law_called_value" (by decide +kernel)) (sl_esc (sn_ix (vr 3) (sn_neg sn_int)) (sl_rd (vr 1) sl_nil))) sl_nil)) os_add))))))))))
  (sb_one (ss_ret (cT hb bu_tuple (sl_rd (vr 2) sl_nil))))))
/-! law_guarding -/
abbrev N_law_guarding : List Str := ["_law_guard_here", "_law_house_here", "_law_cell_here", "_law_contracts", "_law_contract_here", "_law_names", "_law_proc", "_law_asset"]
theorem sc_law_guarding : FnScope N_law_guarding ["_law_guard_here", "_law_house_here", "_law_cell_here"] (defScope (topS 33)) := ⟨rfl, rfl, rfl, by decide +kernel, rfl, by decide +kernel, by decide +kernel⟩
def sh_law_guarding (cl : Calls) : FS :=
  (sCons (sSet 3 (bComp [4] (iSeq (bBin kIx (bVarR 1) (bC (D.int 1)))) (tgName 4) (bTst (bBin kEq (bBin kIx (bVarR 4) (bC (D.int 0))) (bBin kIx (bVarR 0) (bC (D.int 1))))) (bVar 4)))
  (sCons (sIf (bAndT (bTst (bBin kEq (bBin kIx (bVarR 0) (bC (D.int 0))) (bC (D.str "hide")))) (bAndT (bTst (bBin kEq (bBin kMod (bCall kInt (lCons (bVarR 2) lNil)) (bC (D.int 2))) (bC (D.int 1)))) (bTst (bBin kGt (bCall kLen (lCons (bVarR 3) lNil)) (bC (D.int 0))))))
  (sCons (sSet 5 (bComp [6] (iSeq (bBin kIx (bBin kIx (bVarR 3) (bC (D.int 0))) (bC (D.int 3)))) (tgName 6) cYes (bBin kIx (bVarR 6) (bC (D.int 0)))))
  (sIf (bTst (bBin kGt (bCall kLen (lCons (bVarR 5) lNil)) (bC (D.int 0))))
  (sRet (bTup (lCons (bC (D.str "hide")) (lCons (bBin kIx (bVarR 0) (bC (D.int 1))) (lCons (bBin kIx (bVarR 5) (bBin kMod (bBin kFdiv (bCall kInt (lCons (bVarR 2) lNil)) (bC (D.int 2))) (bCall kLen (lCons (bVarR 5) lNil)))) lNil)))))
  sNil))
  sNil)
  (sCons (sIf (bTst (bBin kEq (bBin kIx (bVarR 0) (bC (D.int 0))) (bC (D.str "floor"))))
  (sCons (sAsg (tgName 7) (bBin kIx (bVarR 0) (bC (D.int 2))))
  (sCons (sIf (bAndT (bTst (bBin kEq (bBin kMod (bCall kInt (lCons (bVarR 2) lNil)) (bC (D.int 2))) (bC (D.int 1)))) (bTst (bBin kGt (bCall kLen (lCons (bBin kIx (bVarR 1) (bC (D.int 0))) lNil)) (bC (D.int 0)))))
  (sAsg (tgName 7) (bBin kIx (bBin kIx (bBin kIx (bVarR 1) (bC (D.int 0))) (bBin kMod (bBin kFdiv (bCall kInt (lCons (bVarR 2) lNil)) (bC (D.int 2))) (bCall kLen (lCons (bBin kIx (bVarR 1) (bC (D.int 0))) lNil)))) (bC (D.int 0))))
  sNil)
  (sRet (bTup (lCons (bC (D.str "floor")) (lCons (bBin kIx (bVarR 0) (bC (D.int 1))) (lCons (bVar 7) (lCons (bBin kIx (bTup (lCons (bBin kIx (bVarR 0) (bC (D.int 3))) (lCons (bBin kIx (bVarR 0) (bC (D.int 3))) (lCons (bNeg (bC (D.int 3))) (lCons (bC (D.int 65535)) (lCons (bC (D.int 65536)) (lCons (bC (D.int 70000)) lNil))))))) (bBin kMod (bBin kFdiv (bCall kInt (lCons (bVarR 2) lNil)) (bC (D.int 4))) (bC (D.int 6)))) lNil))))))))
  sNil)
  (sRetV 0))))
theorem snd_law_guarding {M : Mo} (h : Stc M) (rt : Rt M) : SndB ⟨N_law_guarding, defScope (topS 33), none⟩ M (defBody (topS 33)) (sh_law_guarding M.cl) :=
  have hb := h.bn
  have hm := h.cold
  (sb_cons (slc hm 3 [("_law_contract_here", 4)] (SndI.toC (si_seq (sn_ix (vr 1) sn_int))) (tn 4) (st_one (sn_tcmp (SndE.read (sn_ix (vr 4) sn_int)) (SndE.read (sn_ix (vr 0) sn_int)) os_eq (nomark _))) (v1 4))
  (sb_cons (ss_if (sn_tw (sw_and (sn_tcmp (SndE.read (sn_ix (vr 0) sn_int)) sn_str os_eq (nomark _)) (sw_and (sn_tcmp (sn_bin (cT hb bu_int (sl_rd (vr 2) sl_nil)) sn_int os_mod) sn_int os_eq (nomark _)) (sw_and1 (sn_tcmp (cB hb bu_len (sl_rd (vr 3) sl_nil)) sn_int os_gt (nomark _))))))
  (sb_cons (slc hm 5 [("_law_proc", 6)] (SndI.toC (si_seq (sn_ix (SndE.read (sn_ix (vr 3) sn_int)) sn_int))) (tn 6) st_nil (sn_ix (vr 6) sn_int))
  (sb_one (ss_if (sn_tcmp (cB hb bu_len (sl_rd (vr 5) sl_nil)) sn_int os_gt (nomark _))
  (sb_one (ss_ret (sn_tup (n := 3) (sl_esc sn_str (sl_esc (sn_ix (vr 0) sn_int) (sl_esc (sn_ix (vr 5) (sn_bin (sn_bin (cT hb bu_int (sl_rd (vr 2) sl_nil)) sn_int os_fdiv) (cB hb bu_len (sl_rd (vr 5) sl_nil)) os_mod)) sl_nil))))))
  sb_nil)))
  sb_nil)
  (sb_cons (ss_if (sn_tcmp (SndE.read (sn_ix (vr 0) sn_int)) sn_str os_eq (nomark _))
  (sb_cons (se 7 (sn_ix (vr 0) sn_int))
  (sb_cons (ss_if (sn_tw (sw_and (sn_tcmp (sn_bin (cT hb bu_int (sl_rd (vr 2) sl_nil)) sn_int os_mod) sn_int os_eq (nomark _)) (sw_and1 (sn_tcmp (cB hb bu_len (sl_rd (SndE.read (sn_ix (vr 1) sn_int)) sl_nil)) sn_int os_gt (nomark _)))))
  (sb_one (se 7 (sn_ix (SndE.read (sn_ix (SndE.read (sn_ix (vr 1) sn_int)) (sn_bin (sn_bin (cT hb bu_int (sl_rd (vr 2) sl_nil)) sn_int os_fdiv) (cB hb bu_len (sl_rd (SndE.read (sn_ix (vr 1) sn_int)) sl_nil)) os_mod))) sn_int)))
  sb_nil)
  (sb_one (ss_ret (sn_tup (n := 4) (sl_esc sn_str (sl_esc (sn_ix (vr 0) sn_int) (sl_esc (v1 7) (sl_esc (sn_ix (sn_tup (n := 6) (sl_esc (sn_ix (vr 0) sn_int) (sl_esc (sn_ix (vr 0) sn_int) (sl_esc (sn_neg sn_int) (sl_esc sn_int (sl_esc sn_int (sl_esc sn_int sl_nil))))))) (sn_bin (sn_bin (cT hb bu_int (sl_rd (vr 2) sl_nil)) sn_int os_fdiv) sn_int os_mod)) sl_nil)))))))))
  sb_nil)
  (sb_one (rv 0)))))
/-! law -/
abbrev N_law : List Str := ["_law_script", "_law_house_here", "_law_made_here", "_law_guards", "_law_cell_here", "_law_kept", "_law_bad", "_law_k", "_law_actual", "e", "_law_due"]
theorem sc_law : FnScope N_law ["_law_script"] (defScope (topS 34)) := ⟨rfl, rfl, rfl, by decide +kernel, rfl, by decide +kernel, by decide +kernel⟩
def lb_law_0 (cl : Calls) : FS :=
  (sIf (bAndT (bTst (bIsN (bVarR 6))) (bOrT (bNotT (bTru (bDef cl "_law_fits" [.rd, .rd] (lCons (bVarR 1) (lCons (bBin kIx (bVarR 3) (bVarR 7)) lNil))))) (bTst (bBin kIn (bBin kIx (bVarR 3) (bVarR 7)) (bSl (bVarR 3) oNone (oSome (bVarR 7)))))))
  (sAsg (tgName 6) (bVar 7))
  sNil)
def sh_law (cl : Calls) : FS :=
  (sCons (sAsg (tgName 1) (bDef cl "_law_house" [.rd, .rd, .rd, .rd] (lCons (bVarR 0) (lCons (bC (D.int 0)) (lCons (bC (D.int 2)) (lCons (bC (D.bl false)) lNil))))))
  (sCons (sIf (bTst (bBin kEq (bBin kMod (bCall kInt (lCons (bDef cl "_law_cell" [.rd, .rd] (lCons (bVarR 0) (lCons (bC (D.int 7)) lNil))) lNil)) (bC (D.int 3))) (bC (D.int 1))))
  (sAsg (tgName 1) (bDef cl "_law_called" [.rd] (lCons (bVarR 1) lNil)))
  sNil)
  (sCons (sAsg (tgName 2) (bDef cl "_law_made" [.rd] (lCons (bVarR 1) lNil)))
  (sCons (sSet 3 (bComp [4] (iSeq (bSl (bVarR 0) (oSome (bC (D.int 8))) (oSome (bC (D.int 14))))) (tgName 4) cYes (bDef cl "_law_guarding" [.esc, .rd, .rd] (lCons (bDef cl "_law_guard" [.rd, .rd] (lCons (bVarR 4) (lCons (bVarR 1) lNil))) (lCons (bVarR 1) (lCons (bBin kFdiv (bCall kAbs (lCons (bVarR 4) lNil)) (bC (D.int 5))) lNil))))))
  (sCons (sSet 5 (bCall kList (lCons (bVarR 3) lNil)))
  (sCons (sSet 6 (bC D.non))
  (sCons (sFor (iRng1D (bCall kLen (lCons (bVarR 3) lNil))) (tgName 7)
  (lb_law_0 cl))
  (sCons (sTry 9 mt_HouseError
  (sFrz [3] (sAsg (tgName 8) (bDef cl "guarded" [.rd, .esc] (lCons (bVarR 2) (lCons (bVar 3) lNil)))))
  (sCons (sIf (bOrT (bTru (bXisT 9 [mx_BadAct, mx_BadHouse, mx_BadPaper, mx_BadText, mx_TooLarge])) (bTst (bBin kNe (bVarR 3) (bVarR 5))))
  (sRet (bC (D.bl false)))
  sNil)
  (sRet (bAndV (bNotN (bVarR 6)) (bAndV (bXis 9 mx_BadGuard) (bAndV (bDef cl "_law_is_integer" [.rd] (lCons (bXat 9 xc_at "at") lNil)) (bBin kEq (bXat 9 xc_at "at") (bVarR 6))))))))
  (sCons (sAsg (tgName 10) (bDef cl "_law_guarded" [.rd, .rd] (lCons (bVarR 1) (lCons (bVarR 3) lNil))))
  (sCons (sIf (bOrT (bTst (bNotN (bVarR 6))) (bOrT (bTst (bBin kNe (bVarR 3) (bVarR 5))) (bNotT (bTst (bBin (kEqO cl tab___eq__) (bVarR 2) (bDef cl "_law_made" [.rd] (lCons (bVarR 1) lNil)))))))
  (sRet (bC (D.bl false)))
  sNil)
  (sRet (bAndV (bBin kEq (bAttr "assets" (bVarR 8)) (bCall kTuple (lCons (bBin kIx (bVarR 10) (bC (D.int 0))) lNil))) (bBin kEq (bAttr "contracts" (bVarR 8)) (bCall kTuple (lCons (bBin kIx (bVarR 10) (bC (D.int 1))) lNil)))))))))))))))
theorem snd_law {M : Mo} (h : Stc M) (rt : Rt M) : SndB ⟨N_law, defScope (topS 34), none⟩ M (defBody (topS 34)) (sh_law M.cl) :=
  have hb := h.bn
  have hm := h.cold
  (sb_cons (se 1 (cD (rt.fn "_law_house" (by decide +kernel)) (sl_rd (vr 0) (sl_rd sn_int (sl_rd sn_int (sl_rd sn_bl sl_nil))))))
  (sb_cons (ss_if (sn_tcmp (sn_bin (cT hb bu_int (sl_rd (SndE.read (cD (rt.fn "_law_cell" (by decide +kernel)) (sl_rd (vr 0) (sl_rd sn_int sl_nil)))) sl_nil)) sn_int os_mod) sn_int os_eq (nomark _))
  (sb_one (se 1 (cD (rt.fn "_law_called" (by decide +kernel)) (sl_rd (vr 1) sl_nil))))
  sb_nil)
  (sb_cons (se 2 (cD (rt.fn "_law_made" (by decide +kernel)) (sl_rd (vr 1) sl_nil)))
  (sb_cons (slc hm 3 [("_law_cell_here", 4)] (SndI.toC (si_seq (SndE.keep (sn_sl (vr 0) (so_some sn_int) (so_some sn_int))))) (tn 4) st_nil (cD (rt.fn "_law_guarding" (by decide +kernel)) (sl_esc (cD (rt.fn "_law_guard" (by decide +kernel)) (sl_rd (vr 4) (sl_rd (vr 1) sl_nil))) (sl_rd (vr 1) (sl_rd (sn_bin (cB hb bu_abs (sl_rd (vr 4) sl_nil)) sn_int os_fdiv) sl_nil)))))
  (sb_cons (st 5 (cT hb bu_list (sl_rd (vr 3) sl_nil)))
  (sb_cons (st 6 sn_non)
  (sb_cons (ss_for hm (rg1 hb (cB hb bu_len (sl_rd (vr 3) sl_nil))) (tn 7)
  (sb_one (ss_if (sn_tw (sw_and (sn_tisN (vr 6)) (sw_and1 (sn_tw (sw_or (sn_tnot (sn_tru (SndE.read (cD (rt.fn "_law_fits" (by decide +kernel)) (sl_rd (vr 1) (sl_rd (SndE.read (sn_ix (vr 3) (vr 7))) sl_nil)))))) (sw_or1 (sn_tcmp (SndE.read (sn_ix (vr 3) (vr 7))) (SndE.read (SndE.keep (sn_sl (vr 3) so_none (so_some (vr 7))))) os_in (by rfl))))))))
  (sb_one (se 6 (v1 7)))
  sb_nil)))
  (sb_cons (ss_try hm rfl rfl (by decide +kernel) (by decide +kernel) h.y_HouseError
  (sb_one (ss_frz (se 8 (cD (rt.fn "guarded" (by decide +kernel)) (sl_rd (vr 2) (sl_esc (v1 3) sl_nil))))))
  (hotP h.hotS rt.hotR fun h rt => have hb := h.bn; (sb_cons (ss_if (sn_tw (sw_or (sn_tru (xist hb 9 (cl_cons h.z_BadAct (cl_cons h.z_BadHouse (cl_cons h.z_BadPaper (cl_cons h.z_BadText (cl_cons h.z_TooLarge cl_nil))))))) (sw_or1 (sn_tcmp (vr 3) (vr 5) os_ne (nomark _)))))
  (sb_one (ss_ret sn_bl))
  sb_nil)
  (sb_one (ss_ret (sn_and (sn_notN (vr 6)) (sn_and (xis hb 9 h.z_BadGuard) (sn_and (SndE.read (cD (rt.fn "_law_is_integer" (by decide +kernel)) (sl_rd (SndE.read (xat 9 h.w_at)) sl_nil))) (sn_one (sn_cmp (SndE.read (xat 9 h.w_at)) (vr 6) os_eq (nomark _)))))))))))
  (sb_cons (se 10 (cD (rt.fn "_law_guarded" (by decide +kernel)) (sl_rd (vr 1) (sl_rd (vr 3) sl_nil))))
  (sb_cons (ss_if (sn_tw (sw_or (sn_tnotN (vr 6)) (sw_or (sn_tcmp (vr 3) (vr 5) os_ne (nomark _)) (sw_or1 (sn_tnot (sn_tcmp (vr 2) (SndE.read (cD (rt.fn "_law_made" (by decide +kernel)) (sl_rd (vr 1) sl_nil))) (os_eqO hm (mt___eq__ rt)) (nomark _)))))))
  (sb_one (ss_ret sn_bl))
  sb_nil)
  (sb_one (ss_ret (sn_and (sn_cmp (SndE.read (sn_attr (vr 8))) (cT hb bu_tuple (sl_rd (SndE.read (sn_ix (vr 10) sn_int)) sl_nil)) os_eq (nomark _)) (sn_one (sn_cmp (SndE.read (sn_attr (vr 8))) (cT hb bu_tuple (sl_rd (SndE.read (sn_ix (vr 10) sn_int)) sl_nil)) os_eq (nomark _))))))))))))))))
def delta : Str → Option Df := fun x =>
  if x = "House.__init__" then some (dfD 3 3 sh_House___init__) else
  if x = "House.__eq__" then some (dfD 2 2 sh_House___eq__) else
  if x = "guarded" then some (dfD 2 7 sh_guarded) else
  if x = "fits" then some (dfD 2 9 sh_fits) else
  if x = "changed" then some (dfD 2 15 sh_changed) else
  if x = "fenced" then some (dfD 3 4 sh_fenced) else
  if x = "_law_cell" then some (dfD 2 2 sh_law_cell) else
  if x = "_law_is_integer" then some (dfD 1 1 sh_law_is_integer) else
  if x = "_law_row" then some (dfD 3 6 sh_law_row) else
  if x = "_law_expression" then some (dfD 3 6 sh_law_expression) else
  if x = "_law_statement" then some (dfD 5 8 sh_law_statement) else
  if x = "_law_body" then some (dfD 5 11 sh_law_body) else
  if x = "_law_contract" then some (dfD 6 19 sh_law_contract) else
  if x = "_law_house" then some (dfD 4 14 sh_law_house) else
  if x = "_law_guard" then some (dfD 2 5 sh_law_guard) else
  if x = "_law_fits" then some (dfD 2 6 sh_law_fits) else
  if x = "_law_fenced" then some (dfD 2 7 sh_law_fenced) else
  if x = "_law_guarded" then some (dfD 2 9 sh_law_guarded) else
  if x = "_law_made" then some (dfD 1 1 sh_law_made) else
  if x = "_law_called" then some (dfD 1 11 sh_law_called) else
  if x = "_law_called_value" then some (dfD 2 2 sh_law_called_value) else
  if x = "_law_called_block" then some (dfD 2 7 sh_law_called_block) else
  if x = "_law_guarding" then some (dfD 3 8 sh_law_guarding) else
  if x = "law" then some (dfD 1 11 sh_law) else
  if x = "House" then some (dfC "House" "House.__init__") else
  if x = "BadText" then some (dfX "BadText" "at") else
  if x = "BadAct" then some (dfX "BadAct" "at") else
  if x = "TooLarge" then some (dfX "TooLarge" "what") else
  if x = "BadGuard" then some (dfX "BadGuard" "at") else
  if x = "BadPaper" then some (dfX "BadPaper" "at") else
  if x = "BadHouse" then some (dfX "BadHouse" "what") else
  none
theorem run_x_BadText (n : Nat) (m : Md) (d : D) (st : Sto) : interp delta (n + 1) "BadText" [(m, d)] st = .exc ⟨"BadText", [("at", d)]⟩ st := interp_eq (Δ := delta) (d := dfX "BadText" "at") rfl [(m, d)] st
theorem run_x_BadAct (n : Nat) (m : Md) (d : D) (st : Sto) : interp delta (n + 1) "BadAct" [(m, d)] st = .exc ⟨"BadAct", [("at", d)]⟩ st := interp_eq (Δ := delta) (d := dfX "BadAct" "at") rfl [(m, d)] st
theorem run_x_TooLarge (n : Nat) (m : Md) (d : D) (st : Sto) : interp delta (n + 1) "TooLarge" [(m, d)] st = .exc ⟨"TooLarge", [("what", d)]⟩ st := interp_eq (Δ := delta) (d := dfX "TooLarge" "what") rfl [(m, d)] st
theorem run_x_BadGuard (n : Nat) (m : Md) (d : D) (st : Sto) : interp delta (n + 1) "BadGuard" [(m, d)] st = .exc ⟨"BadGuard", [("at", d)]⟩ st := interp_eq (Δ := delta) (d := dfX "BadGuard" "at") rfl [(m, d)] st
theorem run_x_BadPaper (n : Nat) (m : Md) (d : D) (st : Sto) : interp delta (n + 1) "BadPaper" [(m, d)] st = .exc ⟨"BadPaper", [("at", d)]⟩ st := interp_eq (Δ := delta) (d := dfX "BadPaper" "at") rfl [(m, d)] st
theorem run_x_BadHouse (n : Nat) (m : Md) (d : D) (st : Sto) : interp delta (n + 1) "BadHouse" [(m, d)] st = .exc ⟨"BadHouse", [("what", d)]⟩ st := interp_eq (Δ := delta) (d := dfX "BadHouse" "what") rfl [(m, d)] st
theorem run_House___init__ (n : Nat) {m0 m1 m2 : Md} {d0 d1 d2 : D} (st : Sto) : interp delta (n + 1) "House.__init__" [(m0, d0), (m1, d1), (m2, d2)] st = fin (sh_House___init__ (interp delta n) [slotA (m0, d0), slotA (m1, d1), slotA (m2, d2)] st) := interp_eq (Δ := delta) (d := dfD 3 3 sh_House___init__) rfl _ st
theorem run_House___eq__ (n : Nat) {m0 m1 : Md} {d0 d1 : D} (st : Sto) : interp delta (n + 1) "House.__eq__" [(m0, d0), (m1, d1)] st = fin (sh_House___eq__ (interp delta n) [slotA (m0, d0), slotA (m1, d1)] st) := interp_eq (Δ := delta) (d := dfD 2 2 sh_House___eq__) rfl _ st
theorem run_guarded (n : Nat) {m0 m1 : Md} {d0 d1 : D} (st : Sto) : interp delta (n + 1) "guarded" [(m0, d0), (m1, d1)] st = fin (sh_guarded (interp delta n) [slotA (m0, d0), slotA (m1, d1), none, none, none, none, none] st) := interp_eq (Δ := delta) (d := dfD 2 7 sh_guarded) rfl _ st
theorem run_fits (n : Nat) {m0 m1 : Md} {d0 d1 : D} (st : Sto) : interp delta (n + 1) "fits" [(m0, d0), (m1, d1)] st = fin (sh_fits (interp delta n) [slotA (m0, d0), slotA (m1, d1), none, none, none, none, none, none, none] st) := interp_eq (Δ := delta) (d := dfD 2 9 sh_fits) rfl _ st
theorem run_changed (n : Nat) {m0 m1 : Md} {d0 d1 : D} (st : Sto) : interp delta (n + 1) "changed" [(m0, d0), (m1, d1)] st = fin (sh_changed (interp delta n) [slotA (m0, d0), slotA (m1, d1), none, none, none, none, none, none, none, none, none, none, none, none, none] st) := interp_eq (Δ := delta) (d := dfD 2 15 sh_changed) rfl _ st
theorem run_fenced (n : Nat) {m0 m1 m2 : Md} {d0 d1 d2 : D} (st : Sto) : interp delta (n + 1) "fenced" [(m0, d0), (m1, d1), (m2, d2)] st = fin (sh_fenced (interp delta n) [slotA (m0, d0), slotA (m1, d1), slotA (m2, d2), none] st) := interp_eq (Δ := delta) (d := dfD 3 4 sh_fenced) rfl _ st
theorem run_law_cell (n : Nat) {m0 m1 : Md} {d0 d1 : D} (st : Sto) : interp delta (n + 1) "_law_cell" [(m0, d0), (m1, d1)] st = fin (sh_law_cell (interp delta n) [slotA (m0, d0), slotA (m1, d1)] st) := interp_eq (Δ := delta) (d := dfD 2 2 sh_law_cell) rfl _ st
theorem run_law_is_integer (n : Nat) {m0 : Md} {d0 : D} (st : Sto) : interp delta (n + 1) "_law_is_integer" [(m0, d0)] st = fin (sh_law_is_integer (interp delta n) [slotA (m0, d0)] st) := interp_eq (Δ := delta) (d := dfD 1 1 sh_law_is_integer) rfl _ st
theorem run_law_row (n : Nat) {m0 m1 m2 : Md} {d0 d1 d2 : D} (st : Sto) : interp delta (n + 1) "_law_row" [(m0, d0), (m1, d1), (m2, d2)] st = fin (sh_law_row (interp delta n) [slotA (m0, d0), slotA (m1, d1), slotA (m2, d2), none, none, none] st) := interp_eq (Δ := delta) (d := dfD 3 6 sh_law_row) rfl _ st
theorem run_law_expression (n : Nat) {m0 m1 m2 : Md} {d0 d1 d2 : D} (st : Sto) : interp delta (n + 1) "_law_expression" [(m0, d0), (m1, d1), (m2, d2)] st = fin (sh_law_expression (interp delta n) [slotA (m0, d0), slotA (m1, d1), slotA (m2, d2), none, none, none] st) := interp_eq (Δ := delta) (d := dfD 3 6 sh_law_expression) rfl _ st
theorem run_law_statement (n : Nat) {m0 m1 m2 m3 m4 : Md} {d0 d1 d2 d3 d4 : D} (st : Sto) : interp delta (n + 1) "_law_statement" [(m0, d0), (m1, d1), (m2, d2), (m3, d3), (m4, d4)] st = fin (sh_law_statement (interp delta n) [slotA (m0, d0), slotA (m1, d1), slotA (m2, d2), slotA (m3, d3), slotA (m4, d4), none, none, none] st) := interp_eq (Δ := delta) (d := dfD 5 8 sh_law_statement) rfl _ st
theorem run_law_body (n : Nat) {m0 m1 m2 m3 m4 : Md} {d0 d1 d2 d3 d4 : D} (st : Sto) : interp delta (n + 1) "_law_body" [(m0, d0), (m1, d1), (m2, d2), (m3, d3), (m4, d4)] st = fin (sh_law_body (interp delta n) [slotA (m0, d0), slotA (m1, d1), slotA (m2, d2), slotA (m3, d3), slotA (m4, d4), none, none, none, none, none, none] st) := interp_eq (Δ := delta) (d := dfD 5 11 sh_law_body) rfl _ st
theorem run_law_contract (n : Nat) {m0 m1 m2 m3 m4 m5 : Md} {d0 d1 d2 d3 d4 d5 : D} (st : Sto) : interp delta (n + 1) "_law_contract" [(m0, d0), (m1, d1), (m2, d2), (m3, d3), (m4, d4), (m5, d5)] st = fin (sh_law_contract (interp delta n) [slotA (m0, d0), slotA (m1, d1), slotA (m2, d2), slotA (m3, d3), slotA (m4, d4), slotA (m5, d5), none, none, none, none, none, none, none, none, none, none, none, none, none] st) := interp_eq (Δ := delta) (d := dfD 6 19 sh_law_contract) rfl _ st
theorem run_law_house (n : Nat) {m0 m1 m2 m3 : Md} {d0 d1 d2 d3 : D} (st : Sto) : interp delta (n + 1) "_law_house" [(m0, d0), (m1, d1), (m2, d2), (m3, d3)] st = fin (sh_law_house (interp delta n) [slotA (m0, d0), slotA (m1, d1), slotA (m2, d2), slotA (m3, d3), none, none, none, none, none, none, none, none, none, none] st) := interp_eq (Δ := delta) (d := dfD 4 14 sh_law_house) rfl _ st
theorem run_law_guard (n : Nat) {m0 m1 : Md} {d0 d1 : D} (st : Sto) : interp delta (n + 1) "_law_guard" [(m0, d0), (m1, d1)] st = fin (sh_law_guard (interp delta n) [slotA (m0, d0), slotA (m1, d1), none, none, none] st) := interp_eq (Δ := delta) (d := dfD 2 5 sh_law_guard) rfl _ st
theorem run_law_fits (n : Nat) {m0 m1 : Md} {d0 d1 : D} (st : Sto) : interp delta (n + 1) "_law_fits" [(m0, d0), (m1, d1)] st = fin (sh_law_fits (interp delta n) [slotA (m0, d0), slotA (m1, d1), none, none, none, none] st) := interp_eq (Δ := delta) (d := dfD 2 6 sh_law_fits) rfl _ st
theorem run_law_fenced (n : Nat) {m0 m1 : Md} {d0 d1 : D} (st : Sto) : interp delta (n + 1) "_law_fenced" [(m0, d0), (m1, d1)] st = fin (sh_law_fenced (interp delta n) [slotA (m0, d0), slotA (m1, d1), none, none, none, none, none] st) := interp_eq (Δ := delta) (d := dfD 2 7 sh_law_fenced) rfl _ st
theorem run_law_guarded (n : Nat) {m0 m1 : Md} {d0 d1 : D} (st : Sto) : interp delta (n + 1) "_law_guarded" [(m0, d0), (m1, d1)] st = fin (sh_law_guarded (interp delta n) [slotA (m0, d0), slotA (m1, d1), none, none, none, none, none, none, none] st) := interp_eq (Δ := delta) (d := dfD 2 9 sh_law_guarded) rfl _ st
theorem run_law_made (n : Nat) {m0 : Md} {d0 : D} (st : Sto) : interp delta (n + 1) "_law_made" [(m0, d0)] st = fin (sh_law_made (interp delta n) [slotA (m0, d0)] st) := interp_eq (Δ := delta) (d := dfD 1 1 sh_law_made) rfl _ st
theorem run_law_called (n : Nat) {m0 : Md} {d0 : D} (st : Sto) : interp delta (n + 1) "_law_called" [(m0, d0)] st = fin (sh_law_called (interp delta n) [slotA (m0, d0), none, none, none, none, none, none, none, none, none, none] st) := interp_eq (Δ := delta) (d := dfD 1 11 sh_law_called) rfl _ st
theorem run_law_called_value (n : Nat) {m0 m1 : Md} {d0 d1 : D} (st : Sto) : interp delta (n + 1) "_law_called_value" [(m0, d0), (m1, d1)] st = fin (sh_law_called_value (interp delta n) [slotA (m0, d0), slotA (m1, d1)] st) := interp_eq (Δ := delta) (d := dfD 2 2 sh_law_called_value) rfl _ st
theorem run_law_called_block (n : Nat) {m0 m1 : Md} {d0 d1 : D} (st : Sto) : interp delta (n + 1) "_law_called_block" [(m0, d0), (m1, d1)] st = fin (sh_law_called_block (interp delta n) [slotA (m0, d0), slotA (m1, d1), none, none, none, none, none] st) := interp_eq (Δ := delta) (d := dfD 2 7 sh_law_called_block) rfl _ st
theorem run_law_guarding (n : Nat) {m0 m1 m2 : Md} {d0 d1 d2 : D} (st : Sto) : interp delta (n + 1) "_law_guarding" [(m0, d0), (m1, d1), (m2, d2)] st = fin (sh_law_guarding (interp delta n) [slotA (m0, d0), slotA (m1, d1), slotA (m2, d2), none, none, none, none, none] st) := interp_eq (Δ := delta) (d := dfD 3 8 sh_law_guarding) rfl _ st
theorem run_law (n : Nat) {m0 : Md} {d0 : D} (st : Sto) : interp delta (n + 1) "law" [(m0, d0)] st = fin (sh_law (interp delta n) [slotA (m0, d0), none, none, none, none, none, none, none, none, none, none] st) := interp_eq (Δ := delta) (d := dfD 1 11 sh_law) rfl _ st
theorem run_mk_House (n : Nat) (as : List (Md × D)) (st : Sto) : interp delta (n + 1) "House" as st = mkR "House" (interp delta n "House.__init__") as st := interp_eq (Δ := delta) (d := dfC "House" "House.__init__") rfl as st
end K40

namespace K40
open PySem L2 NC
/-! the digits that a cell tells -/
def stA (c s : Int) : Nat → Int
  | 0 => c
  | i + 1 => if 1000000000000000000 ≤ c then stA c s i / s else (stA c s i * 48271 + 12345) % 2147483647
def rowA (c s : Int) (i : Nat) : Int := if 1000000000000000000 ≤ c then stA c s i % s else (stA c s (i + 1) * 69621 + i * 7919) % 2147483647 % s
def rowL (c : Int) (k : Nat) (s : Int) : List Int := (List.range k).map (rowA c s)
theorem rowA_rng {c s : Int} (h : 0 < s) (i : Nat) : 0 ≤ rowA c s i ∧ rowA c s i < s := by
  unfold rowA
  split
  · exact ⟨Int.emod_nonneg _ (by omega), Int.emod_lt_of_pos _ h⟩
  · exact ⟨Int.emod_nonneg _ (by omega), Int.emod_lt_of_pos _ h⟩
theorem rowL_len (c : Int) (k : Nat) (s : Int) : (rowL c k s).length = k := by simp [rowL]
theorem sizeLine_ge : 1000000 ≤ sizeLine := by rw [sizeLine_eq]; decide
theorem k18 (st : Sto) : kPow (.int 10) (.int 18) st = .ok (.int 1000000000000000000) st := by
  rw [kPow_int, if_pos ⟨by omega, by omega, by decide⟩, show ((10 : Int) ^ (18 : Int).toNat) = 1000000000000000000 from by decide +kernel]
theorem row_big (a x s k j : Int) (l : List D) (hb : (1000000000000000000 : Int) ≤ a) (hs : 0 < s ∧ s < 1073741824) (hl : l.length < sizeLine) (st : Sto) (cl : Calls) : lb_law_row_0 cl [some (.frz, .int a), some (.frz, .int k), some (.frz, .int s), some (.frz, .int x), some (.own, .lst l), some (.frz, .int j)] st =
   .next [some (.frz, .int a), some (.frz, .int k), some (.frz, .int s), some (.frz, .int (x / s)), some (.own, .lst (l ++ [.int (x % s)])), some (.frz, .int j)] st := by
  have ht : (bTst (bBin kGe (bVarR 0) (bBin kPow (bC (D.int 10)) (bC (D.int 18))))) [some (.frz, .int a), some (.frz, .int k), some (.frz, .int s), some (.frz, .int x), some (.own, .lst l), some (.frz, .int j)] st = .ok true st := by
    simp [hb, k18, -kPow_int]
  unfold lb_law_row_0
  rw [sIf_eq, ht]
  show (sCons _ _) _ _ = _
  simp [hs, sApp_E, appE_own, appO_of, hl]
theorem row_small (a x s k j : Int) (l : List D) (hb : ¬ (1000000000000000000 : Int) ≤ a) (hs : 0 < s ∧ s < 1073741824) (hl : l.length < sizeLine) (st : Sto) (cl : Calls) : lb_law_row_0 cl [some (.frz, .int a), some (.frz, .int k), some (.frz, .int s), some (.frz, .int x), some (.own, .lst l), some (.frz, .int j)] st =
   .next [some (.frz, .int a), some (.frz, .int k), some (.frz, .int s), some (.frz, .int ((x * 48271 + 12345) % 2147483647)), some (.own, .lst (l ++ [.int (((x * 48271 + 12345) % 2147483647 * 69621 + j * 7919) % 2147483647 % s)])), some (.frz, .int j)] st := by
  have ht : (bTst (bBin kGe (bVarR 0) (bBin kPow (bC (D.int 10)) (bC (D.int 18))))) [some (.frz, .int a), some (.frz, .int k), some (.frz, .int s), some (.frz, .int x), some (.own, .lst l), some (.frz, .int j)] st = .ok false st := by
    simp [hb, k18, -kPow_int]
  unfold lb_law_row_0
  rw [sIf_eq, ht]
  show (sCons _ _) _ _ = _
  simp [hs, sApp_E, appE_own, appO_of, hl]
theorem ev_row (n : Nat) {m1 m2 m3 : Md} (c : Int) (k : Nat) (s : Int) (hk : k ≤ 1000000) (hs : 0 < s ∧ s < 1073741824) (st : Sto) :
    interp delta (n+1) "_law_row" [(m1, .int c), (m2, .int k), (m3, .int s)] st = .ok (.lst ((rowL c k s).map D.int)) st := by
  rw [run_law_row]
  have hk' : k ≤ sizeLine := Nat.le_trans hk sizeLine_ge
  have hz : (k : Int) ≤ sizeLine ∧ -(2 ^ 62) ≤ (k : Int) := ⟨by omega, by omega⟩
  obtain ⟨e, s', h1, rfl, sl, rfl⟩ := forL_inv (t := tgName 5) (b := lb_law_row_0 (interp delta n)) (fun i env st' => st' = st ∧ ∃ sl, env = [some (.frz, .int c), some (.frz, .int k), some (.frz, .int s), some (.frz, .int (stA c s i)), some (.own, .lst ((rowL c i s).map D.int)), sl])
    (ds := rngD 0 k) (fun i d env st' hd ⟨h0, sl, he⟩ => by
      subst h0 he
      obtain ⟨rfl, hi⟩ := rngD_get hd
      refine ⟨[some (.frz, .int c), some (.frz, .int k), some (.frz, .int s), some (.frz, .int (stA c s i)), some (.own, .lst ((rowL c i s).map D.int)), some (.frz, .int i)], [some (.frz, .int c), some (.frz, .int k), some (.frz, .int s), some (.frz, .int (stA c s (i + 1))), some (.own, .lst ((rowL c (i + 1) s).map D.int)), some (.frz, .int i)], st', by simp [tgName], .inl ?_, rfl, _, rfl⟩
      have hi' : i < sizeLine := Nat.lt_of_lt_of_le (by omega) hk'
      have hr : (rowL c (i+1) s).map D.int = (rowL c i s).map D.int ++ [.int (rowA c s i)] := by simp [rowL, List.range_succ]
      rw [hr]
      by_cases hb : (1000000000000000000 : Int) ≤ c
      · have := row_big c (stA c s i) s k i ((rowL c i s).map D.int) hb hs (by rw [List.length_map, rowL_len]; exact hi') st' (interp delta n)
        rw [this]
        simp [stA, rowA, hb]
      · have := row_small c (stA c s i) s k i ((rowL c i s).map D.int) hb hs (by rw [List.length_map, rowL_len]; exact hi') st' (interp delta n)
        rw [this]
        simp [stA, rowA, hb]) (env := [some (.frz, .int c), some (.frz, .int k), some (.frz, .int s), some (.frz, .int c), some (.own, .lst []), none]) (st := st) ⟨rfl, none, rfl⟩
  rw [show (rngD 0 k).length = k by rw [rngD_len]; omega] at h1
  simp [sh_law_row, sFor_L, hz, h1, -sFor_eq]
/-! ### the house that a law draws -/
theorem opT (i : Int) (st : Sto) (h0 : 0 ≤ i) (h1 : i < 7) : ∃ x, x ∈ opS ∧ kIx (.tup [.str "+", .str "-", .str "*", .str "/", .str "mod", .str "<", .str "="]) (.int i) st = .ok (.str x) st := kIx_tupM D.str opS h0 h1
theorem hoT (i : Int) (st : Sto) (h0 : 0 ≤ i) (h1 : i < 2) : ∃ x, x ∈ [("have" : Str), "out"] ∧ kIx (.tup [.str "have", .str "out"]) (.int i) st = .ok (.str x) st := kIx_tupM D.str ["have", "out"] h0 h1
theorem ggT (i : Int) (st : Sto) (h0 : 0 ≤ i) (h1 : i < 2) : ∃ x, x ∈ [("give" : Str), "get"] ∧ kIx (.tup [.str "give", .str "get"]) (.int i) st = .ok (.str x) st := kIx_tupM D.str ["give", "get"] h0 h1
theorem pickL (V : List Str) (r : Int) (hr : 0 ≤ r) (hV : V ≠ []) (st : Sto) : ∃ x, x ∈ V ∧ kIx (.lst (V.map D.str)) (.int (r % (V.length : Nat))) st = .ok (.str x) st :=
  kIx_lstM D.str V (Int.emod_nonneg _ (by have := List.length_pos_iff.mpr hV; omega)) (Int.emod_lt_of_pos _ (by have := List.length_pos_iff.mpr hV; omega))
/-- a value, list or tuple of pairs -/
def pairsD (t : Bool) (K : List (Str × Str)) : D := if t = true then .tup (K.map pairD) else .lst (K.map pairD)
section
variable (V A : List Str)
theorem ev_expression : ∀ (k n : Nat) (c : Int) (st : Sto), 0 ≤ c → (k = 0 → c = 0) → (k = 1 → c < 60) → k ≤ 2 → ∃ e : Ex, e.ok V A k ∧
    ∀ {m1 m2 m3 : Md}, interp delta (n + k + 1) "_law_expression" [(m1, .int c), (m2, .lst (V.map D.str)), (m3, .lst (A.map D.str))] st = .ok e.d st
  | k, n, c, st, hc, h0, h1, hk => by
    have r0 : 0 ≤ c / 8 := by omega
    by_cases a1 : c % 8 < 2 ∧ V ≠ []
    · obtain ⟨a1, a2⟩ := a1
      have hp : 0 < V.length := List.length_pos_iff.mpr a2
      obtain ⟨x, hx, e⟩ := pickL V (c / 8) r0 a2 st
      refine ⟨.var x, by cases k <;> exact hx, fun {m1 m2 m3} => ?_⟩
      rw [run_law_expression]
      simp [sh_law_expression, a1, hp, e, Ex.d, -kIx_lst]
    · have a1' : c % 8 < 2 → V = [] := fun z => Classical.byContradiction fun w => a1 ⟨z, w⟩
      by_cases a2 : c % 8 = 2
      · refine ⟨.giv, by cases k <;> trivial, fun {m1 m2 m3} => ?_⟩
        rw [run_law_expression]
        simp [sh_law_expression, a2, Ex.d]
      · by_cases a3 : c % 8 = 3 ∧ A ≠ []
        · obtain ⟨a3, a4⟩ := a3
          have hp : 0 < A.length := List.length_pos_iff.mpr a4
          obtain ⟨x, hx, e⟩ := pickL A (c / 8 / 2) (by omega) a4 st
          obtain ⟨y, hy, e2⟩ := hoT (c / 8 % 2) st (by omega) (by omega)
          simp only [List.mem_cons, List.not_mem_nil, or_false] at hy
          rcases hy with rfl | rfl
          · refine ⟨.hav x, by cases k <;> exact hx, fun {m1 m2 m3} => ?_⟩
            rw [run_law_expression]
            simp [sh_law_expression, a3, hp, e, e2, Ex.d, -kIx_lst, -kIx_tup]
          · refine ⟨.out x, by cases k <;> exact hx, fun {m1 m2 m3} => ?_⟩
            rw [run_law_expression]
            simp [sh_law_expression, a3, hp, e, e2, Ex.d, -kIx_lst, -kIx_tup]
        · have a3' : c % 8 = 3 → A = [] := fun z => Classical.byContradiction fun w => a3 ⟨z, w⟩
          by_cases a4 : c % 8 = 4
          · cases k with
            | zero => rw [h0 rfl] at a4; exact absurd a4 (by decide)
            | succ k =>
              obtain ⟨s, hs, e⟩ := opT (c / 8 % 7) st (by omega) (by omega)
              have hb : ∀ j : Int, 0 ≤ j → j = c / 8 / 7 % 60 ∨ j = c / 8 / 420 % 60 → (k = 0 → j = 0) ∧ (k = 1 → j < 60) := fun j j0 hj => by
                refine ⟨fun z => ?_, fun z => ?_⟩
                · have := h1 (by omega)
                  omega
                · omega
              obtain ⟨b1, b2⟩ := hb (c / 8 / 7 % 60) (by omega) (.inl rfl)
              obtain ⟨b3, b4⟩ := hb (c / 8 / 420 % 60) (by omega) (.inr rfl)
              obtain ⟨e1, k1, i1⟩ := ev_expression k n (c / 8 / 7 % 60) st (by omega) b1 b2 (by omega)
              obtain ⟨e2, k2, i2⟩ := ev_expression k n (c / 8 / 420 % 60) st (by omega) b3 b4 (by omega)
              refine ⟨.op s e1 e2, ⟨hs, k1, k2⟩, fun {m1 m2 m3} => ?_⟩
              have i1' : ∀ {m1 m2 m3 : Md}, interp delta (n + (k + 1)) "_law_expression" [(m1, .int (c / 8 / 7 % 60)), (m2, .lst (V.map D.str)), (m3, .lst (A.map D.str))] st = _ := @i1
              have i2' : ∀ {m1 m2 m3 : Md}, interp delta (n + (k + 1)) "_law_expression" [(m1, .int (c / 8 / 420 % 60)), (m2, .lst (V.map D.str)), (m3, .lst (A.map D.str))] st = _ := @i2
              rw [run_law_expression]
              simp [sh_law_expression, a4, e, i1', i2', Ex.d, -kIx_lst, -kIx_tup]
          · have n0 : 0 ≤ c / 8 % 4 := by omega
            have hd : ((c / 8 % 4).toNat : Int) = c / 8 % 4 := Int.toNat_of_nonneg n0
            refine ⟨.num (c / 8 % 4).toNat, by cases k <;> (show (c / 8 % 4).toNat ≤ 3; omega), fun {m1 m2 m3} => ?_⟩
            rw [run_law_expression]
            by_cases b1 : c % 8 < 2
            · have hV := a1' b1
              have b3 : ¬ c % 8 = 3 := by omega
              simp [sh_law_expression, b1, hV, a2, a4, b3, hd, Ex.d]
            · by_cases b3 : c % 8 = 3
              · have hA := a3' b3
                simp [sh_law_expression, b3, hA, hd, Ex.d]
              · simp [sh_law_expression, b1, b3, a2, a4, hd, Ex.d]
theorem ev_ex2 (n : Nat) (c : Int) (st : Sto) (hc : 0 ≤ c) : ∃ e : Ex, e.ok V A 3 ∧ ∀ {m1 m2 m3 : Md}, interp delta (n + 3) "_law_expression" [(m1, .int c), (m2, .lst (V.map D.str)), (m3, .lst (A.map D.str))] st = .ok e.d st := by
  obtain ⟨e, h, i⟩ := ev_expression V A 2 n c st hc (by omega) (by omega) (by omega)
  exact ⟨e, Ex.ok_up h, @i⟩
end
section
variable (V A : List Str)
/-- plain statements: nothing known, no question -/
theorem ev_statement (n : Nat) (c : Int) (K : List (Str × Str)) (t : Bool) (a : Nat) (st : Sto) (hc : 0 ≤ c) : ∃ s : Sm, s.ok V A K 0 ∧ s.asks ≤ a ∧ s.asks ≤ 1 ∧ (s.asks = 1 ↔ ∃ v k, s = .ask v k) ∧
    ∀ {m1 m2 m3 m4 m5 : Md}, interp delta (n + 4) "_law_statement" [(m1, .int c), (m2, .lst (V.map D.str)), (m3, .lst (A.map D.str)), (m4, pairsD t K), (m5, .int (a : Nat))] st = .ok s.d st := by
  have r0 : 0 ≤ c / 7 := by omega
  have hK : ∀ (m : Md), slotA (m, pairsD t K) = some (if t = true then .frz else flM m, pairsD t K) := fun m => by cases t <;> cases m <;> rfl
  have hlen : ∀ st, kLen [pairsD t K] st = .ok (.int (K.length : Nat)) st := fun st => by cases t <;> simp [pairsD]
  have hr : ∀ (m : Md) (r : Ev) st, bVarR 0 (some (if t = true then .frz else flM m, pairsD t K) :: r) st = .ok (pairsD t K) st := fun m r st => by cases t <;> simp
  by_cases b0 : c % 7 = 0 ∧ V ≠ []
  · obtain ⟨b0, b1⟩ := b0
    have hp : 0 < V.length := List.length_pos_iff.mpr b1
    obtain ⟨x, hx, e⟩ := pickL V (c / 7) r0 b1 st
    obtain ⟨e1, k1, i1⟩ := ev_ex2 V A n (c / 7 / 6) st (by omega)
    refine ⟨.set x e1, ⟨hx, k1⟩, Nat.zero_le _, Nat.zero_le _, ⟨fun z => (by cases z), fun ⟨v, k, z⟩ => (by cases z)⟩, fun {m1 m2 m3 m4 m5} => ?_⟩
    rw [run_law_statement]
    simp [sh_law_statement, b0, hp, e, i1, Sm.d, -kIx_lst]
  · have b0' : c % 7 = 0 → V = [] := fun z => Classical.byContradiction fun w => b0 ⟨z, w⟩
    by_cases b1 : c % 7 = 1
    · obtain ⟨e1, k1, i1⟩ := ev_ex2 V A n (c / 7) st (by omega)
      refine ⟨.need e1, k1, Nat.zero_le _, Nat.zero_le _, ⟨fun z => (by cases z), fun ⟨v, k, z⟩ => (by cases z)⟩, fun {m1 m2 m3 m4 m5} => ?_⟩
      rw [run_law_statement]
      simp [sh_law_statement, b1, i1, Sm.d]
    · by_cases b2 : c % 7 < 4 ∧ A ≠ []
      · obtain ⟨b2, b3⟩ := b2
        have hp : 0 < A.length := List.length_pos_iff.mpr b3
        have hz : c % 7 = 0 → ¬ 0 < V.length := fun z w => by rw [b0' z] at w; exact absurd w (by simp)
        obtain ⟨x, hx, e⟩ := pickL A (c / 7 / 2) (by omega) b3 st
        obtain ⟨e1, k1, i1⟩ := ev_ex2 V A n (c / 7 / 6) st (by omega)
        obtain ⟨y, hy, e2⟩ := ggT (c / 7 % 2) st (by omega) (by omega)
        simp only [List.mem_cons, List.not_mem_nil, or_false] at hy
        rcases hy with rfl | rfl
        · refine ⟨.give x e1, ⟨hx, k1⟩, Nat.zero_le _, Nat.zero_le _, ⟨fun z => (by cases z), fun ⟨v, k, z⟩ => (by cases z)⟩, fun {m1 m2 m3 m4 m5} => ?_⟩
          rw [run_law_statement]
          by_cases z : c % 7 = 0
          · have zV := b0' z
            simp [sh_law_statement, z, zV, hp, e, e2, Sm.d, -kIx_lst, -kIx_tup] at i1 ⊢
            simp [i1]
          · simp [sh_law_statement, z, b1, b2, hp, e, e2, i1, Sm.d, -kIx_lst, -kIx_tup]
        · refine ⟨.get x e1, ⟨hx, k1⟩, Nat.zero_le _, Nat.zero_le _, ⟨fun z => (by cases z), fun ⟨v, k, z⟩ => (by cases z)⟩, fun {m1 m2 m3 m4 m5} => ?_⟩
          rw [run_law_statement]
          by_cases z : c % 7 = 0
          · have zV := b0' z
            simp [sh_law_statement, z, zV, hp, e, e2, Sm.d, -kIx_lst, -kIx_tup] at i1 ⊢
            simp [i1]
          · simp [sh_law_statement, z, b1, b2, hp, e, e2, i1, Sm.d, -kIx_lst, -kIx_tup]
      · have b2' : c % 7 < 4 → A = [] := fun z => Classical.byContradiction fun w => b2 ⟨z, w⟩
        have g0 : (bAndT (bTst (bBin kEq (bVarR 5) (bC (D.int 0)))) (bTst (bBin kGt (bCall kLen (lCons (bVarR 1) lNil)) (bC (D.int 0))))) = (bAndT (bTst (bBin kEq (bVarR 5) (bC (D.int 0)))) (bTst (bBin kGt (bCall kLen (lCons (bVarR 1) lNil)) (bC (D.int 0))))) := rfl
        by_cases b3 : c % 7 = 4 ∧ V ≠ [] ∧ 0 < a
        · obtain ⟨b3, b4, b5⟩ := b3
          have hp : 0 < V.length := List.length_pos_iff.mpr b4
          have hpa : (0 : Int) < (a : Nat) := by omega
          obtain ⟨x, hx, e⟩ := pickL V (c / 7) r0 b4 st
          have hd : ((1 + c / 7 / 6 % 2).toNat : Int) = 1 + c / 7 / 6 % 2 := Int.toNat_of_nonneg (by omega)
          refine ⟨.ask x (1 + c / 7 / 6 % 2).toNat, ⟨hx, by omega, by omega⟩, b5, Nat.le_refl _, ⟨fun _ => ⟨_, _, rfl⟩, fun _ => rfl⟩, fun {m1 m2 m3 m4 m5} => ?_⟩
          rw [run_law_statement]
          simp [sh_law_statement, b3, hp, b5, e, hd, Sm.d, -kIx_lst]
        · by_cases b4 : c % 7 = 5 ∧ K ≠ []
          · obtain ⟨b4, b5⟩ := b4
            have hp : 0 < K.length := List.length_pos_iff.mpr b5
            obtain ⟨e1, k1, i1⟩ := ev_ex2 V A n (c / 7 / 12) st (by omega)
            have hpk : ∃ x, x ∈ K ∧ ∀ st, kIx (pairsD t K) (.int (c / 7 % (K.length : Nat))) st = .ok (pairD x) st := by
              have h0 : 0 ≤ c / 7 % (K.length : Nat) := Int.emod_nonneg _ (by omega)
              have h1 : c / 7 % (K.length : Nat) < (K.length : Nat) := Int.emod_lt_of_pos _ (by omega)
              obtain ⟨j, hj⟩ := Int.eq_ofNat_of_zero_le h0
              have hjl : j < K.length := by omega
              refine ⟨K[j], List.getElem_mem hjl, fun st => ?_⟩
              rw [hj]
              have : (K.map pairD)[j]? = some (pairD K[j]) := by rw [List.getElem?_map, List.getElem?_eq_getElem hjl]; rfl
              cases t
              · exact kIx_lst_of (atI_nat this)
              · exact kIx_tup_of (atI_nat this)
            obtain ⟨x, hx, e⟩ := hpk
            refine ⟨.call x.1 x.2 e1, ⟨hx, k1⟩, Nat.zero_le _, Nat.zero_le _, ⟨fun z => (by cases z), fun ⟨v, k, z⟩ => (by cases z)⟩, fun {m1 m2 m3 m4 m5} => ?_⟩
            rw [run_law_statement]
            simp [sh_law_statement, b4, hK, hlen, hr, hp, e, i1, Sm.d]
          · -- the rest
            have f3 : ¬ (c % 7 = 4 ∧ 0 < V.length ∧ (0 : Int) < (a : Nat)) := fun ⟨x, y, z⟩ => b3 ⟨x, (List.length_pos_iff.mp y), by omega⟩
            have f4 : c % 7 = 5 → K = [] := fun z => Classical.byContradiction fun w => b4 ⟨z, w⟩
            have hd : ((c / 7 % 3).toNat : Int) = c / 7 % 3 := Int.toNat_of_nonneg (by omega)
            have t4 : ∀ st m1 m2 m3 m4 m5 (g : FS), (sIf (bAndT (bTst (bBin kEq (bVarR 5) (bC (D.int 4)))) (bAndT (bTst (bBin kGt (bCall kLen (lCons (bVarR 1) lNil)) (bC (D.int 0)))) (bTst (bBin kGt (bVarR 4) (bC (D.int 0)))))) g sNil) [slotA (m1, .int c), slotA (m2, .lst (V.map D.str)), slotA (m3, .lst (A.map D.str)), slotA (m4, pairsD t K), slotA (m5, .int (a : Nat)), some (.frz, .int (c % 7)), some (.frz, .int (c / 7)), none] st = .next [slotA (m1, .int c), slotA (m2, .lst (V.map D.str)), slotA (m3, .lst (A.map D.str)), slotA (m4, pairsD t K), slotA (m5, .int (a : Nat)), some (.frz, .int (c % 7)), some (.frz, .int (c / 7)), none] st := fun st m1 m2 m3 m4 m5 g => by
              by_cases z1 : c % 7 = 4
              · by_cases z2 : 0 < V.length
                · have z3 : ¬ 0 < a := fun z3 => f3 ⟨z1, z2, by omega⟩
                  simp [z1, z2, z3, hK]
                · simp [z1, z2, hK]
              · simp [z1, hK]
            have t5 : ∀ st m1 m2 m3 m4 m5 (g : FS), (sIf (bAndT (bTst (bBin kEq (bVarR 5) (bC (D.int 5)))) (bTst (bBin kGt (bCall kLen (lCons (bVarR 3) lNil)) (bC (D.int 0))))) g sNil) [slotA (m1, .int c), slotA (m2, .lst (V.map D.str)), slotA (m3, .lst (A.map D.str)), slotA (m4, pairsD t K), slotA (m5, .int (a : Nat)), some (.frz, .int (c % 7)), some (.frz, .int (c / 7)), none] st = .next [slotA (m1, .int c), slotA (m2, .lst (V.map D.str)), slotA (m3, .lst (A.map D.str)), slotA (m4, pairsD t K), slotA (m5, .int (a : Nat)), some (.frz, .int (c % 7)), some (.frz, .int (c / 7)), none] st := fun st m1 m2 m3 m4 m5 g => by
              by_cases z1 : c % 7 = 5
              · have z2 : ¬ 0 < K.length := by rw [f4 z1]; simp
                simp [z1, z2, hK, hr, hlen]
              · simp [z1, hK]
            have t2 : ∀ st m1 m2 m3 m4 m5 (g : FS), (sIf (bAndT (bTst (bBin kLt (bVarR 5) (bC (D.int 4)))) (bTst (bBin kGt (bCall kLen (lCons (bVarR 2) lNil)) (bC (D.int 0))))) g sNil) [slotA (m1, .int c), slotA (m2, .lst (V.map D.str)), slotA (m3, .lst (A.map D.str)), slotA (m4, pairsD t K), slotA (m5, .int (a : Nat)), some (.frz, .int (c % 7)), some (.frz, .int (c / 7)), none] st = .next [slotA (m1, .int c), slotA (m2, .lst (V.map D.str)), slotA (m3, .lst (A.map D.str)), slotA (m4, pairsD t K), slotA (m5, .int (a : Nat)), some (.frz, .int (c % 7)), some (.frz, .int (c / 7)), none] st := fun st m1 m2 m3 m4 m5 g => by
              by_cases z1 : c % 7 < 4
              · have z2 : ¬ 0 < A.length := by rw [b2' z1]; simp
                simp [z1, z2, hK]
              · simp [z1, hK]
            have t0 : ∀ st m1 m2 m3 m4 m5 (g : FS), (sIf (bAndT (bTst (bBin kEq (bVarR 5) (bC (D.int 0)))) (bTst (bBin kGt (bCall kLen (lCons (bVarR 1) lNil)) (bC (D.int 0))))) g sNil) [slotA (m1, .int c), slotA (m2, .lst (V.map D.str)), slotA (m3, .lst (A.map D.str)), slotA (m4, pairsD t K), slotA (m5, .int (a : Nat)), some (.frz, .int (c % 7)), some (.frz, .int (c / 7)), none] st = .next [slotA (m1, .int c), slotA (m2, .lst (V.map D.str)), slotA (m3, .lst (A.map D.str)), slotA (m4, pairsD t K), slotA (m5, .int (a : Nat)), some (.frz, .int (c % 7)), some (.frz, .int (c / 7)), none] st := fun st m1 m2 m3 m4 m5 g => by
              by_cases z1 : c % 7 = 0
              · have z2 : ¬ 0 < V.length := by rw [b0' z1]; simp
                simp [z1, z2, hK]
              · simp [z1, hK]
            have t1 : ∀ st m1 m2 m3 m4 m5 (g : FS), (sIf (bTst (bBin kEq (bVarR 5) (bC (D.int 1)))) g sNil) [slotA (m1, .int c), slotA (m2, .lst (V.map D.str)), slotA (m3, .lst (A.map D.str)), slotA (m4, pairsD t K), slotA (m5, .int (a : Nat)), some (.frz, .int (c % 7)), some (.frz, .int (c / 7)), none] st = .next [slotA (m1, .int c), slotA (m2, .lst (V.map D.str)), slotA (m3, .lst (A.map D.str)), slotA (m4, pairsD t K), slotA (m5, .int (a : Nat)), some (.frz, .int (c % 7)), some (.frz, .int (c / 7)), none] st := fun st m1 m2 m3 m4 m5 g => by
              simp [b1, hK]
            have s56 : ∀ st m1 m2 m3 m4 m5 (G : FS), (sCons (sSet 5 (bBin kMod (bCall kInt (lCons (bVarR 0) lNil)) (bC (D.int 7)))) (sCons (sSet 6 (bBin kFdiv (bCall kInt (lCons (bVarR 0) lNil)) (bC (D.int 7)))) G)) [slotA (m1, .int c), slotA (m2, .lst (V.map D.str)), slotA (m3, .lst (A.map D.str)), slotA (m4, pairsD t K), slotA (m5, .int (a : Nat)), none, none, none] st = G [slotA (m1, .int c), slotA (m2, .lst (V.map D.str)), slotA (m3, .lst (A.map D.str)), slotA (m4, pairsD t K), slotA (m5, .int (a : Nat)), some (.frz, .int (c % 7)), some (.frz, .int (c / 7)), none] st := fun st m1 m2 m3 m4 m5 G => by
              simp
            by_cases z : V = []
            · refine ⟨.need (.num 1), (show (1 : Nat) ≤ 3 by decide), Nat.zero_le _, Nat.zero_le _, ⟨fun z => (by cases z), fun ⟨v, k, z⟩ => (by cases z)⟩, fun {m1 m2 m3 m4 m5} => ?_⟩
              rw [run_law_statement]
              unfold sh_law_statement
              rw [s56, sCons_eq, t0, seq_next, sCons_eq, t1, seq_next, sCons_eq, t2, seq_next, sCons_eq, t4, seq_next, sCons_eq, t5, seq_next]
              subst z
              simp [Sm.d, Ex.d]
            · obtain ⟨v, V', hV⟩ : ∃ v V', V = v :: V' := by cases V with | nil => exact absurd rfl z | cons v V' => exact ⟨v, V', rfl⟩
              refine ⟨.set v (.num (c / 7 % 3).toNat), ⟨by rw [hV]; exact List.mem_cons_self .., (show (c / 7 % 3).toNat ≤ 3 by omega)⟩, Nat.zero_le _, Nat.zero_le _, ⟨fun z => (by cases z), fun ⟨v, k, z⟩ => (by cases z)⟩, fun {m1 m2 m3 m4 m5} => ?_⟩
              rw [run_law_statement]
              unfold sh_law_statement
              rw [s56, sCons_eq, t0, seq_next, sCons_eq, t1, seq_next, sCons_eq, t2, seq_next, sCons_eq, t4, seq_next, sCons_eq, t5, seq_next]
              have hp : (0 : Int) < (V'.length : Int) + 1 := by omega
              subst hV
              simp [Sm.d, Ex.d, hd, hp]
end
end K40

namespace K40
open PySem L2 NC
section
variable {V A : List Str} {K : List (Str × Str)}
theorem Sm.ok_up1 {s : Sm} (h : s.ok V A K 0) : s.ok V A K 1 := by
  cases s <;> first | exact h | exact absurd h id
theorem Sm.ok_nil {s : Sm} (h : s.ok V A [] 0) : s.ok V A K 0 := by
  cases s with
  | call c p e => exact absurd h.1 (by simp)
  | _ => exact h
theorem tag_ask {s : Sm} (h : s.ok V A K 0) (e : Ev) (st : Sto) (i : Nat) (hi : e[i]? = some (some (.frz, s.d))) : (bCall kInt (lCons (bBin kEq (bBin kIx (bVarR i) (bC (D.int 0))) (bC (D.str "ask"))) lNil)) e st = .ok (.int (s.asks : Nat)) st := by
  have hv : bVarR i e st = .ok s.d st := bVarR_of (by intro z; cases z) hi
  cases s <;> first | (simp [hv, Sm.d, Sm.asks, ofS_inj]; done) | exact absurd h id
theorem Bl.one (s : Sm) : (Bl.cons s .nil).ds = [s.d] := by rw [Bl.ds, Bl.ds]
/-- one turn of _law_body -/
theorem turn_body (n : Nat) (c : Int) (cs : List D) (m1 m2 m3 m4 m5 : Md) (t : Bool) (a : Nat) (s4 s8 s9 s10 : NC.Slot) (ds : List D) (st : Sto) (hc : 0 ≤ c) (hd : ds.length < 1000) :
    ∃ s : Sm, s.ok V A K 1 ∧ s.asks ≤ a ∧ ∃ s8' s9' s10', lb_law_body_0 (interp delta (n + 4)) [slotA (m1, .lst cs), slotA (m2, .lst (V.map D.str)), slotA (m3, .lst (A.map D.str)), slotA (m4, pairsD t K), s4, some (.own, .lst ds), some (.frz, .int (a : Nat)), some (.frz, .int c), s8, s9, s10] st =
      .next [slotA (m1, .lst cs), slotA (m2, .lst (V.map D.str)), slotA (m3, .lst (A.map D.str)), slotA (m4, pairsD t K), s4, some (.own, .lst (ds ++ [s.d])), some (.frz, .int ((a - s.asks : Nat))), some (.frz, .int c), s8', s9', s10'] st := by
  have hz := sz6
  have hdl : ds.length < sizeLine := by omega
  have hK : ∀ (m : Md), slotA (m, pairsD t K) = some (if t = true then .frz else flM m, pairsD t K) := fun m => by cases t <;> cases m <;> rfl
  have hr : ∀ (m : Md) (r : Ev) st, bVarR 0 (some (if t = true then .frz else flM m, pairsD t K) :: r) st = .ok (pairsD t K) st := fun m r st => by cases t <;> simp
  have hp0 : pairsD true [] = .tup [] := rfl
  by_cases hb : c % 11 = 5 ∧ 1 < cs.length
  · obtain ⟨h1, h2⟩ := hb
    have h2' : ¬ ((cs.length : Nat) : Int) ≤ 1 := by omega
    have h2'' : (1 : Int) < (cs.length : Nat) := by omega
    obtain ⟨s1, k1, _, _, _, i1⟩ := ev_statement V A n (c / 11) [] true 0 st (by omega)
    obtain ⟨e1, k3, i3⟩ := ev_ex2 V A (n + 1) (c / 22) st (by omega)
    have i1' : ∀ {m1 m2 m3 m4 m5 : Md}, interp delta (n + 4) "_law_statement" [(m1, .int (c / 11)), (m2, .lst (V.map D.str)), (m3, .lst (A.map D.str)), (m4, .tup []), (m5, .int 0)] st = _ := @i1
    have i3' : ∀ {m1 m2 m3 : Md}, interp delta (n + 4) "_law_expression" [(m1, .int (c / 22)), (m2, .lst (V.map D.str)), (m3, .lst (A.map D.str))] st = _ := @i3
    by_cases h3 : c / 11 % 2 = 1
    · obtain ⟨s2, k2, _, _, _, i2⟩ := ev_statement V A n (c / 77) [] true 0 st (by omega)
      have i2' : ∀ {m1 m2 m3 m4 m5 : Md}, interp delta (n + 4) "_law_statement" [(m1, .int (c / 77)), (m2, .lst (V.map D.str)), (m3, .lst (A.map D.str)), (m4, .tup []), (m5, .int 0)] st = _ := @i2
      have a1 : s1.asks = 0 := by omega
      have a2 : s2.asks = 0 := by omega
      refine ⟨.ife e1 (.cons s1 .nil) (.cons s2 .nil), ⟨k3, ⟨Sm.ok_nil k1, trivial⟩, ⟨Sm.ok_nil k2, trivial⟩, by rw [Bl.len, Bl.len]; exact Nat.le_refl _, by rw [Bl.len, Bl.len]; exact Nat.le_refl _⟩, by simp [Sm.asks, Bl.asks, a1, a2], some (.frz, s1.d), some (.frz, .tup [s2.d]), s10, ?_⟩
      simp [lb_law_body_0, h1, h2, h2', h2'', i1', i2', i3', h3, sApp_E, appE_own, appO_of, hdl, Sm.d, Bl.one, Sm.asks, Bl.asks, a1, a2, hK, hr]
    · have a1 : s1.asks = 0 := by omega
      refine ⟨.ife e1 (.cons s1 .nil) .nil, ⟨k3, ⟨Sm.ok_nil k1, trivial⟩, trivial, by rw [Bl.len, Bl.len]; exact Nat.le_refl _, by rw [Bl.len]; exact Nat.zero_le _⟩, by simp [Sm.asks, Bl.asks, a1], some (.frz, s1.d), some (.frz, .tup []), s10, ?_⟩
      have hnil : Bl.nil.ds = [] := by rw [Bl.ds]
      simp [lb_law_body_0, h1, h2, h2', h2'', i1', i3', h3, sApp_E, appE_own, appO_of, hdl, Sm.d, Bl.one, Sm.asks, Bl.asks, a1, hK, hr, hnil]
  · obtain ⟨s1, k1, ka, ka1, _, i1⟩ := ev_statement V A n (c / 11) K t a st (by omega)
    refine ⟨s1, Sm.ok_up1 k1, ka, s8, s9, some (.frz, s1.d), ?_⟩
    have ht : (bAndT (bTst (bBin kEq (bBin kMod (bCall kInt (lCons (bVarR 7) lNil)) (bC (D.int 11))) (bC (D.int 5)))) (bTst (bBin kGt (bCall kLen (lCons (bVarR 0) lNil)) (bC (D.int 1))))) [slotA (m1, .lst cs), slotA (m2, .lst (V.map D.str)), slotA (m3, .lst (A.map D.str)), slotA (m4, pairsD t K), s4, some (.own, .lst ds), some (.frz, .int (a : Nat)), some (.frz, .int c), s8, s9, s10] st = .ok false st := by
      by_cases z1 : c % 11 = 5
      · have z2 : ¬ (1 : Int) < (cs.length : Nat) := fun z => hb ⟨z1, by omega⟩
        simp [z1]
        omega
      · simp [z1]
    have hsub : ((a : Nat) : Int) - (s1.asks : Nat) = ((a - s1.asks : Nat) : Int) := by omega
    have htag := tag_ask k1 [slotA (m1, .lst cs), slotA (m2, .lst (V.map D.str)), slotA (m3, .lst (A.map D.str)), slotA (m4, pairsD t K), s4, some (.own, .lst ds), some (.frz, .int (a : Nat)), some (.frz, .int c), s8, s9, some (.frz, s1.d)] st 10 rfl
    unfold lb_law_body_0
    rw [sIf_eq, ht, outB_ok, if_neg Bool.false_ne_true, sCons_eq]
    have e1 : (sAsg (tgName 10) (bDef (interp delta (n + 4)) "_law_statement" [.rd, .rd, .rd, .rd, .rd] (lCons (bBin kFdiv (bCall kInt (lCons (bVarR 7) lNil)) (bC (D.int 11))) (lCons (bVarR 1) (lCons (bVarR 2) (lCons (bVarR 3) (lCons (bVarR 6) lNil))))))) [slotA (m1, .lst cs), slotA (m2, .lst (V.map D.str)), slotA (m3, .lst (A.map D.str)), slotA (m4, pairsD t K), s4, some (.own, .lst ds), some (.frz, .int (a : Nat)), some (.frz, .int c), s8, s9, s10] st = .next [slotA (m1, .lst cs), slotA (m2, .lst (V.map D.str)), slotA (m3, .lst (A.map D.str)), slotA (m4, pairsD t K), s4, some (.own, .lst ds), some (.frz, .int (a : Nat)), some (.frz, .int c), s8, s9, some (.frz, s1.d)] st := by
      simp [i1, hK, hr]
    rw [e1, seq_next, sCons_eq, sSet_eq, bBin_eq]
    rw [show bVarR 6 [slotA (m1, .lst cs), slotA (m2, .lst (V.map D.str)), slotA (m3, .lst (A.map D.str)), slotA (m4, pairsD t K), s4, some (.own, .lst ds), some (.frz, .int (a : Nat)), some (.frz, .int c), s8, s9, some (.frz, s1.d)] st = .ok (.int (a : Nat)) st from rfl, bind_ok, htag, bind_ok, kSub_int, hsub, out_ok, if_pos (by simp), seq_next, sApp_E]
    simp only [List.set_cons_succ, List.set_cons_zero, List.getElem?_cons_succ, List.getElem?_cons_zero, appE_own, bVar_s, bVar_z, out_ok, slotOf_int]
    rw [appO_of _ _ _ hdl]
    simp only [List.set_cons_succ, List.set_cons_zero]
theorem loop_body (n : Nat) (cs : List D) (m1 m2 m3 m4 m5 : Md) (t : Bool) (s4 : NC.Slot) (st : Sto) : ∀ (ns : List Int) (a : Nat) (b0 : Bl) (s7 s8 s9 s10 : NC.Slot), (∀ c ∈ ns, 0 ≤ c) → b0.len + ns.length < 1000 →
    ∃ b : Bl, b.ok V A K 1 ∧ b.asks ≤ a ∧ b.len = ns.length ∧ ∃ s7' s8' s9' s10', forL (tgName 7) (lb_law_body_0 (interp delta (n + 4))) (ns.map D.int) [slotA (m1, .lst cs), slotA (m2, .lst (V.map D.str)), slotA (m3, .lst (A.map D.str)), slotA (m4, pairsD t K), s4, some (.own, .lst b0.ds), some (.frz, .int (a : Nat)), s7, s8, s9, s10] st =
      .next [slotA (m1, .lst cs), slotA (m2, .lst (V.map D.str)), slotA (m3, .lst (A.map D.str)), slotA (m4, pairsD t K), s4, some (.own, .lst (b0.app b).ds), some (.frz, .int ((a - b.asks : Nat))), s7', s8', s9', s10'] st
  | [], a, b0, s7, s8, s9, s10, _, _ => ⟨.nil, trivial, Nat.zero_le _, by rw [Bl.len]; rfl, s7, s8, s9, s10, by rw [Bl.ds_app, show Bl.nil.ds = [] by rw [Bl.ds], List.append_nil, show Bl.nil.asks = 0 by rw [Bl.asks]]; rfl⟩
  | c :: ns, a, b0, s7, s8, s9, s10, hc, hl => by
    obtain ⟨s, k1, k2, s8', s9', s10', e⟩ := turn_body (V := V) (A := A) (K := K) n c cs m1 m2 m3 m4 m5 t a s4 s8 s9 s10 b0.ds st (hc c (List.mem_cons_self ..)) (by rw [Bl.ds_len]; simp at hl; omega)
    obtain ⟨b, j1, j2, j3, s7', q8, q9, q10, ih⟩ := loop_body n cs m1 m2 m3 m4 m5 t s4 st ns (a - s.asks) (b0.app (.cons s .nil)) (some (.frz, .int c)) s8' s9' s10' (fun x hx => hc x (List.mem_cons_of_mem _ hx)) (by rw [Bl.len_app]; simp at hl; rw [Bl.len, Bl.len]; omega)
    have ea : (Bl.cons s b).asks = s.asks + b.asks := by rw [Bl.asks]
    refine ⟨.cons s b, by rw [Bl.ok]; exact ⟨k1, j1⟩, by rw [ea]; omega, by rw [Bl.len, j3]; rfl, s7', q8, q9, q10, ?_⟩
    rw [List.map_cons, forL_name _ _ _ _ (by simp)]
    simp only [List.set_cons_succ, List.set_cons_zero]
    rw [e, turn_next]
    have e2 : (b0.app (.cons s .nil)).ds = b0.ds ++ [s.d] := by rw [Bl.ds_app, Bl.one]
    rw [e2] at ih
    rw [ih, ea, Nat.sub_add_eq]
    have e3 : ((b0.app (.cons s .nil)).app b).ds = (b0.app (.cons s b)).ds := by
      rw [Bl.ds_app, Bl.ds_app, Bl.ds_app, Bl.one, Bl.ds, List.append_assoc]; rfl
    rw [e3]
theorem ev_body (n : Nat) (ns : List Int) (m1 m2 m3 m4 : Md) (t : Bool) (a : Nat) (st : Sto) (hc : ∀ c ∈ ns, 0 ≤ c) (hl : ns.length < 1000) :
    ∃ b : Bl, b.ok V A K 1 ∧ b.asks ≤ a ∧ b.len = ns.length ∧ interp delta (n + 5) "_law_body" [(m1, .lst (ns.map D.int)), (m2, .lst (V.map D.str)), (m3, .lst (A.map D.str)), (m4, pairsD t K), (.esc, .int (a : Nat))] st = .ok (.tup [.tup b.ds, .int ((a - b.asks : Nat))]) st := by
  obtain ⟨b, j1, j2, j3, s7', q8, q9, q10, ih⟩ := loop_body (V := V) (A := A) (K := K) n (ns.map D.int) m1 m2 m3 m4 .esc t (slotA (.esc, .int (a : Nat))) st ns a .nil none none none none hc (by rw [Bl.len]; omega)
  have e0 : Bl.nil.ds = [] := by rw [Bl.ds]
  rw [e0] at ih
  refine ⟨b, j1, j2, j3, ?_⟩
  rw [run_law_body]
  have hi : ∀ r, iVar 0 (slotA (m1, .lst (ns.map D.int)) :: r) st = .ok (ns.map D.int) st := fun r => by rw [slotA_lst, iVar_flM]
  have ha : (Bl.nil.app b) = b := by rw [Bl.app]
  rw [ha] at ih
  unfold sh_law_body
  rw [sCons_eq]
  rw [show (sSet 5 (bLst lNil)) [slotA (m1, .lst (ns.map D.int)), slotA (m2, .lst (V.map D.str)), slotA (m3, .lst (A.map D.str)), slotA (m4, pairsD t K), slotA (.esc, .int (a : Nat)), none, none, none, none, none, none] st = .next [slotA (m1, .lst (ns.map D.int)), slotA (m2, .lst (V.map D.str)), slotA (m3, .lst (A.map D.str)), slotA (m4, pairsD t K), slotA (.esc, .int (a : Nat)), some (.own, .lst []), none, none, none, none, none] st from rfl, seq_next, sCons_eq]
  rw [show (sAsg (tgName 6) (bVar 4)) [slotA (m1, .lst (ns.map D.int)), slotA (m2, .lst (V.map D.str)), slotA (m3, .lst (A.map D.str)), slotA (m4, pairsD t K), slotA (.esc, .int (a : Nat)), some (.own, .lst []), none, none, none, none, none] st = .next [slotA (m1, .lst (ns.map D.int)), slotA (m2, .lst (V.map D.str)), slotA (m3, .lst (A.map D.str)), slotA (m4, pairsD t K), slotA (.esc, .int (a : Nat)), some (.own, .lst []), some (.frz, .int (a : Nat)), none, none, none, none] st from rfl, seq_next, sCons_eq, sFor_L, hi, outL_ok, ih, seq_next]
  simp
end
end K40

namespace K40
open PySem L2 NC
/-! ### contracts -/
theorem kIx_row (c s : Int) (k i : Nat) (j : Int) (st : Sto) (hi : i < k) (hj : j = (i : Nat)) : kIx (.lst ((rowL c k s).map D.int)) (.int j) st = .ok (.int (rowA c s i)) st := by
  subst hj
  refine kIx_lst_of (atI_nat ?_)
  rw [List.getElem?_map]
  unfold rowL
  rw [List.getElem?_map, List.getElem?_range hi]; rfl
theorem comp_rng {own : List Nat} {e f : F} {i : Nat} {env : Ev} {st : Sto} (n : Nat) (g : Nat → D) (he : e env st = .ok (.int (n : Nat)) st) (hn : n ≤ 1000) (hi : i < (wipeE env own).length)
    (h : ∀ k, k < n → f ((wipeE env own).set i (some (.frz, .int (k : Nat)))) st = .ok (g k) st) : bComp own (iRng1D e) (tgName i) cYes f env st = .ok (.lst ((List.range n).map g)) st := by
  have hz := sz6
  refine bComp_of (ds := rngD 0 n) (iRng1D_int _ _ he ⟨by omega, by omega⟩) ?_
  have := compL_map (t := tgName i) (f := f) (env := wipeE env own) (st := st) (fun d => match d with | .int k => g k.toNat | _ => .non) (ds := rngD 0 n) fun d hd => by
    obtain ⟨j, hj⟩ := List.getElem?_of_mem hd
    obtain ⟨rfl, hj2⟩ := rngD_get hj
    refine ⟨_, by unfold tgName; rw [if_pos hi], ?_⟩
    have := h j (by omega)
    rw [show ((0 : Int) + (j : Nat)) = (j : Nat) by omega]
    rw [this]
    simp
  rw [this]
  congr 1
  unfold rngD
  rw [List.map_map]
  simp
theorem comp_names {own : List Nat} {fi : FL} {f : F} {i : Nat} {c : FB} {env : Ev} {st : Sto} (V : List Str) (b : Bool) (g : Str → D) (he : fi env st = .ok (V.map D.str) st) (hi : i < (wipeE env own).length)
    (hc : ∀ x, x ∈ V → c ((wipeE env own).set i (some (.frz, .str x))) st = .ok b st) (h : ∀ x, x ∈ V → f ((wipeE env own).set i (some (.frz, .str x))) st = .ok (g x) st) : bComp own fi (tgName i) c f env st = .ok (.lst (if b = true then V.map g else [])) st := by
  refine bComp_of he ?_
  have := compL_filter (t := tgName i) (c := c) (f := f) (env := wipeE env own) (st := st) (fun _ => b) (fun d => match d with | .str x => g x | _ => .non) (ds := V.map D.str) fun d hd => by
    obtain ⟨x, hx, rfl⟩ := List.mem_map.mp hd
    exact ⟨_, by unfold tgName; rw [if_pos hi], hc x hx, fun _ => h x hx⟩
  rw [this]
  cases b with
  | false => simp
  | true =>
    rw [List.filter_eq_self.mpr fun _ _ => rfl, List.map_map]
    rfl
theorem range_names (V : List Str) : (List.range V.length).map (fun k => V.getD k "") = V := by
  apply List.ext_getElem
  · simp
  · intro i h1 h2
    simp
    rw [List.getElem?_eq_getElem h2]; rfl
def isC (d : D) : Bool := match d with
  | .tup (.str t :: _) => decide (t = "call")
  | _ => false
theorem isC_op {s : Str} (h : s ∈ opS) : s ≠ "call" := by
  intro e; subst e; revert h; decide +kernel
theorem isC_sm {V A : List Str} {K : List (Str × Str)} {d : Nat} {s : Sm} (h : s.ok V A K d) : isC s.d = s.isCall := by
  cases s <;> simp [Sm.d, isC, Sm.isCall, ofS_inj]
theorem sm_ix0 (s : Sm) (st : Sto) : ∃ t, kIx s.d (.int 0) st = .ok (.str t) st ∧ isC s.d = decide (t = "call") := by
  cases s <;> exact ⟨_, kIx_tup_of atI_0, rfl⟩
theorem mem_ds : ∀ {b : Bl} {d : D}, d ∈ b.ds → ∃ s : Sm, d = s.d
  | .nil, d, h => by rw [Bl.ds] at h; cases h
  | .cons s b, d, h => by
    rw [Bl.ds] at h
    rcases List.mem_cons.mp h with rfl | h
    · exact ⟨s, rfl⟩
    · exact mem_ds h
theorem calls_len {V A : List Str} {K : List (Str × Str)} {n : Nat} : ∀ {b : Bl}, b.ok V A K n → (b.ds.filter isC).length = b.calls
  | .nil, _ => by rw [Bl.ds, Bl.calls]; rfl
  | .cons s b, h => by
    rw [Bl.ok] at h
    rw [Bl.ds, Bl.calls, List.filter_cons, isC_sm h.1]
    have := calls_len h.2
    cases s.isCall <;> simp [this, Nat.add_comm]
def smI (b : Bool) : Int := if b then 1 else 0
theorem smI_eq (b : Bool) (st : Sto) : kInt [.bl b] st = .ok (.int (smI b)) st := rfl
theorem pq_ix (i : Nat) (hi : i < 2) (st : Sto) : ∃ n, ([("p" : Str), "q"])[i]? = some n ∧ kIx (.str "pq") (.int (i : Nat)) st = .ok (.str n) st := by
  have hz : ("pq" : Str).length ≤ sizeLine := Nat.le_trans (by decide) sz6
  match i, hi with
  | 0, _ => exact ⟨"p", rfl, kIx_str_of (c := 112) hz (by decide +kernel)⟩
  | 1, _ => exact ⟨"q", rfl, kIx_str_of (c := 113) hz (by decide +kernel)⟩
theorem sz3 (i : Int) (st : Sto) (h0 : 0 ≤ i) (h1 : i < 3) : ∃ x, x ∈ [(1 : Nat), 2, 3] ∧ kIx (.tup [.int 1, .int 2, .int 3]) (.int i) st = .ok (.int (x : Nat)) st := kIx_tupM (fun n : Nat => D.int n) [1, 2, 3] h0 h1
theorem sz5 (i : Int) (st : Sto) (h0 : 0 ≤ i) (h1 : i < 5) : ∃ x, x ∈ [(1 : Nat), 2, 3, 5, 64] ∧ kIx (.tup [.int 1, .int 2, .int 3, .int 5, .int 64]) (.int i) st = .ok (.int (x : Nat)) st := kIx_tupM (fun n : Nat => D.int n) [1, 2, 3, 5, 64] h0 h1
theorem p9 (st : Sto) : kPow (.int 10) (.int 9) st = .ok (.int 1000000000) st := by
  rw [kPow_int, if_pos ⟨by omega, by omega, by decide⟩, show ((10 : Int) ^ (9 : Int).toNat) = 1000000000 from by decide +kernel]
section
variable {V A : List Str}
/-- one procedure -/
theorem turn_contract (n : Nat) (nm : Str) (c0 c1 c2 : Int) (m1 m2 m5 : Md) (small : Bool) (K : List (Str × Str)) (a : Nat) (s3 s4 s8 s10 s11 s15 s16 s17 s18 : NC.Slot) (ps : List Pr) (i : Nat) (hi : i < 2) (hp : ps.length = i) (hk : K.length ≤ 100) (st : Sto) :
    ∃ (p : Pr) (K2 : List (Str × Str)) (a2 : Nat), ([("p" : Str), "q"])[i]? = some p.n ∧ p.z ∈ [1, 2, 3, 5, 64] ∧ p.b.ok V A K 1 ∧ 1 ≤ p.b.len ∧ p.b.len ≤ 4 ∧ a = a2 + p.b.asks ∧ (K2 = (if p.b.calls = 0 then K ++ [(nm, p.n)] else K) ∨ K2 = K) ∧ ∃ q15 q16 q17 q18,
    lb_law_contract_0 (interp delta (n + 6)) [some (.frz, .str nm), slotA (m1, .lst [.int c0, .int c1, .int c2]), slotA (m2, .lst (A.map D.str)), s3, s4, some (.frz, .bl small), some (.frz, .lst ((rowL c0 12 60).map D.int)), some (.own, .lst (V.map D.str)), s8, some (.frz, .int (i : Nat)), s10, s11, some (.own, .lst (ps.map Pr.d)), some (.own, .lst (K.map pairD)), some (.frz, .int (a : Nat)), s15, s16, s17, s18] st =
      .next [some (.frz, .str nm), slotA (m1, .lst [.int c0, .int c1, .int c2]), slotA (m2, .lst (A.map D.str)), s3, s4, some (.frz, .bl small), some (.frz, .lst ((rowL c0 12 60).map D.int)), some (.own, .lst (V.map D.str)), s8, some (.frz, .int (i : Nat)), s10, s11, some (.own, .lst ((ps ++ [p]).map Pr.d)), some (.own, .lst (K2.map pairD)), some (.frz, .int (a2 : Nat)), q15, q16, q17, q18] st := by
  have hz := sz6
  have r8 := rowA_rng (c := c0) (s := 60) (by decide) (8 + i)
  have r10 := rowA_rng (c := c0) (s := 60) (by decide) (10 + i)
  have h8 : ∀ st, kIx (.lst ((rowL c0 12 60).map D.int)) (.int (8 + (i : Nat))) st = .ok (.int (rowA c0 60 (8 + i))) st := fun st => kIx_row c0 60 12 (8 + i) _ st (by omega) (by omega)
  have h10 : ∀ st, kIx (.lst ((rowL c0 12 60).map D.int)) (.int (10 + (i : Nat))) st = .ok (.int (rowA c0 60 (10 + i))) st := fun st => kIx_row c0 60 12 (10 + i) _ st (by omega) (by omega)
  obtain ⟨nn, hnn, epq⟩ := pq_ix i hi st
  obtain ⟨z3, hz3, e3⟩ := sz3 (rowA c0 60 (8 + i) % 3) st (by omega) (by omega)
  obtain ⟨z5, hz5, e5⟩ := sz5 (rowA c0 60 (8 + i) % 5) st (by omega) (by omega)
  obtain ⟨cc, hcc⟩ : ∃ cc, kIx (.lst [.int c0, .int c1, .int c2]) (.int (1 + (i : Nat))) st = .ok (.int cc) st := by
    match i, hi with
    | 0, _ => exact ⟨c1, kIx_lst_of atI_1⟩
    | 1, _ => exact ⟨c2, kIx_lst_of atI_2⟩
  obtain ⟨kk, hkk⟩ : ∃ kk : Nat, (1 + rowA c0 60 (10 + i) % 4) = (kk : Nat) := Int.eq_ofNat_of_zero_le (by omega)
  have hkk1 : 1 ≤ kk ∧ kk ≤ 4 := by omega
  have hrow : ∀ {m1 m2 m3 : Md}, interp delta (n + 6) "_law_row" [(m1, .int cc), (m2, .int (kk : Nat)), (m3, .int 1000000000)] st = _ := fun {m1 m2 m3} => ev_row (n + 5) (m1 := m1) (m2 := m2) (m3 := m3) cc kk 1000000000 (by omega) (by decide) st
  obtain ⟨b, j1, j2, j3, ib⟩ := ev_body (V := V) (A := A) (K := K) (n + 1) (rowL cc kk 1000000000) .rd .rd .rd .rd false a st (fun c hc => by
    unfold rowL at hc
    obtain ⟨q, _, rfl⟩ := List.mem_map.mp hc
    exact (rowA_rng (by decide) q).1) (by rw [rowL_len]; omega)
  rw [rowL_len] at j3
  have hcalls : ∀ e : Ev, 18 < e.length → compL (tgName 18) (bTst (bBin kEq (bBin kIx (bVarR 18) (bC (D.int 0))) (bC (D.str "call")))) (bVar 18) b.ds e st = .ok (b.ds.filter isC) st := fun e he => by
    have := compL_filter (t := tgName 18) (c := bTst (bBin kEq (bBin kIx (bVarR 18) (bC (D.int 0))) (bC (D.str "call")))) (f := bVar 18) (env := e) (st := st) isC (fun d => d) (ds := b.ds) fun d hd => by
      obtain ⟨s, rfl⟩ := mem_ds hd
      obtain ⟨t, ht, ht2⟩ := sm_ix0 s st
      have hg : (e.set 18 (some (Fl.frz, s.d)))[18]? = some (some (.frz, s.d)) := by rw [List.getElem?_set_self he]
      refine ⟨e.set 18 (some (.frz, s.d)), by unfold tgName; rw [if_pos he], ?_, fun _ => bVar_of hg⟩
      rw [bTst_eq, bBin_eq, bBin_eq, bVarR_of (by intro z; cases z) hg, bind_ok, bC_eq, bind_ok, ht, bind_ok, bC_eq, bind_ok, kEq_str, rBl_bl, ht2]
    rw [this, List.map_id']
  have hlen := calls_len j1
  have hT0 : ∀ st, kIx (.tup [.tup b.ds, .int ((a - b.asks : Nat))]) (.int 0) st = .ok (.tup b.ds) st := fun st => kIx_tup_of atI_0
  have hT1 : ∀ st, kIx (.tup [.tup b.ds, .int ((a - b.asks : Nat))]) (.int 1) st = .ok (.int ((a - b.asks : Nat))) st := fun st => kIx_tup_of atI_1
  have ib' : interp delta (n + 6) "_law_body" [(.rd, .lst ((rowL cc kk 1000000000).map D.int)), (.rd, .lst (V.map D.str)), (.rd, .lst (A.map D.str)), (.rd, .lst (K.map pairD)), (.esc, .int (a : Nat))] st = _ := ib
  have hpl : ps.length < sizeLine := by omega
  have hKl : K.length < sizeLine := by omega
  by_cases hb : b.calls = 0 ∧ small = false
  · obtain ⟨hb1, hb2⟩ := hb
    subst hb2
    refine ⟨⟨nn, z5, decide (rowA c0 60 (8 + i) / 2 % 5 > 0), b⟩, K ++ [(nm, nn)], a - b.asks, hnn, hz5, j1, by rw [j3]; omega, by rw [j3]; omega, (show a = a - b.asks + b.asks by omega), .inl (by rw [if_pos hb1]), some (.frz, .int (z5 : Nat)), some (.frz, .tup [.tup b.ds, .int ((a - b.asks : Nat))]), some (.own, .lst (b.ds.filter isC)), s18, ?_⟩
    have hnil : (b.ds.filter isC) = [] := List.length_eq_zero_iff.mp (by rw [hlen, hb1])
    simp [lb_law_contract_0, h8, h10, e3, e5, hcc, hkk, p9, hrow, ib', epq, sApp_E, appE_own, appO, hpl, hKl, bComp, iSeq, hcalls, hnil, hT0, hT1, Pr.d, -kIx_tup, -kIx_lst, -kPow_int]
  · cases small with
    | true =>
      refine ⟨⟨nn, z3, decide (rowA c0 60 (8 + i) / 2 % 5 > 0), b⟩, K, a - b.asks, hnn, (by simp at hz3 ⊢; omega), j1, by rw [j3]; omega, by rw [j3]; omega, (show a = a - b.asks + b.asks by omega), .inr rfl, some (.frz, .int (z3 : Nat)), some (.frz, .tup [.tup b.ds, .int ((a - b.asks : Nat))]), some (.own, .lst (b.ds.filter isC)), s18, ?_⟩
      simp [lb_law_contract_0, h8, h10, e3, e5, hcc, hkk, p9, hrow, ib', epq, sApp_E, appE_own, appO, hpl, hKl, bComp, iSeq, hcalls, hT0, hT1, Pr.d, -kIx_tup, -kIx_lst, -kPow_int]
    | false =>
      have hb1 : b.calls ≠ 0 := fun z => hb ⟨z, rfl⟩
      refine ⟨⟨nn, z5, decide (rowA c0 60 (8 + i) / 2 % 5 > 0), b⟩, K, a - b.asks, hnn, hz5, j1, by rw [j3]; omega, by rw [j3]; omega, (show a = a - b.asks + b.asks by omega), .inr rfl, some (.frz, .int (z5 : Nat)), some (.frz, .tup [.tup b.ds, .int ((a - b.asks : Nat))]), some (.own, .lst (b.ds.filter isC)), s18, ?_⟩
      have hne : ¬ ((b.ds.filter isC).length : Int) = 0 := by rw [hlen]; omega
      have hne2 : ¬ (b.ds.filter isC) = [] := fun z => by rw [z] at hne; exact hne rfl
      simp [lb_law_contract_0, h8, h10, e3, e5, hcc, hkk, p9, hrow, ib', epq, sApp_E, appE_own, appO, hpl, hKl, bComp, iSeq, hcalls, hT0, hT1, Pr.d, -kIx_tup, -kIx_lst, -kPow_int]
      obtain ⟨x, hx⟩ := List.exists_mem_of_ne_nil _ hne2
      rw [List.mem_filter] at hx
      exact ⟨x, hx⟩
end
theorem seqN {s G : FS} {env env' : Ev} {st st1 : Sto} (h : s env st = .next env' st1) : fin (sCons s G env st) = fin (G env' st1) := by rw [sCons_eq, h, seq_next]
def vrOf (V : List Str) (c0 : Int) (small : Bool) (k : Nat) : Str × Nat × Nat := (V.getD k "", (2 + rowA c0 60 (1 + k) % (2 - smI small)).toNat, (rowA c0 60 (3 + k) % 2).toNat)
def vOf (c0 : Int) (small : Bool) : List Str := if small = true then (([("x" : Str), "y"]).take (rowA c0 60 0 % 3).toNat).take 1 else ([("x" : Str), "y"]).take (rowA c0 60 0 % 3).toNat
theorem vOf_len (c0 : Int) (small : Bool) : (vOf c0 small).length ≤ 2 ∧ (small = true → (vOf c0 small).length ≤ 1) := by
  unfold vOf
  cases small <;> simp <;> omega
theorem vOf_take (c0 : Int) (small : Bool) : ∃ k, vOf c0 small = ([("x" : Str), "y"]).take k := by
  unfold vOf
  cases small
  · exact ⟨_, rfl⟩
  · exact ⟨min 1 (rowA c0 60 0 % 3).toNat, by rw [if_pos rfl, List.take_take]⟩
section
variable (A : List Str)
theorem ev_contract (n : Nat) (nm : Str) (c0 c1 c2 : Int) (m1 m2 m3 m5 : Md) (small : Bool) (K : List (Str × Str)) (a : Nat) (hk : K.length ≤ 50) (st : Sto) :
    ∃ (co : Co) (K' : List (Str × Str)) (a' : Nat), CoOk A nm K a co K' a' ∧ (small = true → co.vs.length ≤ 1 ∧ (∀ v ∈ co.vs, v.2.1 = 2) ∧ ∀ h ∈ co.hs, h.2 ≤ 2) ∧ K'.length ≤ K.length + 2 ∧
      interp delta (n + 7) "_law_contract" [(.esc, .str nm), (m1, .lst [.int c0, .int c1, .int c2]), (m2, .lst (A.map D.str)), (m3, .lst (K.map pairD)), (.esc, .int (a : Nat)), (m5, .bl small)] st = .ok (.tup [co.d, .lst (K'.map pairD), .int (a' : Nat)]) st := by
  have hz := sz6
  obtain ⟨hV2, hV1⟩ := vOf_len c0 small
  obtain ⟨vk, hvk⟩ := vOf_take c0 small
  have hsm : 0 ≤ smI small ∧ smI small ≤ 1 := by cases small <;> decide
  let vs : List (Str × Nat × Nat) := (List.range (vOf c0 small).length).map (vrOf (vOf c0 small) c0 small)
  have hvs : vs.map (·.1) = vOf c0 small := by
    show ((List.range (vOf c0 small).length).map (vrOf (vOf c0 small) c0 small)).map (·.1) = _
    rw [List.map_map]
    exact range_names _
  let hq : Nat := (rowA c0 60 5 % (4 - smI small)).toNat
  let hs : List (Str × Nat) := if decide (0 < rowA c0 60 6 % 4) = true then A.map (fun x => (x, hq)) else []
  have hhs : (if decide (0 < rowA c0 60 6 % 4) = true then A.map (fun x => hdD (x, hq)) else []) = hs.map hdD := by
    show _ = (if decide (0 < rowA c0 60 6 % 4) = true then A.map (fun x => (x, hq)) else []).map hdD
    split
    · rw [List.map_map]; rfl
    · rfl
  have hR : ∀ (i : Nat) (j : Int) st, i < 12 → j = (i : Nat) → kIx (.lst ((rowL c0 12 60).map D.int)) (.int j) st = .ok (.int (rowA c0 60 i)) st := fun i j st hi hj => kIx_row c0 60 12 i j st hi hj
  have rg : ∀ i, 0 ≤ rowA c0 60 i ∧ rowA c0 60 i < 60 := fun i => rowA_rng (by decide) i
  let E0 := some (Fl.frz, D.str nm)
  let E1 := slotA (m1, .lst [.int c0, .int c1, .int c2])
  let E2 := slotA (m2, .lst (A.map D.str))
  let E3 := slotA (m3, .lst (K.map pairD))
  let dg := some (Fl.frz, D.lst ((rowL c0 12 60).map D.int))
  -- the loop
  obtain ⟨mm, hmm⟩ : ∃ mm : Nat, rowA c0 60 7 % 3 = (mm : Nat) := Int.eq_ofNat_of_zero_le (by have := (rg 7).1; omega)
  have hmm2 : mm ≤ 2 := by omega
  obtain ⟨e', st', h1, ps, K', a', s9, s15, s16, s17, s18, h2, h3, h4, h5, h6⟩ := forL_inv (t := tgName 9) (b := lb_law_contract_0 (interp delta (n + 6)))
    (fun i env st' => ∃ (ps : List Pr) (K' : List (Str × Str)) (a' : Nat) (s9 s15 s16 s17 s18 : NC.Slot), ps.length = i ∧ PsOk (vOf c0 small) A nm ["p", "q"] K a ps K' a' ∧ K'.length ≤ K.length + i ∧ st' = st ∧
      env = [E0, E1, E2, E3, some (.frz, .int (a : Nat)), some (.frz, .bl small), dg, some (.own, .lst ((vOf c0 small).map D.str)), some (.own, .lst (vs.map vrD)), s9, some (.own, .lst (hs.map hdD)), none, some (.own, .lst (ps.map Pr.d)), some (.own, .lst (K'.map pairD)), some (.frz, .int (a' : Nat)), s15, s16, s17, s18])
    (ds := rngD 0 mm) (fun i d env st' hd ⟨ps, K', a', s9, s15, s16, s17, s18, h2, h3, h4, h5, h6⟩ => by
      subst h5 h6
      obtain ⟨rfl, hi⟩ := rngD_get hd
      obtain ⟨p, K2, a2, g1, g2, g3, g4, g5, g6, g7, q15, q16, q17, q18, g8⟩ := turn_contract (V := vOf c0 small) (A := A) n nm c0 c1 c2 m1 m2 m5 small K' a' E3 (some (.frz, .int (a : Nat))) (some (.own, .lst (vs.map vrD))) (some (.own, .lst (hs.map hdD))) none s15 s16 s17 s18 ps i (by omega) h2 (by omega) st'
      refine ⟨_, _, st', ?_, .inl g8, ps ++ [p], K2, a2, some (.frz, .int (i : Nat)), q15, q16, q17, q18, by simp [h2], PsOk.snoc h3 (by rw [h2]; exact g1) rfl g2 g3 g4 g5 g6 g7, ?_, rfl, rfl⟩
      · unfold tgName
        rw [if_pos (by simp)]
        rw [show ((0 : Int) + (i : Nat)) = (i : Nat) by omega]
        rfl
      · rcases g7 with g7 | g7
        · rw [g7]; split
          · simp; omega
          · omega
        · rw [g7]; omega)
    (env := [E0, E1, E2, E3, some (.frz, .int (a : Nat)), some (.frz, .bl small), dg, some (.own, .lst ((vOf c0 small).map D.str)), some (.own, .lst (vs.map vrD)), none, some (.own, .lst (hs.map hdD)), none, some (.own, .lst []), some (.own, .lst (K.map pairD)), some (.frz, .int (a : Nat)), none, none, none, none]) (st := st)
    ⟨[], K, a, none, none, none, none, none, rfl, PsOk_nil.mpr ⟨rfl, rfl⟩, by omega, rfl, rfl⟩
  subst h5 h6
  rw [rngD_len] at h2 h4
  refine ⟨⟨nm, vs, hs, ps⟩, K', a', ⟨rfl, ⟨vk, by rw [hvs, hvk]⟩, ?_, ?_, ?_, by rw [hvs]; exact h3⟩, ?_, by omega, ?_⟩
  · intro v hv
    obtain ⟨k, hk, rfl⟩ := List.mem_map.mp hv
    have r1 := rg (1 + k)
    have r3 := rg (3 + k)
    cases small
    · show 2 ≤ (2 + rowA c0 60 (1 + k) % (2 - 0)).toNat ∧ (2 + rowA c0 60 (1 + k) % (2 - 0)).toNat ≤ 3 ∧ (rowA c0 60 (3 + k) % 2).toNat ≤ 1
      omega
    · show 2 ≤ (2 + rowA c0 60 (1 + k) % (2 - 1)).toNat ∧ (2 + rowA c0 60 (1 + k) % (2 - 1)).toNat ≤ 3 ∧ (rowA c0 60 (3 + k) % 2).toNat ≤ 1
      omega
  · show hs.map (·.1) = A ∨ hs = []
    show (if decide (0 < rowA c0 60 6 % 4) = true then A.map (fun x => (x, hq)) else []).map (·.1) = A ∨ (if decide (0 < rowA c0 60 6 % 4) = true then A.map (fun x => (x, hq)) else []) = []
    split
    · left; rw [List.map_map]; exact List.map_id'' (fun _ => rfl) A
    · right; rfl
  · intro h hh
    have hh' : h ∈ (if decide (0 < rowA c0 60 6 % 4) = true then A.map (fun x => (x, hq)) else []) := hh
    split at hh'
    · obtain ⟨x, _, rfl⟩ := List.mem_map.mp hh'
      show (rowA c0 60 5 % (4 - smI small)).toNat ≤ 3
      have := (rg 5).1
      have h4 : (0 : Int) < 4 - smI small := by omega
      have := Int.emod_lt_of_pos (rowA c0 60 5) h4
      omega
    · cases hh'
  · rintro rfl
    refine ⟨?_, ?_, ?_⟩
    · show ((List.range (vOf c0 true).length).map (vrOf (vOf c0 true) c0 true)).length ≤ 1
      have := hV1 rfl
      simp; exact this
    · intro v hv
      obtain ⟨k, hk, rfl⟩ := List.mem_map.mp hv
      show (2 + rowA c0 60 (1 + k) % (2 - 1)).toNat = 2
      omega
    · intro h hh
      have hh' : h ∈ (if decide (0 < rowA c0 60 6 % 4) = true then A.map (fun x => (x, hq)) else []) := hh
      split at hh'
      · obtain ⟨x, _, rfl⟩ := List.mem_map.mp hh'
        show (rowA c0 60 5 % (4 - 1)).toNat ≤ 2
        have := (rg 5).1
        omega
      · cases hh'
  · have hrow : ∀ {m1 m2 m3 : Md}, interp delta (n + 6) "_law_row" [(m1, .int c0), (m2, .int 12), (m3, .int 60)] st' = _ := fun {m1 m2 m3} => ev_row (n + 5) (m1 := m1) (m2 := m2) (m3 := m3) c0 12 60 (by decide) (by decide) st'
    rw [run_law_contract]
    unfold sh_law_contract
    have b0 : bVarR 1 [E0, E1, E2, E3, some (.frz, .int (a : Nat)), some (.frz, .bl small), none, none, none, none, none, none, none, none, none, none, none, none, none] st' = .ok (.lst [.int c0, .int c1, .int c2]) st' := by
      show bVarR 1 [E0, slotA (m1, .lst [.int c0, .int c1, .int c2]), E2, E3, some (.frz, .int (a : Nat)), some (.frz, .bl small), none, none, none, none, none, none, none, none, none, none, none, none, none] st' = _
      simp
    have hc0 : kIx (.lst [.int c0, .int c1, .int c2]) (.int 0) st' = .ok (.int c0) st' := kIx_lst_of atI_0
    rw [slotA_bl]
    refine (seqN (env' := [E0, E1, E2, E3, some (.frz, .int (a : Nat)), some (.frz, .bl small), dg, none, none, none, none, none, none, none, none, none, none, none, none]) (st1 := st') ?_).trans ?_
    · show (sAsg _ _) [E0, E1, E2, E3, some (.frz, .int (a : Nat)), some (.frz, .bl small), none, none, none, none, none, none, none, none, none, none, none, none, none] st' = _
      simp only [sAsg_eq, bDef_eq, lCons_eq, bBin_eq, b0, bC_eq, bind_ok, hc0, lNil_eq, List.zip_cons_cons, List.zip_nil_right, hrow, out_ok, setE_name]
      rfl
    refine (seqN (env' := [E0, E1, E2, E3, some (.frz, .int (a : Nat)), some (.frz, .bl small), dg, some (.own, .lst ((([("x" : Str), "y"]).take (rowA c0 60 0 % 3).toNat).map D.str)), none, none, none, none, none, none, none, none, none, none, none]) (st1 := st') ?_).trans ?_
    · have e0 : ((rowA c0 60 0 % 3).toNat : Int) = rowA c0 60 0 % 3 := Int.toNat_of_nonneg (by have := (rg 0).1; omega)
      have hk0 := hR 0 0 st' (by decide) rfl
      have hcut : cutD [.str "x", .str "y"] none (some (rowA c0 60 0 % 3)) = (([("x" : Str), "y"]).take (rowA c0 60 0 % 3).toNat).map D.str := by
        rw [← e0, show [D.str "x", D.str "y"] = ([("x" : Str), "y"]).map D.str from rfl, cut_takeM, Int.toNat_natCast]
      show (sSet 7 _) [E0, E1, E2, E3, some (.frz, .int (a : Nat)), some (.frz, .bl small), some (Fl.frz, D.lst ((rowL c0 12 60).map D.int)), none, none, none, none, none, none, none, none, none, none, none, none] st' = _
      simp only [sSet_eq, bSl_eq, bLst_eq, lCons_eq, bC_eq, lNil_eq, bind_ok, oNone_eq, oSome_eq, bBin_eq, bVarR_s, bVarR_z, hk0, kMod_int, toO_int, kSl_lst, hcut, out_ok, slotOf_lst, show (0 : Int) < 3 by decide, if_true]
      rfl
    refine (seqN (env' := [E0, E1, E2, E3, some (.frz, .int (a : Nat)), some (.frz, .bl small), dg, some (.own, .lst ((vOf c0 small).map D.str)), none, none, none, none, none, none, none, none, none, none, none]) (st1 := st') ?_).trans ?_
    · cases small with
      | false =>
        rw [sIf_eq]
        rfl
      | true =>
        have hcut := cut_takeM D.str (([("x" : Str), "y"]).take (rowA c0 60 0 % 3).toNat) 1
        rw [sIf_eq]
        show (sSet 7 (bSl (bVarR 7) oNone (oSome (bC (D.int 1))))) [E0, E1, E2, E3, some (.frz, .int (a : Nat)), some (.frz, .bl true), dg, some (.own, .lst ((([("x" : Str), "y"]).take (rowA c0 60 0 % 3).toNat).map D.str)), none, none, none, none, none, none, none, none, none, none, none] st' = _
        simp only [sSet_eq, bSl_eq, bVarR_s, bVarR_z1, bind_ok, oNone_eq, oSome_eq, bC_eq, toO_int, kSl_lst, out_ok, slotOf_lst]
        rw [show (1 : Int) = ((1 : Nat) : Int) from rfl, hcut]
        rfl
    refine (seqN (env' := [E0, E1, E2, E3, some (.frz, .int (a : Nat)), some (.frz, .bl small), dg, some (.own, .lst ((vOf c0 small).map D.str)), some (.own, .lst (vs.map vrD)), none, none, none, none, none, none, none, none, none, none]) (st1 := st') ?_).trans ?_
    · have hcomp := comp_rng (own := [9]) (e := bCall kLen (lCons (bVarR 7) lNil)) (i := 9) (env := [E0, E1, E2, E3, some (.frz, .int (a : Nat)), some (.frz, .bl small), dg, some (.own, .lst ((vOf c0 small).map D.str)), none, none, none, none, none, none, none, none, none, none, none]) (st := st') (f := bTup (lCons (bBin kIx (bVarR 7) (bVarR 9)) (lCons (bBin kAdd (bC (D.int 2)) (bBin kMod (bBin kIx (bVarR 6) (bBin kAdd (bC (D.int 1)) (bVarR 9))) (bBin kSub (bC (D.int 2)) (bCall kInt (lCons (bVarR 5) lNil))))) (lCons (bBin kMod (bBin kIx (bVarR 6) (bBin kAdd (bC (D.int 3)) (bVarR 9))) (bC (D.int 2))) lNil)))) (vOf c0 small).length (fun k => vrD (vrOf (vOf c0 small) c0 small k)) (by simp) (by omega) (by simp) (fun k hk => by
        have hx : kIx (.lst ((vOf c0 small).map D.str)) (.int (k : Nat)) st' = .ok (.str ((vOf c0 small).getD k "")) st' := by
          refine kIx_lst_of (atI_nat ?_)
          rw [List.getElem?_map, List.getElem?_eq_getElem hk, List.getD_eq_getElem?_getD, List.getElem?_eq_getElem hk]
          rfl
        have h1k := hR (1 + k) (1 + (k : Nat)) st' (by omega) (by omega)
        have h3k := hR (3 + k) (3 + (k : Nat)) st' (by omega) (by omega)
        have p1 : (0 : Int) < 2 - smI small := by omega
        have q1 : (((2 + rowA c0 60 (1 + k) % (2 - smI small)).toNat : Nat) : Int) = 2 + rowA c0 60 (1 + k) % (2 - smI small) := Int.toNat_of_nonneg (by have := Int.emod_nonneg (rowA c0 60 (1 + k)) (show (2 - smI small) ≠ 0 by omega); omega)
        have q3 : (((rowA c0 60 (3 + k) % 2).toNat : Nat) : Int) = rowA c0 60 (3 + k) % 2 := Int.toNat_of_nonneg (by omega)
        show (bTup _) [E0, E1, E2, E3, some (.frz, .int (a : Nat)), some (.frz, .bl small), some (Fl.frz, D.lst ((rowL c0 12 60).map D.int)), some (.own, .lst ((vOf c0 small).map D.str)), none, some (.frz, .int (k : Nat)), none, none, none, none, none, none, none, none, none] st' = _
        simp only [bTup_eq, lCons_eq, bBin_eq, bVarR_s, bVarR_z1, bVarR_z, bind_ok, hx, bC_eq, kAdd_int, h1k, bCall_eq, lNil_eq, smI_eq, kSub_int, kMod_int, p1, if_true, h3k, show (0 : Int) < 2 by decide, vrD, vrOf, q1, q3])
      rw [sSet_eq, hcomp, out_ok, if_pos (by simp), show ((List.range (vOf c0 small).length).map fun k => vrD (vrOf (vOf c0 small) c0 small k)) = vs.map vrD from (by show _ = ((List.range (vOf c0 small).length).map (vrOf (vOf c0 small) c0 small)).map vrD; rw [List.map_map]; rfl)]
      rfl
    refine (seqN (env' := [E0, E1, E2, E3, some (.frz, .int (a : Nat)), some (.frz, .bl small), dg, some (.own, .lst ((vOf c0 small).map D.str)), some (.own, .lst (vs.map vrD)), none, some (.own, .lst (hs.map hdD)), none, none, none, none, none, none, none, none]) (st1 := st') ?_).trans ?_
    · have hn0 : 0 ≤ rowA c0 60 5 % (4 - smI small) := Int.emod_nonneg _ (by omega)
      have h5 := hR 5 5 st' (by decide) rfl
      have h6 := hR 6 6 st' (by decide) rfl
      have p4 : (0 : Int) < 4 - smI small := by omega
      have hcomp := comp_names (own := [11]) (fi := iVarC 2) (i := 11) (env := [E0, E1, E2, E3, some (.frz, .int (a : Nat)), some (.frz, .bl small), dg, some (.own, .lst ((vOf c0 small).map D.str)), some (.own, .lst (vs.map vrD)), none, none, none, none, none, none, none, none, none, none]) (st := st') (c := bTst (bBin kGt (bBin kMod (bBin kIx (bVarR 6) (bC (D.int 6))) (bC (D.int 4))) (bC (D.int 0)))) (f := bTup (lCons (bVar 11) (lCons (bBin kMod (bBin kIx (bVarR 6) (bC (D.int 5))) (bBin kSub (bC (D.int 4)) (bCall kInt (lCons (bVarR 5) lNil)))) lNil))) A (decide (0 < rowA c0 60 6 % 4)) (fun x => hdD (x, hq)) (by show iVarC 2 [E0, E1, slotA (m2, .lst (A.map D.str)), E3, some (.frz, .int (a : Nat)), some (.frz, .bl small), dg, _, _, none, none, none, none, none, none, none, none, none, none] st' = _; rw [slotA_lst]; simp) (by simp) (fun x hx => by
        show (bTst _) [E0, E1, E2, E3, some (.frz, .int (a : Nat)), some (.frz, .bl small), some (Fl.frz, D.lst ((rowL c0 12 60).map D.int)), some (.own, .lst ((vOf c0 small).map D.str)), some (.own, .lst (vs.map vrD)), none, none, some (.frz, .str x), none, none, none, none, none, none, none] st' = _
        simp only [bTst_eq, bBin_eq, bVarR_s, bVarR_z, bC_eq, bind_ok, h6, kMod_int, show (0 : Int) < 4 by decide, if_true, kGt, kCmp_int, rBl_bl]) (fun x hx => by
        show (bTup _) [E0, E1, E2, E3, some (.frz, .int (a : Nat)), some (.frz, .bl small), some (Fl.frz, D.lst ((rowL c0 12 60).map D.int)), some (.own, .lst ((vOf c0 small).map D.str)), some (.own, .lst (vs.map vrD)), none, none, some (.frz, .str x), none, none, none, none, none, none, none] st' = _
        simp only [bTup_eq, lCons_eq, bVar_s, bVar_z, bBin_eq, bVarR_s, bVarR_z, bC_eq, bind_ok, h5, bCall_eq, lNil_eq, smI_eq, kSub_int, kMod_int, p4, if_true, hdD]
        rw [show ((hq : Nat) : Int) = rowA c0 60 5 % (4 - smI small) from Int.toNat_of_nonneg hn0])
      rw [sSet_eq, hcomp, out_ok, hhs]
      rfl
    refine (seqN (env' := [E0, E1, E2, E3, some (.frz, .int (a : Nat)), some (.frz, .bl small), dg, some (.own, .lst ((vOf c0 small).map D.str)), some (.own, .lst (vs.map vrD)), none, some (.own, .lst (hs.map hdD)), none, some (.own, .lst []), none, none, none, none, none, none]) (st1 := st') ?_).trans ?_
    · rfl
    refine (seqN (env' := [E0, E1, E2, E3, some (.frz, .int (a : Nat)), some (.frz, .bl small), dg, some (.own, .lst ((vOf c0 small).map D.str)), some (.own, .lst (vs.map vrD)), none, some (.own, .lst (hs.map hdD)), none, some (.own, .lst []), some (.own, .lst (K.map pairD)), none, none, none, none, none]) (st1 := st') ?_).trans ?_
    · have hb3 : bVarR 3 [E0, E1, E2, E3, some (.frz, .int (a : Nat)), some (.frz, .bl small), dg, some (.own, .lst ((vOf c0 small).map D.str)), some (.own, .lst (vs.map vrD)), none, some (.own, .lst (hs.map hdD)), none, some (.own, .lst []), none, none, none, none, none, none] st' = .ok (.lst (K.map pairD)) st' := by
        show bVarR 3 [E0, E1, E2, slotA (m3, .lst (K.map pairD)), some (.frz, .int (a : Nat)), some (.frz, .bl small), dg, _, _, none, _, none, _, none, none, none, none, none, none] st' = _
        rw [slotA_lst]
        simp
      rw [sSet_eq, bCall_eq, lCons_eq, hb3, bind_ok]
      rfl
    refine (seqN (env' := [E0, E1, E2, E3, some (.frz, .int (a : Nat)), some (.frz, .bl small), dg, some (.own, .lst ((vOf c0 small).map D.str)), some (.own, .lst (vs.map vrD)), none, some (.own, .lst (hs.map hdD)), none, some (.own, .lst []), some (.own, .lst (K.map pairD)), some (.frz, .int (a : Nat)), none, none, none, none]) (st1 := st') ?_).trans ?_
    · rfl
    refine (seqN (env' := [E0, E1, E2, E3, some (.frz, .int (a : Nat)), some (.frz, .bl small), dg, some (.own, .lst ((vOf c0 small).map D.str)), some (.own, .lst (vs.map vrD)), s9, some (.own, .lst (hs.map hdD)), none, some (.own, .lst (ps.map Pr.d)), some (.own, .lst (K'.map pairD)), some (.frz, .int (a' : Nat)), s15, s16, s17, s18]) (st1 := st') ?_).trans ?_
    · have h7 := hR 7 7 st' (by decide) rfl
      rw [sFor_L, iRng1D_int _ (mm : Nat) (by
        show (bBin _ _ _) [E0, E1, E2, E3, some (.frz, .int (a : Nat)), some (.frz, .bl small), some (Fl.frz, D.lst ((rowL c0 12 60).map D.int)), _, _, none, _, none, _, _, _, none, none, none, none] st' = _
        simp only [bBin_eq, bVarR_s, bVarR_z, bC_eq, bind_ok, h7, kMod_int, show (0 : Int) < 3 by decide, if_true, hmm]) ⟨by omega, by omega⟩, outL_ok]
      exact h1
    rfl
end
end K40

namespace K40
open PySem L2 NC
/-! ### the house -/
theorem ev_cellx (n : Nat) (ns : List Int) (i : Int) (hi : 0 ≤ i) {m1 m2 : Md} (st : Sto) : ∃ c : Int, interp delta (n + 1) "_law_cell" [(m1, .lst (ns.map D.int)), (m2, .int i)] st = .ok (.int c) st := by
  rw [run_law_cell]
  by_cases h : i < (ns.length : Nat)
  · obtain ⟨c, hc, e⟩ := kIx_lstM (st := st) D.int ns hi h
    exact ⟨c, by simp [sh_law_cell, h, e, -kIx_lst]⟩
  · exact ⟨0, by simp [sh_law_cell, h]⟩
theorem cn_ix (i : Nat) (hi : i < 2) (st : Sto) : ∃ n, ([("c" : Str), ("d" : Str)] : List Str)[i]? = some n ∧ kIx (.str "cd") (.int (i : Nat)) st = .ok (.str n) st := by
  have hz : ("cd" : Str).length ≤ sizeLine := Nat.le_trans (by decide) sz6
  match i, hi with
  | 0, _ => exact ⟨"c", rfl, kIx_str_of (c := 99) hz (by decide +kernel)⟩
  | 1, _ => exact ⟨"d", rfl, kIx_str_of (c := 100) hz (by decide +kernel)⟩
section
variable (ns : List Int)
theorem turn_house (n : Nat) (small : Bool) (at_ many : Int) (ha : 0 ≤ at_) (A : List Str) (m1 : Md) (s2 s4 s10 s11 s12 : NC.Slot) (i : Nat) (hi : i < 2) (cs : List Co) (hcs : cs.length = i) (K : List (Str × Str)) (hk : K.length ≤ 2 * i) (fk : Fl) (hfk : fk = .own ∨ fk = .frz) (a : Nat) (st : Sto) :
    ∃ (co : Co) (K' : List (Str × Str)) (a' : Nat) (nm : Str), ([("c" : Str), ("d" : Str)] : List Str)[i]? = some nm ∧ CoOk A nm K a co K' a' ∧ (small = true → co.vs.length ≤ 1 ∧ (∀ v ∈ co.vs, v.2.1 = 2) ∧ ∀ h ∈ co.hs, h.2 ≤ 2) ∧ K'.length ≤ 2 * (i + 1) ∧ ∃ q10 q12,
      lb_law_house_0 (interp delta (n + 7)) [slotA (m1, .lst (ns.map D.int)), some (.frz, .int at_), s2, some (.frz, .bl small), s4, some (.own, .lst (A.map D.str)), some (.own, .lst (cs.map Co.d)), some (fk, .lst (K.map pairD)), some (.frz, .int (a : Nat)), some (.frz, .int (i : Nat)), s10, s11, s12, none] st =
      .next [slotA (m1, .lst (ns.map D.int)), some (.frz, .int at_), s2, some (.frz, .bl small), s4, some (.own, .lst (A.map D.str)), some (.own, .lst ((cs ++ [co]).map Co.d)), some (.frz, .lst (K'.map pairD)), some (.frz, .int (a' : Nat)), some (.frz, .int (i : Nat)), q10, s11, q12, none] st := by
  have hz := sz6
  obtain ⟨nm, hnm, enm⟩ := cn_ix i hi st
  obtain ⟨c0, e0⟩ := ev_cellx (n + 6) ns (at_ + 1 + 3 * (i : Nat) + 0) (by omega) (m1 := .rd) (m2 := .rd) st
  obtain ⟨c1, e1⟩ := ev_cellx (n + 6) ns (at_ + 1 + 3 * (i : Nat) + 1) (by omega) (m1 := .rd) (m2 := .rd) st
  obtain ⟨c2, e2⟩ := ev_cellx (n + 6) ns (at_ + 1 + 3 * (i : Nat) + 2) (by omega) (m1 := .rd) (m2 := .rd) st
  obtain ⟨co, K', a', hco, hsm, hK', eco⟩ := ev_contract A n nm c0 c1 c2 .rd .rd .rd .rd small K a (by omega) st
  refine ⟨co, K', a', nm, hnm, hco, hsm, by omega, some (.own, .lst [.int c0, .int c1, .int c2]), some (.frz, .tup [co.d, .lst (K'.map pairD), .int (a' : Nat)]), ?_⟩
  have m3 : kMulL (.int 3) (.int (i : Nat)) st = .ok (.int (3 * (i : Nat))) st := by
    rw [kMulL_int, kMul_int, if_pos (.inl ⟨by decide, by decide⟩)]
  have e0' : interp delta (n + 7) "_law_cell" [(.rd, .lst (ns.map D.int)), (.rd, .int (at_ + 1 + 3 * (i : Nat)))] st = .ok (.int c0) st := by
    rw [Int.add_zero] at e0; exact e0
  have hcomp : (bComp [11] (iRng1D (bC (D.int 3))) (tgName 11) cYes (bDef (interp delta (n + 7)) "_law_cell" [.rd, .rd] (lCons (bVarR 0) (lCons (bBin kAdd (bBin kAdd (bBin kAdd (bVarR 1) (bC (D.int 1))) (bBin kMulL (bC (D.int 3)) (bVarR 9))) (bVarR 11)) lNil)))) [slotA (m1, .lst (ns.map D.int)), some (.frz, .int at_), s2, some (.frz, .bl small), s4, some (.own, .lst (A.map D.str)), some (.own, .lst (cs.map Co.d)), some (fk, .lst (K.map pairD)), some (.frz, .int (a : Nat)), some (.frz, .int (i : Nat)), s10, s11, s12, none] st = .ok (.lst [.int c0, .int c1, .int c2]) st := by
    have hz3 : (3 : Int) ≤ sizeLine := by omega
    refine bComp_of (ds := [.int 0, .int 1, .int 2]) (iRng1D_int _ 3 rfl ⟨hz3, by omega⟩) ?_
    simp [compL, tgName, wipeE, m3, e0', e1, e2, -kMulL_int]
  have hl : cs.length < sizeLine := by omega
  have hKv : ∀ r, bVarR 0 (some (fk, .lst (K.map pairD)) :: r) st = .ok (.lst (K.map pairD)) st := fun r => by rcases hfk with rfl | rfl <;> rfl
  have t0 : kIx (.tup [co.d, .lst (K'.map pairD), .int (a' : Nat)]) (.int 0) st = .ok co.d st := kIx_tup_of atI_0
  have t1 : kIx (.tup [co.d, .lst (K'.map pairD), .int (a' : Nat)]) (.int 1) st = .ok (.lst (K'.map pairD)) st := kIx_tup_of atI_1
  have t2 : kIx (.tup [co.d, .lst (K'.map pairD), .int (a' : Nat)]) (.int 2) st = .ok (.int (a' : Nat)) st := kIx_tup_of atI_2
  simp only [slotA_lst] at hcomp
  simp [lb_law_house_0, hcomp, enm, hKv, eco, sApp_E, appE_own, appO_of, hl, t0, t1, t2, -kIx_tup]
theorem ev_house (n : Nat) (m1 m2 m3 m4 : Md) (at_ many : Int) (ha : 0 ≤ at_) (hm : 1 ≤ many ∧ many ≤ 2) (small : Bool) (st : Sto) :
    ∃ h : Ho, HoOk [("c" : Str), ("d" : Str)] h ∧ h.cs.length ≤ many.toNat ∧ (small = true → h.as.length ≤ 1 ∧ (∀ a ∈ h.as, a.2 ≤ 1) ∧ ∀ co ∈ h.cs, co.vs.length ≤ 1 ∧ (∀ v ∈ co.vs, v.2.1 = 2) ∧ ∀ h ∈ co.hs, h.2 ≤ 2) ∧
      interp delta (n + 8) "_law_house" [(m1, .lst (ns.map D.int)), (m2, .int at_), (m3, .int many), (m4, .bl small)] st = .ok h.d st := by
  have hz := sz6
  obtain ⟨cc, ecc⟩ := ev_cellx (n + 6) ns at_ ha (m1 := .rd) (m2 := .rd) st
  have hR : ∀ (i : Nat) (j : Int) st, i < 4 → j = (i : Nat) → kIx (.lst ((rowL cc 4 60).map D.int)) (.int j) st = .ok (.int (rowA cc 60 i)) st := fun i j st hi hj => kIx_row cc 60 4 i j st hi hj
  have rg : ∀ i, 0 ≤ rowA cc 60 i ∧ rowA cc 60 i < 60 := fun i => rowA_rng (by decide) i
  have hsm : 0 ≤ smI small ∧ smI small ≤ 1 := by cases small <;> decide
  let ak : Nat := (if 2 - smI small < rowA cc 60 0 % 3 then 2 - smI small else rowA cc 60 0 % 3).toNat
  have hak : ((ak : Nat) : Int) = if 2 - smI small < rowA cc 60 0 % 3 then 2 - smI small else rowA cc 60 0 % 3 := Int.toNat_of_nonneg (by have := (rg 0).1; split <;> omega)
  have hak2 : ak ≤ 2 ∧ (small = true → ak ≤ 1) := by
    have := (rg 0).1
    refine ⟨?_, fun h => ?_⟩
    · split at hak <;> omega
    · subst h
      have : smI true = 1 := rfl
      rw [this] at hak
      split at hak <;> omega
  let A : List Str := ([("a" : Str), "b"]).take ak
  let az : Nat := (rowA cc 60 2 % (3 - smI small)).toNat
  let a0 : Nat := if small = true then (1 + rowA cc 60 3 % 2).toNat else 2
  have ha0 : a0 ≤ 2 := by
    show (if small = true then (1 + rowA cc 60 3 % 2).toNat else 2) ≤ 2
    split <;> omega
  obtain ⟨mm, hmm⟩ : ∃ mm : Nat, 1 + rowA cc 60 1 % many = (mm : Nat) := Int.eq_ofNat_of_zero_le (by have := Int.emod_nonneg (rowA cc 60 1) (show many ≠ 0 by omega); omega)
  have hmm2 : 1 ≤ mm ∧ mm ≤ many.toNat := by
    have := Int.emod_nonneg (rowA cc 60 1) (show many ≠ 0 by omega)
    have := Int.emod_lt_of_pos (rowA cc 60 1) (show 0 < many by omega)
    omega
  let E0 := slotA (m1, .lst (ns.map D.int))
  let dg := some (Fl.frz, D.lst ((rowL cc 4 60).map D.int))
  obtain ⟨e', st', h1, cs, K', a', fk, s9, s10, s12, h2, h3, h4, h5, h6, h7, h8⟩ := forL_inv (t := tgName 9) (b := lb_law_house_0 (interp delta (n + 7)))
    (fun i env st' => ∃ (cs : List Co) (K' : List (Str × Str)) (a' : Nat) (fk : Fl) (s9 s10 s12 : NC.Slot), cs.length = i ∧ CsOk A [("c" : Str), ("d" : Str)] [] a0 cs K' a' ∧ K'.length ≤ 2 * i ∧ (fk = .own ∨ fk = .frz) ∧ (small = true → ∀ co ∈ cs, co.vs.length ≤ 1 ∧ (∀ v ∈ co.vs, v.2.1 = 2) ∧ ∀ h ∈ co.hs, h.2 ≤ 2) ∧ st' = st ∧
      env = [E0, some (.frz, .int at_), some (.frz, .int many), some (.frz, .bl small), dg, some (.own, .lst (A.map D.str)), some (.own, .lst (cs.map Co.d)), some (fk, .lst (K'.map pairD)), some (.frz, .int (a' : Nat)), s9, s10, none, s12, none])
    (ds := rngD 0 mm) (fun i d env st' hd ⟨cs, K', a', fk, s9, s10, s12, h2, h3, h4, h5, h6, h7, h8⟩ => by
      subst h7 h8
      obtain ⟨rfl, hi⟩ := rngD_get hd
      obtain ⟨co, K2, a2, nm, g1, g2, g3, g4, q10, q12, g5⟩ := turn_house ns n small at_ many ha A m1 (some (.frz, .int many)) dg s10 none s12 i (by omega) cs h2 K' h4 fk h5 a' st'
      refine ⟨_, _, st', ?_, .inl g5, cs ++ [co], K2, a2, .frz, some (.frz, .int (i : Nat)), q10, q12, by simp [h2], h3.snoc (by rw [h2]; exact g1) g2, g4, .inr rfl, fun z x hx => ?_, rfl, rfl⟩
      · unfold tgName
        rw [if_pos (by simp)]
        rw [show ((0 : Int) + (i : Nat)) = (i : Nat) by omega]
        rfl
      · rcases List.mem_append.mp hx with hx | hx
        · exact h6 z x hx
        · rw [List.mem_singleton.mp hx]; exact g3 z)
    (env := [E0, some (.frz, .int at_), some (.frz, .int many), some (.frz, .bl small), dg, some (.own, .lst (A.map D.str)), some (.own, .lst []), some (.own, .lst []), some (.frz, .int (a0 : Nat)), none, none, none, none, none]) (st := st)
    ⟨[], [], a0, .own, none, none, none, rfl, CsOk_nil.mpr ⟨rfl, rfl⟩, Nat.zero_le _, .inl rfl, (fun _ _ h => by cases h), rfl, rfl⟩
  subst h7 h8
  rw [rngD_len] at h2 h4
  have hA : (A.map (fun x => (x, az))).map (·.1) = A := by
    rw [List.map_map]; exact List.map_id'' (fun _ => rfl) A
  refine ⟨⟨A.map (fun x => (x, az)), cs⟩, ⟨⟨ak, hA⟩, ?_, ?_, a0, K', a', ha0, by rw [hA]; exact h3⟩, ?_, ?_, ?_⟩
  · intro x hx
    obtain ⟨y, _, rfl⟩ := List.mem_map.mp hx
    show (rowA cc 60 2 % (3 - smI small)).toNat ≤ 2
    have := Int.emod_lt_of_pos (rowA cc 60 2) (show 0 < 3 - smI small by omega)
    omega
  · intro z
    have : cs = [] := z
    rw [this] at h2
    simp at h2
    omega
  · show cs.length ≤ many.toNat
    omega
  · rintro z
    refine ⟨?_, ?_, h6 z⟩
    · show (A.map (fun x => (x, az))).length ≤ 1
      have := hak2.2 z
      show ((([("a" : Str), "b"]).take ak).map (fun x => (x, az))).length ≤ 1
      simp
      omega
    · intro x hx
      obtain ⟨y, _, rfl⟩ := List.mem_map.mp hx
      subst z
      show (rowA cc 60 2 % (3 - 1)).toNat ≤ 1
      have := (rg 2).1
      omega
  · have hrow : ∀ {m1 m2 m3 : Md}, interp delta (n + 7) "_law_row" [(m1, .int cc), (m2, .int 4), (m3, .int 60)] st' = _ := fun {m1 m2 m3} => ev_row (n + 6) (m1 := m1) (m2 := m2) (m3 := m3) cc 4 60 (by decide) (by decide) st'
    have ecc' : interp delta (n + 7) "_law_cell" [(.rd, .lst (ns.map D.int)), (.rd, .int at_)] st' = _ := ecc
    rw [run_law_house]
    unfold sh_law_house
    rw [slotA_bl, slotA_int, slotA_int]
    have b0 : ∀ r, bVarR 0 (E0 :: r) st' = .ok (.lst (ns.map D.int)) st' := fun r => by
      show bVarR 0 (slotA (m1, .lst (ns.map D.int)) :: r) st' = _
      simp
    refine (seqN (env' := [E0, some (.frz, .int at_), some (.frz, .int many), some (.frz, .bl small), dg, none, none, none, none, none, none, none, none, none]) (st1 := st') ?_).trans ?_
    · show (sAsg _ _) [E0, some (.frz, .int at_), some (.frz, .int many), some (.frz, .bl small), none, none, none, none, none, none, none, none, none, none] st' = _
      simp only [sAsg_eq, bDef_eq, lCons_eq, b0, bVarR_s, bVarR_z, bind_ok, lNil_eq, List.zip_cons_cons, List.zip_nil_right, ecc', bC_eq, hrow, out_ok, setE_name]
      rfl
    refine (seqN (env' := [E0, some (.frz, .int at_), some (.frz, .int many), some (.frz, .bl small), dg, some (.own, .lst (A.map D.str)), none, none, none, none, none, none, none, none]) (st1 := st') ?_).trans ?_
    · have hk0 := hR 0 0 st' (by decide) rfl
      have hcut : cutD [.str "a", .str "b"] none (some (if 2 - smI small < rowA cc 60 0 % 3 then 2 - smI small else rowA cc 60 0 % 3)) = A.map D.str := by
        rw [← hak, show [D.str "a", D.str "b"] = ([("a" : Str), "b"]).map D.str from rfl, cut_takeM]
      show (sSet 5 _) [E0, some (.frz, .int at_), some (.frz, .int many), some (.frz, .bl small), some (Fl.frz, D.lst ((rowL cc 4 60).map D.int)), none, none, none, none, none, none, none, none, none] st' = _
      simp only [sSet_eq, bSl_eq, bLst_eq, lCons_eq, bC_eq, lNil_eq, bind_ok, oNone_eq, oSome_eq, bCall_eq, bBin_eq, bVarR_s, bVarR_z, hk0, kMod_int, smI_eq, kSub_int, kMin2_int, toO_int, kSl_lst, hcut, out_ok, slotOf_lst, show (0 : Int) < 3 by decide, if_true]
      rfl
    refine (seqN (env' := [E0, some (.frz, .int at_), some (.frz, .int many), some (.frz, .bl small), dg, some (.own, .lst (A.map D.str)), some (.own, .lst []), none, none, none, none, none, none, none]) (st1 := st') rfl).trans ?_
    refine (seqN (env' := [E0, some (.frz, .int at_), some (.frz, .int many), some (.frz, .bl small), dg, some (.own, .lst (A.map D.str)), some (.own, .lst []), some (.own, .lst []), none, none, none, none, none, none]) (st1 := st') rfl).trans ?_
    refine (seqN (env' := [E0, some (.frz, .int at_), some (.frz, .int many), some (.frz, .bl small), dg, some (.own, .lst (A.map D.str)), some (.own, .lst []), some (.own, .lst []), some (.frz, .int 2), none, none, none, none, none]) (st1 := st') rfl).trans ?_
    refine (seqN (env' := [E0, some (.frz, .int at_), some (.frz, .int many), some (.frz, .bl small), dg, some (.own, .lst (A.map D.str)), some (.own, .lst []), some (.own, .lst []), some (.frz, .int (a0 : Nat)), none, none, none, none, none]) (st1 := st') ?_).trans ?_
    · cases small with
      | false => rw [sIf_eq]; rfl
      | true =>
        have h3' := hR 3 3 st' (by decide) rfl
        have hc : (((1 + rowA cc 60 3 % 2).toNat : Nat) : Int) = 1 + rowA cc 60 3 % 2 := Int.toNat_of_nonneg (by omega)
        rw [sIf_eq]
        show (sSet 8 (bBin kAdd (bC (D.int 1)) (bBin kMod (bBin kIx (bVarR 4) (bC (D.int 3))) (bC (D.int 2))))) [E0, some (.frz, .int at_), some (.frz, .int many), some (.frz, .bl true), some (Fl.frz, D.lst ((rowL cc 4 60).map D.int)), some (.own, .lst (A.map D.str)), some (.own, .lst []), some (.own, .lst []), some (.frz, .int 2), none, none, none, none, none] st' = _
        simp only [sSet_eq, bBin_eq, bVarR_s, bVarR_z, bC_eq, bind_ok, h3', kMod_int, show (0 : Int) < 2 by decide, if_true, kAdd_int, out_ok, slotOf_int]
        rw [← hc]
        rfl
    refine (seqN (env' := [E0, some (.frz, .int at_), some (.frz, .int many), some (.frz, .bl small), dg, some (.own, .lst (A.map D.str)), some (.own, .lst (cs.map Co.d)), some (fk, .lst (K'.map pairD)), some (.frz, .int (a' : Nat)), s9, s10, none, s12, none]) (st1 := st') ?_).trans ?_
    · have h1' := hR 1 1 st' (by decide) rfl
      rw [sFor_L, iRng1D_int _ (mm : Nat) (by
        show (bBin _ _ _) [E0, some (.frz, .int at_), some (.frz, .int many), some (.frz, .bl small), some (Fl.frz, D.lst ((rowL cc 4 60).map D.int)), some (.own, .lst (A.map D.str)), some (.own, .lst []), some (.own, .lst []), some (.frz, .int (a0 : Nat)), none, none, none, none, none] st' = _
        simp only [bBin_eq, bVarR_s, bVarR_z, bC_eq, bind_ok, h1', kMod_int, show (0 : Int) < many by omega, if_true, kAdd_int, hmm]) ⟨by omega, by omega⟩, outL_ok]
      exact h1
    have hn0 : 0 ≤ rowA cc 60 2 % (3 - smI small) := Int.emod_nonneg _ (by omega)
    have h2' := hR 2 2 st' (by decide) rfl
    have p3 : (0 : Int) < 3 - smI small := by omega
    have hcomp := comp_names (own := [13]) (fi := iVarC 5) (i := 13) (env := [E0, some (.frz, .int at_), some (.frz, .int many), some (.frz, .bl small), dg, some (.own, .lst (A.map D.str)), some (.frz, .lst (cs.map Co.d)), some (fk, .lst (K'.map pairD)), some (.frz, .int (a' : Nat)), s9, s10, none, s12, none]) (st := st') (c := cYes) (f := bTup (lCons (bVar 13) (lCons (bBin kMod (bBin kIx (bVarR 4) (bC (D.int 2))) (bBin kSub (bC (D.int 3)) (bCall kInt (lCons (bVarR 3) lNil)))) lNil))) A true (fun x => hdD (x, az)) rfl (by simp) (fun x hx => rfl) (fun x hx => by
      show (bTup _) [E0, some (.frz, .int at_), some (.frz, .int many), some (.frz, .bl small), some (Fl.frz, D.lst ((rowL cc 4 60).map D.int)), some (.own, .lst (A.map D.str)), some (.frz, .lst (cs.map Co.d)), some (fk, .lst (K'.map pairD)), some (.frz, .int (a' : Nat)), s9, s10, none, s12, some (.frz, .str x)] st' = _
      simp only [bTup_eq, lCons_eq, bVar_s, bVar_z, bBin_eq, bVarR_s, bVarR_z, bC_eq, bind_ok, h2', bCall_eq, lNil_eq, smI_eq, kSub_int, kMod_int, p3, if_true, hdD]
      rw [show ((az : Nat) : Int) = rowA cc 60 2 % (3 - smI small) from Int.toNat_of_nonneg hn0])
    rw [sFrz_eq]
    show fin ((sRet _) [E0, some (.frz, .int at_), some (.frz, .int many), some (.frz, .bl small), dg, some (.own, .lst (A.map D.str)), some (.frz, .lst (cs.map Co.d)), some (fk, .lst (K'.map pairD)), some (.frz, .int (a' : Nat)), s9, s10, none, s12, none] st') = _
    rw [sRet_eq, bTup_eq, lCons_eq, hcomp, bind_ok]
    simp only [lCons_eq, bVar_s, bVar_z, bind_ok, lNil_eq, out_ok, fin_ret, if_true, Ho.d, List.map_map]
    rfl
end
end K40

namespace K40
open PySem L2 NC
/-! ### houses with other names -/
def NM : List Str := ["a", "b", "x", "y", "p", "q", "c", "d"]
end K40
namespace NC
open PySem L2
def Ex.ren (f : Str → Str) : Ex → Ex
  | .num n => .num n
  | .var x => .var (f x)
  | .giv => .giv
  | .hav a => .hav (f a)
  | .out a => .out (f a)
  | .op s l r => .op s (l.ren f) (r.ren f)
mutual
def Sm.ren (f : Str → Str) : Sm → Sm
  | .set v e => .set (f v) (e.ren f)
  | .need e => .need (e.ren f)
  | .give a e => .give (f a) (e.ren f)
  | .get a e => .get (f a) (e.ren f)
  | .ask v n => .ask (f v) n
  | .call c p e => .call (f c) (f p) (e.ren f)
  | .move c a e => .move (f c) (f a) (e.ren f)
  | .ife e t o => .ife (e.ren f) (t.ren f) (o.ren f)
def Bl.ren (f : Str → Str) : Bl → Bl
  | .nil => .nil
  | .cons s b => .cons (s.ren f) (b.ren f)
end
def Pr.ren (f : Str → Str) (p : Pr) : Pr := ⟨f p.n, p.z, p.sh, p.b.ren f⟩
def Co.ren (f : Str → Str) (c : Co) : Co := ⟨f c.n, c.vs.map (fun v => (f v.1, v.2)), c.hs.map (fun v => (f v.1, v.2)), c.ps.map (Pr.ren f)⟩
def Ho.ren (f : Str → Str) (h : Ho) : Ho := ⟨h.as.map (fun v => (f v.1, v.2)), h.cs.map (Co.ren f)⟩
theorem Ex.ren_id : ∀ e : Ex, e.ren id = e
  | .num n => rfl
  | .var x => rfl
  | .giv => rfl
  | .hav a => rfl
  | .out a => rfl
  | .op s l r => by rw [Ex.ren, Ex.ren_id l, Ex.ren_id r]
mutual
theorem Sm.ren_id : ∀ e : Sm, e.ren id = e
  | .set v e => by rw [Sm.ren, Ex.ren_id]; rfl
  | .need e => by rw [Sm.ren, Ex.ren_id]
  | .give a e => by rw [Sm.ren, Ex.ren_id]; rfl
  | .get a e => by rw [Sm.ren, Ex.ren_id]; rfl
  | .ask v n => by rw [Sm.ren]; rfl
  | .call c p e => by rw [Sm.ren, Ex.ren_id]; rfl
  | .move c a e => by rw [Sm.ren, Ex.ren_id]; rfl
  | .ife e t o => by rw [Sm.ren, Ex.ren_id, Bl.ren_id t, Bl.ren_id o]
theorem Bl.ren_id : ∀ e : Bl, e.ren id = e
  | .nil => by rw [Bl.ren]
  | .cons s b => by rw [Bl.ren, Sm.ren_id s, Bl.ren_id b]
end
theorem Ho.ren_id (h : Ho) : h.ren id = h := by
  have hp : Pr.ren id = id := by funext p; show Pr.mk _ _ _ _ = p; rw [Bl.ren_id]; rfl
  have hc : Co.ren id = id := by funext c; show Co.mk _ _ _ _ = c; rw [hp]; simp
  show Ho.mk _ _ = h
  rw [hc]; simp
theorem Bl.ren_len (f : Str → Str) : ∀ b : Bl, (b.ren f).len = b.len
  | .nil => by rw [Bl.ren]
  | .cons s b => by rw [Bl.ren, Bl.len, Bl.len, Bl.ren_len f b]
theorem op_ok {s : Str} (h : s ∈ opS) : PyData.strOk s = true := by
  have key : ∀ s ∈ opS, PyData.strOk s = true := by decide +kernel
  exact key s h
/-! plain data -/
section
variable {f : Str → Str} {V A : List Str} {K : List (Str × Str)} (hV : ∀ x ∈ V, PyData.strOk (f x) = true) (hA : ∀ x ∈ A, PyData.strOk (f x) = true) (hK : ∀ p ∈ K, PyData.strOk (f p.1) = true ∧ PyData.strOk (f p.2) = true)
theorem lt_ok : ∀ w ∈ [("number" : Str), "variable", "given", "have", "out", "set", "need", "give", "get", "ask", "call", "move", "if"], PyData.strOk w = true := by decide +kernel
theorem gp_lit {n : Nat} {w : Str} (h : w ∈ [("number" : Str), "variable", "given", "have", "out", "set", "need", "give", "get", "ask", "call", "move", "if"]) : gdP n (.str w) := gp_str (lt_ok w h)
include hV hA
theorem gp_ex : ∀ (k : Nat) (e : Ex), e.ok V A k → gdP (k + 1) (e.ren f).d
  | k, .num n, h => (gp2 (n := 0) (gp_lit (by simp)) gp_int).mono (by omega)
  | k, .var x, h => by
    have h' : x ∈ V := by cases k <;> exact h
    exact (gp2 (n := 0) (gp_lit (by simp)) (gp_str (hV x h'))).mono (by omega)
  | k, .giv, h => (gp1 (n := 0) (gp_lit (by simp))).mono (by omega)
  | k, .hav a, h => by
    have h' : a ∈ A := by cases k <;> exact h
    exact (gp2 (n := 0) (gp_lit (by simp)) (gp_str (hA a h'))).mono (by omega)
  | k, .out a, h => by
    have h' : a ∈ A := by cases k <;> exact h
    exact (gp2 (n := 0) (gp_lit (by simp)) (gp_str (hA a h'))).mono (by omega)
  | 0, .op _ _ _, h => absurd h id
  | k + 1, .op s l r, h => gp3 (gp_str (op_ok h.1)) (gp_ex k l h.2.1) (gp_ex k r h.2.2)
include hK
mutual
theorem gp_sm : ∀ (d : Nat) (s : Sm), s.ok V A K d → gdP (6 + 2 * d) (s.ren f).d
  | d, .set v e, h => by
    have h' : v ∈ V ∧ e.ok V A 3 := by cases d <;> exact h
    rw [Sm.ren, Sm.d]
    exact (gp3 (gp_lit (by simp)) (gp_str (hV v h'.1)) (gp_ex hV hA 3 e h'.2)).mono (by omega)
  | d, .need e, h => by
    have h' : e.ok V A 3 := by cases d <;> exact h
    rw [Sm.ren, Sm.d]
    exact (gp2 (gp_lit (by simp)) (gp_ex hV hA 3 e h')).mono (by omega)
  | d, .give v e, h => by
    have h' : v ∈ A ∧ e.ok V A 3 := by cases d <;> exact h
    rw [Sm.ren, Sm.d]
    exact (gp3 (gp_lit (by simp)) (gp_str (hA v h'.1)) (gp_ex hV hA 3 e h'.2)).mono (by omega)
  | d, .get v e, h => by
    have h' : v ∈ A ∧ e.ok V A 3 := by cases d <;> exact h
    rw [Sm.ren, Sm.d]
    exact (gp3 (gp_lit (by simp)) (gp_str (hA v h'.1)) (gp_ex hV hA 3 e h'.2)).mono (by omega)
  | d, .ask v n, h => by
    have h' : v ∈ V := by cases d <;> exact h.1
    rw [Sm.ren, Sm.d]
    exact (gp3 (n := 0) (gp_lit (by simp)) (gp_str (hV v h')) gp_int).mono (by omega)
  | d, .call c p e, h => by
    have h' : (c, p) ∈ K ∧ e.ok V A 3 := by cases d <;> exact h
    obtain ⟨k1, k2⟩ := hK _ h'.1
    rw [Sm.ren, Sm.d]
    exact (gp4 (gp_lit (by simp)) (gp_str k1) (gp_str k2) (gp_ex hV hA 3 e h'.2)).mono (by omega)
  | 0, .move _ _ _, h => absurd h id
  | _ + 1, .move _ _ _, h => absurd h id
  | 0, .ife _ _ _, h => absurd h id
  | d + 1, .ife e t o, h => by
    have a := gp_ex hV hA 3 e h.1
    have t1 := gp_blk d t h.2.1
    have o1 := gp_blk d o h.2.2.1
    rw [Sm.ren, Sm.d]
    exact (gp4 (n := 7 + 2 * d) (gp_lit (by simp)) (a.mono (by omega)) (gp_tup (n := 6 + 2 * d) t1 |>.mono (by omega)) (gp_tup (n := 6 + 2 * d) o1 |>.mono (by omega))).mono (by omega)
theorem gp_blk : ∀ (d : Nat) (b : Bl), b.ok V A K d → ∀ x ∈ (b.ren f).ds, gdP (6 + 2 * d) x
  | d, .nil, h => by
    rw [Bl.ren, Bl.ds]
    exact fun x hx => by cases hx
  | d, .cons s b, h => by
    rw [Bl.ok] at h
    have a1 := gp_sm d s h.1
    have b1 := gp_blk d b h.2
    rw [Bl.ren, Bl.ds]
    intro x hx
    rcases List.mem_cons.mp hx with rfl | hx
    · exact a1
    · exact b1 x hx
end
end
/-- what is asked of a house further on -/
structure PrG (p : Pr) : Prop where
  d : gdP 12 p.d
  n : PyData.strOk p.n = true
  l : p.b.len ≤ 4
structure CoG (co : Co) : Prop where
  d : gdP 16 co.d
  n : PyData.strOk co.n = true
  v : co.vs.length ≤ 2
  ps : co.ps.length ≤ 2
  p : ∀ p ∈ co.ps, PrG p
structure HoG (h : Ho) : Prop where
  a : ∀ a ∈ h.as, gdP 2 (hdD a) ∧ PyData.strOk a.1 = true
  al : h.as.length ≤ 2
  cl : h.cs.length ≤ 4
  c0 : h.cs ≠ []
  c : ∀ co ∈ h.cs, CoG co
def frK (f : Str → Str) (K : List (Str × Str)) : Prop := ∀ p ∈ K, PyData.strOk (f p.1) = true ∧ PyData.strOk (f p.2) = true
theorem ps_gp {f : Str → Str} {V A : List Str} {c : Str} (hV : ∀ x ∈ V, PyData.strOk (f x) = true) (hA : ∀ x ∈ A, PyData.strOk (f x) = true) (hc : PyData.strOk (f c) = true) : ∀ {ns : List Str} {K : List (Str × Str)} {a : Nat} {ps : List Pr} {K' : List (Str × Str)} {a' : Nat}, PsOk V A c ns K a ps K' a' → (∀ x ∈ ns, PyData.strOk (f x) = true) → frK f K →
    (∀ p ∈ ps, PrG (p.ren f)) ∧ frK f K'
  | ns, K, a, [], K', a', h, hn, hK => by
    obtain ⟨rfl, rfl⟩ := PsOk_nil.mp h
    exact ⟨(fun p hp => by cases hp), hK⟩
  | [], K, a, p :: ps, K', a', h, hn, hK => h.elim
  | n :: ns, K, a, p :: ps, K', a', h, hn, hK => by
    obtain ⟨g1, g2, g3, g4, g5, b, g6, g7⟩ := h
    have hnn := hn n (List.mem_cons_self ..)
    have hK2 : frK f (if p.b.calls = 0 then K ++ [(c, n)] else K) := by
      split
      · intro q hq
        rcases List.mem_append.mp hq with hq | hq
        · exact hK q hq
        · rw [List.mem_singleton.mp hq]; exact ⟨hc, hnn⟩
      · exact hK
    have hp : PrG (p.ren f) := ⟨gp4 (n := 11) (gp_str (by show PyData.strOk (f p.n) = true; rw [g1]; exact hnn)) gp_int gp_bl (gp_tup (n := 8) (gp_blk hV hA hK 1 p.b g3) |>.mono (by omega)), by show PyData.strOk (f p.n) = true; rw [g1]; exact hnn, by show (p.b.ren f).len ≤ 4; rw [Bl.ren_len]; exact g5⟩
    have rest : (∀ p ∈ ps, PrG (p.ren f)) ∧ frK f K' := by
      rcases g7 with g7 | g7
      · exact ps_gp hV hA hc g7 (fun x hx => hn x (List.mem_cons_of_mem _ hx)) hK2
      · exact ps_gp hV hA hc g7 (fun x hx => hn x (List.mem_cons_of_mem _ hx)) hK
    refine ⟨fun q hq => ?_, rest.2⟩
    rcases List.mem_cons.mp hq with rfl | hq
    · exact hp
    · exact rest.1 q hq
end NC
namespace K40
open PySem L2 NC
theorem co_g {f : Str → Str} (hf : ∀ x ∈ NM, PyData.strOk (f x) = true) {A : List Str} (hA : ∀ x ∈ A, x ∈ NM) {c : Str} (hc : c ∈ NM) {K : List (Str × Str)} {a : Nat} {co : Co} {K' : List (Str × Str)} {a' : Nat} (h : CoOk A c K a co K' a') (hK : frK f K) : CoG (co.ren f) ∧ frK f K' := by
  obtain ⟨k, hk⟩ := h.vs
  have hvm : ∀ x ∈ co.vs.map (·.1), x ∈ NM := fun x hx => by
    rw [hk] at hx
    have := List.mem_of_mem_take hx
    simp at this
    rcases this with rfl | rfl <;> simp [NM]
  have hvl : co.vs.length ≤ 2 := by
    have := congrArg List.length hk
    rw [List.length_map, List.length_take] at this
    simp at this
    omega
  have hhm : ∀ x ∈ co.hs, x.1 ∈ NM := fun x hx => by
    rcases h.hs with e | e
    · exact hA _ (by rw [← e]; exact List.mem_map_of_mem hx)
    · rw [e] at hx; cases hx
  obtain ⟨z1, z2⟩ := ps_gp (f := f) (fun x hx => hf x (hvm x hx)) (fun x hx => hf x (hA x hx)) (hf c hc) h.ps (fun x hx => hf x (by simp at hx; rcases hx with rfl | rfl <;> simp [NM])) hK
  have hps := h.ps.len
  refine ⟨⟨gp4 (n := 15) (gp_str (by show PyData.strOk (f co.n) = true; rw [h.n]; exact hf c hc)) ?_ ?_ ?_, by show PyData.strOk (f co.n) = true; rw [h.n]; exact hf c hc, by show (co.vs.map _).length ≤ 2; rw [List.length_map]; exact hvl, by show (co.ps.map _).length ≤ 2; rw [List.length_map]; exact hps.1, fun p hp => ?_⟩, z2⟩
  · show gdP 15 (.tup ((co.vs.map _).map vrD))
    rw [List.map_map]
    refine (gp_tup (n := 1) (gp_map fun v hv => ?_)).mono (by omega)
    exact gp3 (gp_str (hf _ (hvm _ (List.mem_map_of_mem hv)))) gp_int gp_int
  · show gdP 15 (.tup ((co.hs.map _).map hdD))
    rw [List.map_map]
    refine (gp_tup (n := 1) (gp_map fun v hv => ?_)).mono (by omega)
    exact gp2 (gp_str (hf _ (hhm _ hv))) gp_int
  · show gdP 15 (.tup ((co.ps.map _).map Pr.d))
    refine (gp_tup (n := 12) (gp_map fun v hv => ?_)).mono (by omega)
    obtain ⟨p, hp, rfl⟩ := List.mem_map.mp hv
    exact (z1 p hp).d
  · obtain ⟨q, hq, rfl⟩ := List.mem_map.mp hp
    exact z1 q hq
theorem cs_g {f : Str → Str} (hf : ∀ x ∈ NM, PyData.strOk (f x) = true) {A : List Str} (hA : ∀ x ∈ A, x ∈ NM) : ∀ {ns : List Str} {K : List (Str × Str)} {a : Nat} {cs : List Co} {K' : List (Str × Str)} {a' : Nat}, CsOk A ns K a cs K' a' → (∀ x ∈ ns, x ∈ NM) → frK f K → ∀ co ∈ cs, CoG (co.ren f)
  | ns, K, a, [], K', a', h, hn, hK => fun co hco => by cases hco
  | [], K, a, c :: cs, K', a', h, hn, hK => h.elim
  | n :: ns, K, a, c :: cs, K', a', h, hn, hK => by
    obtain ⟨K1, a1, h1, h2⟩ := h
    obtain ⟨z1, z2⟩ := co_g hf hA (hn n (List.mem_cons_self ..)) h1 hK
    intro co hco
    rcases List.mem_cons.mp hco with rfl | hco
    · exact z1
    · exact cs_g hf hA h2 (fun x hx => hn x (List.mem_cons_of_mem _ hx)) z2 co hco
theorem ho_g {f : Str → Str} (hf : ∀ x ∈ NM, PyData.strOk (f x) = true) {h : Ho} (hok : HoOk [("c" : Str), "d"] h) (hl : h.cs.length ≤ 4) : HoG (h.ren f) := by
  obtain ⟨⟨ak, hA⟩, haz, hcn, a0, K', a', ha0, hcs⟩ := hok
  have hAm : ∀ x ∈ h.as.map (·.1), x ∈ NM := fun x hx => by
    rw [hA] at hx
    have := List.mem_of_mem_take hx
    simp at this
    rcases this with rfl | rfl <;> simp [NM]
  have hal : h.as.length ≤ 2 := by
    have := congrArg List.length hA
    rw [List.length_map, List.length_take] at this
    simp at this
    omega
  refine ⟨fun a ha => ?_, by show (h.as.map _).length ≤ 2; rw [List.length_map]; exact hal, by show (h.cs.map _).length ≤ 4; rw [List.length_map]; exact hl, by show h.cs.map _ ≠ []; simpa using hcn, fun co hco => ?_⟩
  · obtain ⟨b, hb, rfl⟩ := List.mem_map.mp ha
    have := hf _ (hAm _ (List.mem_map_of_mem hb))
    exact ⟨gp2 (gp_str this) gp_int, this⟩
  · obtain ⟨c, hc, rfl⟩ := List.mem_map.mp hco
    exact cs_g hf hAm hcs (fun x hx => by simp at hx; rcases hx with rfl | rfl <;> simp [NM]) (fun p hp => by cases hp) c hc
end K40

namespace K40
open PySem L2 NC
/-! ### the same house with long names -/
def tbS0 : List (Str × Str) := [("a", "paid"), ("b", "paid1"), ("z", "paid12"), ("x", "paid"), ("y", "lock"), ("lock", "lock"), ("p", "paying"), ("q", "payinga")]
def tbS2 : List (Str × Str) := [("r", "payingab"), ("c", "houses0hold1"), ("d", "houses0hold2"), ("e", "houses0hold"), ("f", "paid")]
def tb1 : List (D × D) := (tbS0 ++ tbS2).map enS
def ren (x : Str) : Str := ((tbS0 ++ tbS2).lookup x).getD x
theorem look (x : Str) (hx : x ∈ NM) : lookD tb1 (.str x) = some (.str (ren x)) := by
  have key : ∀ x ∈ NM, (tbS0 ++ tbS2).lookup x = some (ren x) := by decide +kernel
  exact lookS_mem (key x hx)
theorem ren_ok : ∀ x ∈ NM, PyData.strOk (ren x) = true := by decide +kernel
theorem vho (s : Str) (st : Sto) : kIn (.str s) (.tup [.str "variable", .str "have", .str "out"]) st = .ok (.bl (decide (s ∈ [("variable" : Str), "have", "out"]))) st := kIn_strsT s ["variable", "have", "out"]
theorem vho_num (st : Sto) : kIn (.str "number") (.tup [.str "variable", .str "have", .str "out"]) st = .ok (.bl false) st := by
  rw [vho, show decide (("number" : Str) ∈ [("variable" : Str), "have", "out"]) = false by decide +kernel]
theorem vho_giv (st : Sto) : kIn (.str "given") (.tup [.str "variable", .str "have", .str "out"]) st = .ok (.bl false) st := by
  rw [vho, show decide (("given" : Str) ∈ [("variable" : Str), "have", "out"]) = false by decide +kernel]
theorem op_vho {s : Str} (h : s ∈ opS) : s ∉ [("variable" : Str), "have", "out"] := by
  have key : ∀ s ∈ opS, s ∉ [("variable" : Str), "have", "out"] := by decide +kernel
  exact key s h
section
variable {c : Nat} {st : Sto} (hc : st[c]? = some (.dic false tb1)) {V A : List Str} {K : List (Str × Str)} (hV : ∀ x ∈ V, x ∈ NM) (hA : ∀ x ∈ A, x ∈ NM) (hK : ∀ p ∈ K, p.1 ∈ NM ∧ p.2 ∈ NM)
include hc
theorem dget {x : Str} (hx : x ∈ NM) : kDGet (.loc c) (.str x) st = .ok (.str (ren x)) st := kDGet_of hc (look x hx)
include hV hA
theorem ev_called_value : ∀ (k n : Nat) (e : Ex), e.ok V A k → ∀ {m1 m2 : Md}, interp delta (n + k + 1) "_law_called_value" [(m1, e.d), (m2, .loc c)] st = .ok (e.ren ren).d st
  | k, n, .num x, h, m1, m2 => by
    rw [run_law_called_value]
    simp [sh_law_called_value, Ex.d, Ex.ren, vho_num]
  | k, n, .var x, h, m1, m2 => by
    have h' : x ∈ V := by cases k <;> exact h
    rw [run_law_called_value]
    simp [sh_law_called_value, Ex.d, Ex.ren, vho, dget hc (hV x h')]
  | k, n, .giv, h, m1, m2 => by
    rw [run_law_called_value]
    simp [sh_law_called_value, Ex.d, Ex.ren, vho_giv]
  | k, n, .hav x, h, m1, m2 => by
    have h' : x ∈ A := by cases k <;> exact h
    rw [run_law_called_value]
    simp [sh_law_called_value, Ex.d, Ex.ren, vho, dget hc (hA x h')]
  | k, n, .out x, h, m1, m2 => by
    have h' : x ∈ A := by cases k <;> exact h
    rw [run_law_called_value]
    simp [sh_law_called_value, Ex.d, Ex.ren, vho, dget hc (hA x h')]
  | 0, n, .op s l r, h, m1, m2 => absurd h id
  | k + 1, n, .op s l r, h, m1, m2 => by
    have i1 : ∀ {m1 m2 : Md}, interp delta (n + (k + 1)) "_law_called_value" [(m1, l.d), (m2, .loc c)] st = .ok (l.ren ren).d st := ev_called_value k n l h.2.1
    have i2 : ∀ {m1 m2 : Md}, interp delta (n + (k + 1)) "_law_called_value" [(m1, r.d), (m2, .loc c)] st = .ok (r.ren ren).d st := ev_called_value k n r h.2.2
    have hs := op_vho h.1
    rw [run_law_called_value]
    simp only [List.mem_cons, List.not_mem_nil, or_false, not_or] at hs
    simp [sh_law_called_value, Ex.d, Ex.ren, vho, hs, i1, i2]
theorem ev_cv (n : Nat) (e : Ex) (h : e.ok V A 3) {m1 m2 : Md} : interp delta (n + 4) "_law_called_value" [(m1, e.d), (m2, .loc c)] st = .ok (e.ren ren).d st := ev_called_value hc hV hA 3 n e h

def CB (V A : List Str) (K : List (Str × Str)) (c : Nat) (st : Sto) (L d : Nat) : Prop := ∀ (b : Bl), b.ok V A K d → b.len ≤ 1000 → ∀ {m1 m2 : Md}, interp delta L "_law_called_block" [(m1, .tup b.ds), (m2, .loc c)] st = .ok (.tup (b.ren ren).ds) st
theorem turn_plain (n : Nat) (kind : Str) (hk1 : kind ≠ "if") (hk2 : kind ≠ "ask") (xs : List Str) (hx : ∀ x ∈ xs, x ∈ NM) (hxl : xs.length ≤ 10) (e : Ex) (he : e.ok V A 3) (d : D) (h0 : ∀ st, kIx d (.int 0) st = .ok (.str kind) st)
    (hcut : ∀ st, kSl d (some 1) (some (-1)) st = .ok (.tup (xs.map D.str)) st) (h1 : ∀ st, kIx d (.int (-1)) st = .ok e.d st) (s0 s4 s5 s6 : NC.Slot) (acc : List D) (ha : acc.length < 10000) :
    ∃ r5, lb_law_called_block_0 (interp delta (n + 4)) [s0, some (.frz, .loc c), some (.own, .lst acc), some (.frz, d), s4, s5, s6] st =
      .next [s0, some (.frz, .loc c), some (.own, .lst (acc ++ [.tup (.str kind :: (xs.map (fun x => D.str (ren x)) ++ [(e.ren ren).d]))])), some (.frz, d), s4, r5, s6] st := by
  have hz := sz6
  have hcomp : bComp [6] (iSeq (bSl (bVarR 3) (oSome (bC (D.int 1))) (oSome (bNeg (bC (D.int 1)))))) (tgName 6) cYes (bBin kDGet (bVarR 1) (bVarR 6)) [s0, some (.frz, .loc c), some (.own, .lst acc), some (.frz, d), s4, s5, s6] st = .ok (.lst (xs.map fun x => .str (ren x))) st :=
    comp_all D.str xs (fun x => .str (ren x)) (iSeq_tup _ _ (by simp only [bSl_eq, bVarR_s, bVarR_z, bind_ok, oSome_eq, bC_eq, bNeg_eq, negV_int, toO_int, hcut])) fun x hxx => ⟨[s0, some (.frz, .loc c), some (.own, .lst acc), some (.frz, d), s4, s5, some (.frz, .str x)], rfl, by
      simp only [bBin_eq, bVarR_s, bVarR_z, bind_ok, dget hc (hx x hxx)]⟩
  have i1 : ∀ {m1 m2 : Md}, interp delta (n + 4) "_law_called_value" [(m1, e.d), (m2, .loc c)] st = .ok (e.ren ren).d st := ev_cv hc hV hA n e he
  refine ⟨some (.own, .lst (xs.map fun x => .str (ren x))), ?_⟩
  unfold lb_law_called_block_0
  simp only [sIf_eq, bTst_eq, bBin_eq, bVarR_s, bVarR_z, bC_eq, bind_ok, h0, kEq_str, hk1, hk2, decide_false, rBl_bl, outB_ok, Bool.false_eq_true, if_false, sCons_eq, sSet_eq, hcomp, out_ok, slotOf_lst, List.length_cons, List.length_nil]
  rw [if_pos (by decide)]
  simp only [List.set_cons_succ, List.set_cons_zero, seq_next, sApp_E]
  rw [show ([s0, some (.frz, .loc c), some (.own, .lst acc), some (.frz, d), s4, some (.own, .lst (xs.map fun x => D.str (ren x))), s6] : Ev)[2]? = some (some (.own, .lst acc)) from rfl, appE_own]
  simp only [bBin_eq, bTup_eq, lCons_eq, lNil_eq, bVarR_s, bVarR_z, bVarR_z1, bVar_s, bVar_z, bC_eq, bind_ok, h0, h1, bNeg_eq, negV_int, bCall_eq, kTuple_lst, kAdd_tup, List.length_cons, List.length_nil, List.length_map, bDef_eq, List.zip_cons_cons, List.zip_nil_right, i1, List.length_append]
  rw [if_pos (by omega)]
  simp only [bind_ok, i1, kAdd_tup, List.length_append, List.length_cons, List.length_nil, List.length_map]
  rw [if_pos (by omega)]
  simp only [out_ok]
  rw [appO_of _ _ _ (by omega)]
  simp
include hK
theorem turn_cb (n d : Nat) (hrec : ∀ d', d = d' + 1 → CB V A K c st (n + 4) d') (s : Sm) (hs : s.ok V A K d) (s0 s4 s5 s6 : NC.Slot) (acc : List D) (ha : acc.length < 10000) :
    ∃ r4 r5, lb_law_called_block_0 (interp delta (n + 4)) [s0, some (.frz, .loc c), some (.own, .lst acc), some (.frz, s.d), s4, s5, s6] st =
      .next [s0, some (.frz, .loc c), some (.own, .lst (acc ++ [(s.ren ren).d])), some (.frz, s.d), r4, r5, s6] st := by
  have hz := sz6
  cases s with
  | set v e =>
    have h' : v ∈ V ∧ e.ok V A 3 := by cases d <;> exact hs
    obtain ⟨r5, q⟩ := turn_plain hc hV hA n "set" (by decide +kernel) (by decide +kernel) [v] (fun x hx => by rw [List.mem_singleton.mp hx]; exact hV v h'.1) (by simp) e h'.2 (Sm.set v e).d (fun st => by rw [Sm.d]; exact kIx_tup_of atI_0) (fun st => by rw [Sm.d, kSl_tup]; rfl) (fun st => by rw [Sm.d]; exact kIx_tup_of atI_m3) s0 s4 s5 s6 acc ha
    exact ⟨s4, r5, by rw [q, Sm.ren, Sm.d, Sm.d]; rfl⟩
  | need e =>
    have h' : e.ok V A 3 := by cases d <;> exact hs
    obtain ⟨r5, q⟩ := turn_plain hc hV hA n "need" (by decide +kernel) (by decide +kernel) [] (fun x hx => by cases hx) (by simp) e h' (Sm.need e).d (fun st => by rw [Sm.d]; exact kIx_tup_of atI_0) (fun st => by rw [Sm.d, kSl_tup]; rfl) (fun st => by rw [Sm.d]; exact kIx_tup_of atI_m2) s0 s4 s5 s6 acc ha
    exact ⟨s4, r5, by rw [q, Sm.ren, Sm.d, Sm.d]; rfl⟩
  | give v e =>
    have h' : v ∈ A ∧ e.ok V A 3 := by cases d <;> exact hs
    obtain ⟨r5, q⟩ := turn_plain hc hV hA n "give" (by decide +kernel) (by decide +kernel) [v] (fun x hx => by rw [List.mem_singleton.mp hx]; exact hA v h'.1) (by simp) e h'.2 (Sm.give v e).d (fun st => by rw [Sm.d]; exact kIx_tup_of atI_0) (fun st => by rw [Sm.d, kSl_tup]; rfl) (fun st => by rw [Sm.d]; exact kIx_tup_of atI_m3) s0 s4 s5 s6 acc ha
    exact ⟨s4, r5, by rw [q, Sm.ren, Sm.d, Sm.d]; rfl⟩
  | get v e =>
    have h' : v ∈ A ∧ e.ok V A 3 := by cases d <;> exact hs
    obtain ⟨r5, q⟩ := turn_plain hc hV hA n "get" (by decide +kernel) (by decide +kernel) [v] (fun x hx => by rw [List.mem_singleton.mp hx]; exact hA v h'.1) (by simp) e h'.2 (Sm.get v e).d (fun st => by rw [Sm.d]; exact kIx_tup_of atI_0) (fun st => by rw [Sm.d, kSl_tup]; rfl) (fun st => by rw [Sm.d]; exact kIx_tup_of atI_m3) s0 s4 s5 s6 acc ha
    exact ⟨s4, r5, by rw [q, Sm.ren, Sm.d, Sm.d]; rfl⟩
  | call x y e =>
    have h' : (x, y) ∈ K ∧ e.ok V A 3 := by cases d <;> exact hs
    have hk := hK _ h'.1
    obtain ⟨r5, q⟩ := turn_plain hc hV hA n "call" (by decide +kernel) (by decide +kernel) [x, y] (fun z hz => by simp at hz; rcases hz with rfl | rfl; exact hk.1; exact hk.2) (by simp) e h'.2 (Sm.call x y e).d (fun st => by rw [Sm.d]; exact kIx_tup_of atI_0) (fun st => by rw [Sm.d, kSl_tup]; rfl) (fun st => by rw [Sm.d]; exact kIx_tup_of atI_m4) s0 s4 s5 s6 acc ha
    exact ⟨s4, r5, by rw [q, Sm.ren, Sm.d, Sm.d]; rfl⟩
  | move x y e => cases d <;> exact absurd hs id
  | ask v k =>
    have h' : v ∈ V := by cases d <;> exact hs.1
    have g := dget hc (hV v h')
    refine ⟨s4, s5, ?_⟩
    rw [Sm.ren, Sm.d, Sm.d]
    have e1 : (("ask" : Str) = "if") = False := eq_false (by decide +kernel)
    unfold lb_law_called_block_0
    simp only [sIf_eq, bTst_eq, bBin_eq, bVarR_s, bVarR_z, bC_eq, bind_ok, kIx_tup_of atI_0, kEq_str, decide_true, e1, decide_false, rBl_bl, outB_ok, Bool.false_eq_true, if_false, if_true]
    rw [sApp_E]
    rw [show ([s0, some (.frz, .loc c), some (.own, .lst acc), some (.frz, .tup [.str "ask", .str v, .int (k : Nat)]), s4, s5, s6] : Ev)[2]? = some (some (.own, .lst acc)) from rfl, appE_own]
    simp only [bTup_eq, lCons_eq, lNil_eq, bBin_eq, bVarR_s, bVarR_z, bC_eq, bind_ok, kIx_tup_of atI_1, kIx_tup_of atI_2, g, out_ok]
    rw [appO_of _ _ _ (by omega)]
    rfl
  | ife e t o =>
    cases d with
    | zero => exact absurd hs id
    | succ d =>
      have h' := hs
      rw [Sm.ok] at h'
      obtain ⟨h1, h2, h3, h4, h5⟩ := h'
      have i1 : ∀ {m1 m2 : Md}, interp delta (n + 4) "_law_called_value" [(m1, e.d), (m2, .loc c)] st = .ok (e.ren ren).d st := ev_cv hc hV hA n e h1
      have i2 : ∀ {m1 m2 : Md}, interp delta (n + 4) "_law_called_block" [(m1, .tup t.ds), (m2, .loc c)] st = .ok (.tup (t.ren ren).ds) st := hrec d rfl t h2 (by omega)
      have i3 : ∀ {m1 m2 : Md}, interp delta (n + 4) "_law_called_block" [(m1, .tup o.ds), (m2, .loc c)] st = .ok (.tup (o.ren ren).ds) st := hrec d rfl o h3 (by omega)
      refine ⟨some (.frz, .tup [.tup (t.ren ren).ds, .tup (o.ren ren).ds]), s5, ?_⟩
      rw [Sm.ren, Sm.d, Sm.d]
      unfold lb_law_called_block_0
      simp only [sIf_eq, bTst_eq, bBin_eq, bVarR_s, bVarR_z, bC_eq, bind_ok, kIx_tup_of atI_0, kEq_str, decide_true, rBl_bl, outB_ok, if_true, sCons_eq, sSet_eq, bTup_eq, lCons_eq, lNil_eq, bDef_eq, kIx_tup_of atI_2, kIx_tup_of atI_3, List.zip_cons_cons, List.zip_nil_right, i2, i3, out_ok, slotOf_tup, List.length_cons, List.length_nil]
      rw [if_pos (by decide)]
      simp only [List.set_cons_succ, List.set_cons_zero, seq_next, sApp_E]
      rw [show ([s0, some (.frz, .loc c), some (.own, .lst acc), some (.frz, .tup [.str "if", e.d, .tup t.ds, .tup o.ds]), some (.frz, .tup [.tup (t.ren ren).ds, .tup (o.ren ren).ds]), s5, s6] : Ev)[2]? = some (some (.own, .lst acc)) from rfl, appE_own]
      simp only [bTup_eq, lCons_eq, lNil_eq, bBin_eq, bVarR_s, bVarR_z, bC_eq, bind_ok, bDef_eq, kIx_tup_of atI_0, kIx_tup_of atI_1, List.zip_cons_cons, List.zip_nil_right, i1, out_ok]
      rw [appO_of _ _ _ (by omega)]
      rfl
theorem loop_cb (n d : Nat) (hrec : ∀ d', d = d' + 1 → CB V A K c st (n + 4) d') (s0 s6 : NC.Slot) : ∀ (b : Bl), b.ok V A K d → ∀ (acc : List D) (s3 s4 s5 : NC.Slot), acc.length + b.len < 10000 →
    ∃ r3 r4 r5, forL (tgName 3) (lb_law_called_block_0 (interp delta (n + 4))) b.ds [s0, some (.frz, .loc c), some (.own, .lst acc), s3, s4, s5, s6] st = .next [s0, some (.frz, .loc c), some (.own, .lst (acc ++ (b.ren ren).ds)), r3, r4, r5, s6] st
  | .nil, h, acc, s3, s4, s5, hl => ⟨s3, s4, s5, by rw [Bl.ds, Bl.ren, Bl.ds, List.append_nil]; rfl⟩
  | .cons s b, h, acc, s3, s4, s5, hl => by
    rw [Bl.ok] at h
    rw [Bl.len] at hl
    obtain ⟨q4, q5, e⟩ := turn_cb hc hV hA hK n d hrec s h.1 s0 s4 s5 s6 acc (by omega)
    obtain ⟨r3, r4, r5, e2⟩ := loop_cb n d hrec s0 s6 b h.2 (acc ++ [(s.ren ren).d]) (some (.frz, s.d)) q4 q5 (by rw [List.length_append, List.length_singleton]; omega)
    refine ⟨r3, r4, r5, ?_⟩
    rw [Bl.ds, forL_name _ _ _ _ (by simp)]
    simp only [List.set_cons_succ, List.set_cons_zero]
    rw [e, turn_next, e2, Bl.ren, Bl.ds, List.append_assoc]; rfl
theorem ev_called_block : ∀ (d n : Nat), CB V A K c st (n + 5 + d) d
  | d, n, b, hb, hl, m1, m2 => by
    have hrec : ∀ d', d = d' + 1 → CB V A K c st (n + d + 4) d' := fun d' e => by
      subst e
      have := ev_called_block d' n
      rwa [show n + 5 + d' = n + (d' + 1) + 4 by omega] at this
    obtain ⟨r3, r4, r5, e⟩ := loop_cb hc hV hA hK (n + d) d hrec (some (.frz, .tup b.ds)) none b hb [] none none none (by simp; omega)
    rw [show n + 5 + d = (n + d + 4) + 1 by omega, run_law_called_block]
    unfold sh_law_called_block
    simp only [slotA_tup, slotA_loc]
    rw [sCons_eq, sSet_eq, bLst_eq, lNil_eq, bind_ok, out_ok]
    simp only [List.length_cons, List.length_nil, slotOf_lst, List.set_cons_succ, List.set_cons_zero]
    rw [if_pos (by decide), seq_next, sCons_eq, sFor_L, iVar_tup, outL_ok, e]
    simp
end
end K40

namespace K40
open PySem L2 NC
/-! ### _law_called -/
structure PrN (p : Pr) : Prop where
  n : p.n ∈ NM
  b : ∃ V A K, (∀ x ∈ V, x ∈ NM) ∧ (∀ x ∈ A, x ∈ NM) ∧ (∀ q ∈ K, q.1 ∈ NM ∧ q.2 ∈ NM) ∧ p.b.ok V A K 1 ∧ p.b.len ≤ 1000
structure CoN (co : Co) : Prop where
  n : co.n ∈ NM
  v : ∀ v ∈ co.vs, v.1 ∈ NM
  h : ∀ v ∈ co.hs, v.1 ∈ NM
  p : ∀ p ∈ co.ps, PrN p
structure HoN (h : Ho) : Prop where
  a : ∀ a ∈ h.as, a.1 ∈ NM
  c : ∀ co ∈ h.cs, CoN co
  l : h.cs.length ≤ 1000
theorem ps_n {V A : List Str} {c : Str} (hV : ∀ x ∈ V, x ∈ NM) (hA : ∀ x ∈ A, x ∈ NM) (hc : c ∈ NM) : ∀ {ns : List Str} {K : List (Str × Str)} {a : Nat} {ps : List Pr} {K' : List (Str × Str)} {a' : Nat}, PsOk V A c ns K a ps K' a' → (∀ x ∈ ns, x ∈ NM) → (∀ q ∈ K, q.1 ∈ NM ∧ q.2 ∈ NM) →
    (∀ p ∈ ps, PrN p) ∧ ∀ q ∈ K', q.1 ∈ NM ∧ q.2 ∈ NM
  | ns, K, a, [], K', a', h, hn, hK => by
    obtain ⟨rfl, rfl⟩ := PsOk_nil.mp h
    exact ⟨(fun p hp => by cases hp), hK⟩
  | [], K, a, p :: ps, K', a', h, hn, hK => h.elim
  | n :: ns, K, a, p :: ps, K', a', h, hn, hK => by
    obtain ⟨g1, g2, g3, g4, g5, b, g6, g7⟩ := h
    have hnn := hn n (List.mem_cons_self ..)
    have hK2 : ∀ q ∈ (if p.b.calls = 0 then K ++ [(c, n)] else K), q.1 ∈ NM ∧ q.2 ∈ NM := by
      split
      · intro q hq
        rcases List.mem_append.mp hq with hq | hq
        · exact hK q hq
        · rw [List.mem_singleton.mp hq]; exact ⟨hc, hnn⟩
      · exact hK
    have rest : (∀ p ∈ ps, PrN p) ∧ ∀ q ∈ K', q.1 ∈ NM ∧ q.2 ∈ NM := by
      rcases g7 with g7 | g7
      · exact ps_n hV hA hc g7 (fun x hx => hn x (List.mem_cons_of_mem _ hx)) hK2
      · exact ps_n hV hA hc g7 (fun x hx => hn x (List.mem_cons_of_mem _ hx)) hK
    refine ⟨fun q hq => ?_, rest.2⟩
    rcases List.mem_cons.mp hq with rfl | hq
    · exact ⟨by rw [g1]; exact hnn, V, A, K, hV, hA, hK, g3, by omega⟩
    · exact rest.1 q hq
theorem co_n {A : List Str} (hA : ∀ x ∈ A, x ∈ NM) {c : Str} (hc : c ∈ NM) {K : List (Str × Str)} {a : Nat} {co : Co} {K' : List (Str × Str)} {a' : Nat} (h : CoOk A c K a co K' a') (hK : ∀ q ∈ K, q.1 ∈ NM ∧ q.2 ∈ NM) : CoN co ∧ ∀ q ∈ K', q.1 ∈ NM ∧ q.2 ∈ NM := by
  obtain ⟨k, hk⟩ := h.vs
  have hvm : ∀ x ∈ co.vs.map (·.1), x ∈ NM := fun x hx => by
    rw [hk] at hx
    have := List.mem_of_mem_take hx
    simp at this
    rcases this with rfl | rfl <;> simp [NM]
  have hhm : ∀ x ∈ co.hs, x.1 ∈ NM := fun x hx => by
    rcases h.hs with e | e
    · exact hA _ (by rw [← e]; exact List.mem_map_of_mem hx)
    · rw [e] at hx; cases hx
  obtain ⟨z1, z2⟩ := ps_n hvm hA hc h.ps (fun x hx => by simp at hx; rcases hx with rfl | rfl <;> simp [NM]) hK
  exact ⟨⟨by rw [h.n]; exact hc, fun v hv => hvm _ (List.mem_map_of_mem hv), hhm, z1⟩, z2⟩
theorem cs_n {A : List Str} (hA : ∀ x ∈ A, x ∈ NM) : ∀ {ns : List Str} {K : List (Str × Str)} {a : Nat} {cs : List Co} {K' : List (Str × Str)} {a' : Nat}, CsOk A ns K a cs K' a' → (∀ x ∈ ns, x ∈ NM) → (∀ q ∈ K, q.1 ∈ NM ∧ q.2 ∈ NM) → ∀ co ∈ cs, CoN co
  | ns, K, a, [], K', a', h, hn, hK => fun co hco => by cases hco
  | [], K, a, c :: cs, K', a', h, hn, hK => h.elim
  | n :: ns, K, a, c :: cs, K', a', h, hn, hK => by
    obtain ⟨K1, a1, h1, h2⟩ := h
    obtain ⟨z1, z2⟩ := co_n hA (hn n (List.mem_cons_self ..)) h1 hK
    intro co hco
    rcases List.mem_cons.mp hco with rfl | hco
    · exact z1
    · exact cs_n hA h2 (fun x hx => hn x (List.mem_cons_of_mem _ hx)) z2 co hco
theorem ho_n {h : Ho} (hok : HoOk [("c" : Str), "d"] h) (hl : h.cs.length ≤ 4) : HoN h := by
  obtain ⟨⟨ak, hA⟩, haz, hcn, a0, K', a', ha0, hcs⟩ := hok
  have hAm : ∀ x ∈ h.as.map (·.1), x ∈ NM := fun x hx => by
    rw [hA] at hx
    have := List.mem_of_mem_take hx
    simp at this
    rcases this with rfl | rfl <;> simp [NM]
  exact ⟨fun a ha => hAm _ (List.mem_map_of_mem ha), cs_n hAm hcs (fun x hx => by simp at hx; rcases hx with rfl | rfl <;> simp [NM]) (fun p hp => by cases hp), by omega⟩
section
variable {c : Nat} {st : Sto} (hc : st[c]? = some (.dic false tb1))
include hc
theorem turn_called (n : Nat) (co : Co) (W : CoN co) (s0 s2 s3 s6 s7 s8 s9 s10 : NC.Slot) (acc : List D) (ha : acc.length < 10000) :
    ∃ r6 r8 r9, lb_law_called_1 (interp delta (n + 6)) [s0, some (.frz, .loc c), s2, s3, some (.own, .lst acc), some (.frz, co.d), s6, s7, s8, s9, s10] st =
      .next [s0, some (.frz, .loc c), s2, s3, some (.own, .lst (acc ++ [(co.ren ren).d])), some (.frz, co.d), r6, s7, r8, r9, s10] st := by
  have hz := sz6
  have hv : ∀ s6 s8 s9, bComp [7] (iSeq (bBin kIx (bVarR 5) (bC (D.int 1)))) (tgName 7) cYes (bBin kAdd (bTup (lCons (bBin kDGet (bVarR 1) (bBin kIx (bVarR 7) (bC (D.int 0)))) lNil)) (bSl (bVarR 7) (oSome (bC (D.int 1))) oNone)) [s0, some (.frz, .loc c), s2, s3, some (.own, .lst acc), some (.frz, co.d), s6, s7, s8, s9, s10] st = .ok (.lst ((co.vs.map fun v => (ren v.1, v.2)).map vrD)) st := fun s6 s8 s9 => by
    rw [List.map_map]
    refine comp_all vrD co.vs _ (iSeq_tup _ _ (by simp only [bBin_eq, bVarR_s, bVarR_z, bC_eq, bind_ok, co_ix1])) fun v hv => ⟨[s0, some (.frz, .loc c), s2, s3, some (.own, .lst acc), some (.frz, co.d), s6, some (.frz, vrD v), s8, s9, s10], rfl, ?_⟩
    have e1 : ∀ st, kSl (vrD v) (some 1) none st = .ok (.tup [.int v.2.1, .int v.2.2]) st := fun st => rfl
    simp only [bBin_eq, bTup_eq, lCons_eq, lNil_eq, bSl_eq, oSome_eq, oNone_eq, bVarR_s, bVarR_z, bC_eq, bind_ok, vr_ix0, dget hc (W.v v hv), toO_int, e1, kAdd_tup, List.length_cons, List.length_nil]
    rw [if_pos (by omega)]; rfl
  have hh : ∀ s6 s8 s9, bComp [7] (iSeq (bBin kIx (bVarR 5) (bC (D.int 2)))) (tgName 7) cYes (bTup (lCons (bBin kDGet (bVarR 1) (bBin kIx (bVarR 7) (bC (D.int 0)))) (lCons (bBin kIx (bVarR 7) (bC (D.int 1))) lNil))) [s0, some (.frz, .loc c), s2, s3, some (.own, .lst acc), some (.frz, co.d), s6, s7, s8, s9, s10] st = .ok (.lst ((co.hs.map fun v => (ren v.1, v.2)).map hdD)) st := fun s6 s8 s9 => by
    rw [List.map_map]
    refine comp_all hdD co.hs _ (iSeq_tup _ _ (by simp only [bBin_eq, bVarR_s, bVarR_z, bC_eq, bind_ok, co_ix2])) fun v hv => ⟨[s0, some (.frz, .loc c), s2, s3, some (.own, .lst acc), some (.frz, co.d), s6, some (.frz, hdD v), s8, s9, s10], rfl, ?_⟩
    simp only [bBin_eq, bTup_eq, lCons_eq, lNil_eq, bVarR_s, bVarR_z, bC_eq, bind_ok, hd_ix0, hd_ix1, dget hc (W.h v hv)]; rfl
  have hp : ∀ s6 s8 s9, bComp [10] (iSeq (bBin kIx (bVarR 5) (bC (D.int 3)))) (tgName 10) cYes (bTup (lCons (bBin kDGet (bVarR 1) (bBin kIx (bVarR 10) (bC (D.int 0)))) (lCons (bBin kIx (bVarR 10) (bC (D.int 1))) (lCons (bBin kIx (bVarR 10) (bC (D.int 2))) (lCons (bDef (interp delta (n + 6)) "_law_called_block" [.rd, .rd] (lCons (bBin kIx (bVarR 10) (bC (D.int 3))) (lCons (bVarR 1) lNil))) lNil))))) [s0, some (.frz, .loc c), s2, s3, some (.own, .lst acc), some (.frz, co.d), s6, s7, s8, s9, s10] st = .ok (.lst ((co.ps.map (Pr.ren ren)).map Pr.d)) st := fun s6 s8 s9 => by
    rw [List.map_map]
    refine comp_all Pr.d co.ps _ (iSeq_tup _ _ (by simp only [bBin_eq, bVarR_s, bVarR_z, bC_eq, bind_ok, co_ix3])) fun p hp => ⟨[s0, some (.frz, .loc c), s2, s3, some (.own, .lst acc), some (.frz, co.d), s6, s7, s8, s9, some (.frz, p.d)], rfl, ?_⟩
    obtain ⟨hn, V, A, K, hV, hA, hK, hb, hl⟩ := W.p p hp
    have i1 : ∀ {m1 m2 : Md}, interp delta (n + 6) "_law_called_block" [(m1, .tup p.b.ds), (m2, .loc c)] st = .ok (.tup (p.b.ren ren).ds) st := ev_called_block hc hV hA hK 1 n p.b hb hl
    simp only [bBin_eq, bTup_eq, lCons_eq, lNil_eq, bVarR_s, bVarR_z, bC_eq, bind_ok, pr_ix0, pr_ix1, pr_ix2, pr_ix3, dget hc hn, bDef_eq, List.zip_cons_cons, List.zip_nil_right, i1]; rfl
  refine ⟨some (.frz, .tup ((co.vs.map fun v => (ren v.1, v.2)).map vrD)), some (.frz, .tup ((co.hs.map fun v => (ren v.1, v.2)).map hdD)), some (.own, .lst ((co.ps.map (Pr.ren ren)).map Pr.d)), ?_⟩
  unfold lb_law_called_1
  rw [sCons_eq, sSet_eq, bCall_eq, lCons_eq, hv]
  simp only [bind_ok, lNil_eq, kTuple_lst, out_ok, slotOf_tup, List.length_cons, List.length_nil]
  rw [if_pos (by decide)]
  simp only [List.set_cons_succ, List.set_cons_zero, seq_next]
  rw [sCons_eq, sSet_eq, bCall_eq, lCons_eq, hh]
  simp only [bind_ok, lNil_eq, kTuple_lst, out_ok, slotOf_tup, List.length_cons, List.length_nil]
  rw [if_pos (by decide)]
  simp only [List.set_cons_succ, List.set_cons_zero, seq_next]
  rw [sCons_eq, sSet_eq, hp]
  simp only [out_ok, slotOf_lst, List.length_cons, List.length_nil]
  rw [if_pos (by decide)]
  simp only [List.set_cons_succ, List.set_cons_zero, seq_next]
  rw [sApp_E]
  show appE _ _ _ _ (some (some (.own, .lst acc))) = _
  rw [appE_own]
  simp only [bTup_eq, lCons_eq, lNil_eq, bBin_eq, bVarR_s, bVarR_z, bVarR_z1, bVar_s, bVar_z, bC_eq, bind_ok, co_ix0, dget hc W.n, bCall_eq, kTuple_lst, out_ok]
  rw [appO_of _ _ _ (by omega)]
  rfl
end
theorem tb_disp (env : Ev) (st : Sto) : bDisp [((bC (D.str "a")), (bC (D.str "paid"))), ((bC (D.str "b")), (bC (D.str "paid1"))), ((bC (D.str "z")), (bC (D.str "paid12"))), ((bC (D.str "x")), (bC (D.str "paid"))), ((bC (D.str "y")), (bC (D.str "lock"))), ((bC (D.str "lock")), (bC (D.str "lock"))), ((bC (D.str "p")), (bC (D.str "paying"))), ((bC (D.str "q")), (bC (D.str "payinga")))] env st =
    .ok (.loc st.length) (st ++ [.dic false (tbS0.map enS)]) := by
  have e := mergeD_new tbS0 [] (by decide +kernel)
  show R.ok (D.loc st.length) (st ++ [Cell.dic false (mergeD [] (tbS0.map enS))]) = _
  rw [show mergeD [] (tbS0.map enS) = _ from e]; rfl
theorem ev_called (n : Nat) {m : Md} (h : Ho) (W : HoN h) (st : Sto) : interp delta (n + 7) "_law_called" [(m, h.d)] st = .ok (h.ren ren).d (st ++ [.dic false tb1]) := by
  have hz := sz6
  have hs : slotA (m, h.d) = some (.frz, h.d) := by cases m <;> rfl
  rw [run_law_called, hs]
  unfold sh_law_called
  refine (seqN (env' := [some (.frz, h.d), some (.frz, .loc st.length), none, none, none, none, none, none, none, none, none]) (st1 := st ++ [.dic false (tbS0.map enS)]) ?_).trans ?_
  · rw [sAsg_eq, tb_disp, out_ok, setE_name, if_pos (by simp)]; rfl
  obtain ⟨e1, hl, r2, r3, rfl⟩ := loop_put (j := 2) (k := 3) (body := lb_law_called_0 (interp delta (n + 6))) (P := fun e => ∃ r2 r3, e = [some (.frz, h.d), some (.frz, .loc st.length), r2, r3, none, none, none, none, none, none, none]) st.length
    (fun env st0 x y ⟨r2, r3, he⟩ => by
      subst he
      refine ⟨[some (.frz, h.d), some (.frz, .loc st.length), some (.frz, .str x), some (.frz, .str y), none, none, none, none, none, none, none], rfl, ?_, _, _, rfl⟩
      unfold lb_law_called_0
      rw [sDPut_eq]
      simp only [bVar_s, bVar_z, bVarR_s, bVarR_z, out_ok]) tbS2 tbS0 st [some (.frz, h.d), some (.frz, .loc st.length), none, none, none, none, none, none, none, none, none] rfl (by decide +kernel) (by decide) ⟨none, none, rfl⟩
  refine (seqN (env' := [some (.frz, h.d), some (.frz, .loc st.length), r2, r3, none, none, none, none, none, none, none]) (st1 := st ++ [.dic false tb1]) ?_).trans ?_
  · rw [sFor_L]
    rw [show (iSeq (bTup (lCons (bTup (lCons (bC (D.str "r")) (lCons (bC (D.str "payingab")) lNil))) (lCons (bTup (lCons (bC (D.str "c")) (lCons (bC (D.str "houses0hold1")) lNil))) (lCons (bTup (lCons (bC (D.str "d")) (lCons (bC (D.str "houses0hold2")) lNil))) (lCons (bTup (lCons (bC (D.str "e")) (lCons (bC (D.str "houses0hold")) lNil))) (lCons (bTup (lCons (bC (D.str "f")) (lCons (bC (D.str "paid")) lNil))) lNil)))))))
      [some (.frz, h.d), some (.frz, .loc st.length), none, none, none, none, none, none, none, none, none] (st ++ [.dic false (tbS0.map enS)]) = .ok (tbS2.map pairD) (st ++ [.dic false (tbS0.map enS)]) from rfl, outL_ok, hl]; rfl
  have hc : (st ++ [Cell.dic false tb1])[st.length]? = some (.dic false tb1) := get_mid st [] _
  refine (seqN (env' := [some (.frz, h.d), some (.frz, .loc st.length), r2, r3, some (.own, .lst []), none, none, none, none, none, none]) (st1 := st ++ [.dic false tb1]) ?_).trans ?_
  · rw [sSet_eq, bLst_eq, lNil_eq, bind_ok, out_ok, if_pos (by simp)]; rfl
  have hloop : ∀ (cs : List Co), (∀ co ∈ cs, CoN co) → ∀ (acc : List D) (s5 s6 s8 s9 : NC.Slot), acc.length + cs.length < 10000 → ∃ r5 r6 r8 r9, forL (tgName 5) (lb_law_called_1 (interp delta (n + 6))) (cs.map Co.d) [some (.frz, h.d), some (.frz, .loc st.length), r2, r3, some (.own, .lst acc), s5, s6, none, s8, s9, none] (st ++ [.dic false tb1]) =
      .next [some (.frz, h.d), some (.frz, .loc st.length), r2, r3, some (.own, .lst (acc ++ (cs.map (Co.ren ren)).map Co.d)), r5, r6, none, r8, r9, none] (st ++ [.dic false tb1]) := by
    intro cs
    induction cs with
    | nil => intro _ acc s5 s6 s8 s9 _; exact ⟨s5, s6, s8, s9, by simp⟩
    | cons co cs ih =>
      intro hW acc s5 s6 s8 s9 hl
      rw [List.length_cons] at hl
      obtain ⟨q6, q8, q9, e⟩ := turn_called hc n co (hW co (List.mem_cons_self ..)) (some (.frz, h.d)) r2 r3 s6 none s8 s9 none acc (by omega)
      obtain ⟨r5, r6, r8, r9, e2⟩ := ih (fun x hx => hW x (List.mem_cons_of_mem _ hx)) (acc ++ [(co.ren ren).d]) (some (.frz, co.d)) q6 q8 q9 (by rw [List.length_append, List.length_singleton]; omega)
      refine ⟨r5, r6, r8, r9, ?_⟩
      rw [List.map_cons, forL_name _ _ _ _ (by simp)]
      simp only [List.set_cons_succ, List.set_cons_zero]
      rw [e, turn_next, e2, List.append_assoc]; rfl
  have hWl := W.l
  obtain ⟨r5, r6, r8, r9, e⟩ := hloop h.cs W.c [] none none none none (by rw [List.length_nil]; omega)
  refine (seqN (env' := [some (.frz, h.d), some (.frz, .loc st.length), r2, r3, some (.own, .lst ((h.cs.map (Co.ren ren)).map Co.d)), r5, r6, none, r8, r9, none]) (st1 := st ++ [.dic false tb1]) ?_).trans ?_
  · rw [sFor_L, iSeq_lst _ _ (show (bBin kIx (bVarR 0) (bC (D.int 1))) _ _ = .ok (.lst (h.cs.map Co.d)) _ by simp only [bBin_eq, bVarR_z, bC_eq, bind_ok, ho_ix1]), outL_ok, e]; rfl
  rw [sFrz_eq]
  have ha : ∀ s4, bComp [7] (iSeq (bBin kIx (bVarR 0) (bC (D.int 0)))) (tgName 7) cYes (bTup (lCons (bBin kDGet (bVarR 1) (bBin kIx (bVarR 7) (bC (D.int 0)))) (lCons (bBin kIx (bVarR 7) (bC (D.int 1))) lNil))) [some (.frz, h.d), some (.frz, .loc st.length), r2, r3, s4, r5, r6, none, r8, r9, none] (st ++ [.dic false tb1]) = .ok (.lst ((h.as.map fun v => (ren v.1, v.2)).map hdD)) (st ++ [.dic false tb1]) := fun s4 => by
    rw [List.map_map]
    refine comp_all hdD h.as _ (iSeq_lst _ _ (by simp only [bBin_eq, bVarR_s, bVarR_z, bC_eq, bind_ok, ho_ix0])) fun v hv => ⟨[some (.frz, h.d), some (.frz, .loc st.length), r2, r3, s4, r5, r6, some (.frz, hdD v), r8, r9, none], rfl, ?_⟩
    simp only [bBin_eq, bTup_eq, lCons_eq, lNil_eq, bVarR_s, bVarR_z, bC_eq, bind_ok, hd_ix0, hd_ix1, dget hc (W.a v hv)]; rfl
  show fin (sRet _ [some (.frz, h.d), some (.frz, .loc st.length), r2, r3, some (.frz, .lst ((h.cs.map (Co.ren ren)).map Co.d)), r5, r6, none, r8, r9, none] _) = _
  rw [sRet_eq, bTup_eq, lCons_eq, ha]
  rfl
end K40

namespace NC
open PySem L2
/-! ### guards -/
inductive Gu where
  | hide (c p : Str)
  | lock (c : Str)
  | floor (c a : Str) (n : Int)
  deriving DecidableEq
def Gu.d : Gu → D
  | .hide c p => .tup [.str "hide", .str c, .str p]
  | .lock c => .tup [.str "lock", .str c]
  | .floor c a n => .tup [.str "floor", .str c, .str a, .int n]
def Gu.c : Gu → Str
  | .hide c _ => c
  | .lock c => c
  | .floor c _ _ => c
def Gu.k : Gu → Str
  | .hide _ _ => "hide"
  | .lock _ => "lock"
  | .floor _ _ _ => "floor"
def Gu.ok : Gu → Prop
  | .hide c p => PyData.strOk c = true ∧ PyData.strOk p = true
  | .lock c => PyData.strOk c = true
  | .floor c a _ => PyData.strOk c = true ∧ PyData.strOk a = true
theorem Gu.ix0 (g : Gu) (st : Sto) : kIx g.d (.int 0) st = .ok (.str g.k) st := by cases g <;> exact kIx_tup_of atI_0
theorem Gu.ix1 (g : Gu) (st : Sto) : kIx g.d (.int 1) st = .ok (.str g.c) st := by cases g <;> exact kIx_tup_of atI_1
theorem Gu.gd (g : Gu) (h : g.ok) : gdP 1 g.d := by
  have l : ∀ w ∈ [("hide" : Str), "lock", "floor"], PyData.strOk w = true := by decide +kernel
  cases g with
  | hide c p => exact gp3 (gp_str (l _ (by simp))) (gp_str h.1) (gp_str h.2)
  | lock c => exact gp2 (gp_str (l _ (by simp))) (gp_str h)
  | floor c a n => exact gp4 (gp_str (l _ (by simp))) (gp_str h.1) (gp_str h.2) gp_int
theorem Gu.oc {g : Gu} (h : g.ok) : PyData.strOk g.c = true := by
  cases g with
  | hide c p => exact h.1
  | lock c => exact h
  | floor c a n => exact h.1
theorem Gu.tupd (g : Gu) : ∃ xs, g.d = .tup xs := by cases g <;> exact ⟨_, rfl⟩
end NC
namespace K40
open PySem L2 NC
theorem two_ix {s : Str} {x y : Str} (h0 : ∀ st, kIx (.str s) (.int ((0 : Nat) : Int)) st = .ok (.str x) st) (h1 : ∀ st, kIx (.str s) (.int ((1 : Nat) : Int)) st = .ok (.str y) st) (hx : PyData.strOk x = true) (hy : PyData.strOk y = true) (i : Int) (hi0 : 0 ≤ i) (hi : i < 2) (st : Sto) : ∃ z, PyData.strOk z = true ∧ kIx (.str s) (.int i) st = .ok (.str z) st := by
  have : i = ((0 : Nat) : Int) ∨ i = ((1 : Nat) : Int) := by omega
  rcases this with rfl | rfl
  · exact ⟨x, hx, h0 st⟩
  · exact ⟨y, hy, h1 st⟩
theorem cdI (i : Int) (hi0 : 0 ≤ i) (hi : i < 2) (st : Sto) : ∃ z, PyData.strOk z = true ∧ kIx (.str "cd") (.int i) st = .ok (.str z) st :=
  have hz : ("cd" : Str).length ≤ sizeLine := by show 2 ≤ sizeLine; have := sz6; omega
  two_ix (x := "c") (y := "d") (fun st => kIx_str_of (c := 99) hz (by decide +kernel)) (fun st => kIx_str_of (c := 100) hz (by decide +kernel)) (by decide +kernel) (by decide +kernel) i hi0 hi st
theorem pqI (i : Int) (hi0 : 0 ≤ i) (hi : i < 2) (st : Sto) : ∃ z, PyData.strOk z = true ∧ kIx (.str "pq") (.int i) st = .ok (.str z) st :=
  have hz : ("pq" : Str).length ≤ sizeLine := by show 2 ≤ sizeLine; have := sz6; omega
  two_ix (x := "p") (y := "q") (fun st => kIx_str_of (c := 112) hz (by decide +kernel)) (fun st => kIx_str_of (c := 113) hz (by decide +kernel)) (by decide +kernel) (by decide +kernel) i hi0 hi st
theorem abI (i : Int) (hi0 : 0 ≤ i) (hi : i < 2) (st : Sto) : ∃ z, PyData.strOk z = true ∧ kIx (.str "ab") (.int i) st = .ok (.str z) st :=
  have hz : ("ab" : Str).length ≤ sizeLine := by show 2 ≤ sizeLine; have := sz6; omega
  two_ix (x := "a") (y := "b") (fun st => kIx_str_of (c := 97) hz (by decide +kernel)) (fun st => kIx_str_of (c := 98) hz (by decide +kernel)) (by decide +kernel) (by decide +kernel) i hi0 hi st
theorem ev_guard (n : Nat) {m1 m2 : Md} (c : Int) (h : Ho) (G : HoG h) (st : Sto) : ∃ g : Gu, g.ok ∧ interp delta (n + 1) "_law_guard" [(m1, .int c), (m2, h.d)] st = .ok g.d st := by
  have hs : slotA (m2, h.d) = some (.frz, h.d) := by cases m2 <;> rfl
  have hp : 0 < h.cs.length := List.length_pos_iff.mpr G.c0
  obtain ⟨z1, o1, e1⟩ := cdI (c / 3 % 2) (by omega) (by omega) st
  obtain ⟨co, hco, e2⟩ := kIx_lstM (st := st) Co.d h.cs (i := c / 3 / 2 % (h.cs.length : Nat)) (Int.emod_nonneg _ (by omega)) (Int.emod_lt_of_pos _ (by omega))
  obtain ⟨z3, o3, e3⟩ := pqI (c / 3 / 24 % 2) (by omega) (by omega) st
  obtain ⟨z4, o4, e4⟩ := abI (c / 3 / 24 % 5 / 4) (by omega) (by omega) st
  have hn := (G.c co hco).n
  -- the name
  obtain ⟨nm, hnm, en⟩ : ∃ nm, PyData.strOk nm = true ∧ ∀ (k : FS) (s5 : Ev), fin (sCons (sAsg (tgName 4) (bBin kIx (bC (D.str "cd")) (bBin kMod (bVarR 3) (bC (D.int 2)))))
      (sCons (sIf (bTst (bBin kGt (bBin kMod (bBin kFdiv (bVarR 3) (bC (D.int 2))) (bC (D.int 4))) (bC (D.int 0))))
  (sAsg (tgName 4) (bBin kIx (bBin kIx (bBin kIx (bVarR 1) (bC (D.int 1))) (bBin kMod (bBin kFdiv (bVarR 3) (bC (D.int 2))) (bCall kLen (lCons (bBin kIx (bVarR 1) (bC (D.int 1))) lNil)))) (bC (D.int 0))))
  sNil) k) [some (.frz, .int c), some (.frz, h.d), some (.frz, .int (c % 3)), some (.frz, .int (c / 3)), none] st) = fin (k [some (.frz, .int c), some (.frz, h.d), some (.frz, .int (c % 3)), some (.frz, .int (c / 3)), some (.frz, .str nm)] st) := by
    by_cases b : c / 3 / 2 % 4 > 0
    · refine ⟨co.n, hn, fun k _ => ?_⟩
      rw [sCons_eq, sAsg_eq]
      simp [kGt, b, e1, ho_ix1, e2, co_ix0, -kIx_lst, -kIx_tup, List.length_map, hp]
    · refine ⟨z1, o1, fun k _ => ?_⟩
      rw [sCons_eq, sAsg_eq]
      simp [kGt, b, e1, ho_ix1, -kIx_lst, -kIx_tup]
  by_cases b0 : c % 3 = 0
  · refine ⟨.hide nm z3, ⟨hnm, o3⟩, ?_⟩
    rw [run_law_guard, hs]
    unfold sh_law_guard
    refine (seqN (env' := [some (.frz, .int c), some (.frz, h.d), some (.frz, .int (c % 3)), none, none]) (st1 := st) (by simp)).trans ?_
    refine (seqN (env' := [some (.frz, .int c), some (.frz, h.d), some (.frz, .int (c % 3)), some (.frz, .int (c / 3)), none]) (st1 := st) (by simp)).trans ?_
    rw [en _ []]
    simp [b0, e3, Gu.d]
  · by_cases b1 : c % 3 = 1
    · refine ⟨.lock nm, hnm, ?_⟩
      rw [run_law_guard, hs]
      unfold sh_law_guard
      refine (seqN (env' := [some (.frz, .int c), some (.frz, h.d), some (.frz, .int (c % 3)), none, none]) (st1 := st) (by simp)).trans ?_
      refine (seqN (env' := [some (.frz, .int c), some (.frz, h.d), some (.frz, .int (c % 3)), some (.frz, .int (c / 3)), none]) (st1 := st) (by simp)).trans ?_
      rw [en _ []]
      simp [b0, b1, Gu.d]
    · refine ⟨.floor nm z4 (c / 3 / 120 % 3), ⟨hnm, o4⟩, ?_⟩
      rw [run_law_guard, hs]
      unfold sh_law_guard
      refine (seqN (env' := [some (.frz, .int c), some (.frz, h.d), some (.frz, .int (c % 3)), none, none]) (st1 := st) (by simp)).trans ?_
      refine (seqN (env' := [some (.frz, .int c), some (.frz, h.d), some (.frz, .int (c % 3)), some (.frz, .int (c / 3)), none]) (st1 := st) (by simp)).trans ?_
      rw [en _ []]
      simp [b0, b1, e4, Gu.d]
end K40

namespace NC
open PySem L2
def fit1 (as : List (Str × Nat)) (co : Co) : Gu → Bool
  | .hide _ p => co.ps.any fun q => decide (q.n = p) && q.sh
  | .lock _ => !decide (("lock" : Str) ∈ co.vs.map (·.1))
  | .floor _ a _ => decide (a ∈ as.map (·.1))
def fitsB (as : List (Str × Nat)) : List Co → Gu → Bool
  | [], _ => false
  | co :: r, g => if co.n = g.c then fit1 as co g else fitsB as r g
theorem Gu.slot (g : Gu) (m : Md) : slotA (m, g.d) = some (.frz, g.d) := by cases g <;> cases m <;> rfl
abbrev hoC (A C : D) : Cell := .ins "House" [("assets", A), ("contracts", C)]
abbrev hoL (h : Ho) : Cell := hoC (.tup (h.as.map hdD)) (.tup (h.cs.map Co.d))
theorem getA {st : Sto} {l : Nat} {h : Ho} (hl : st[l]? = some (hoL h)) : getF "assets" st (.loc l) = .ok (.tup (h.as.map hdD)) st := getF_of hl rfl
theorem getC {st : Sto} {l : Nat} {h : Ho} (hl : st[l]? = some (hoL h)) : getF "contracts" st (.loc l) = .ok (.tup (h.cs.map Co.d)) st := getF_of hl rfl
end NC
namespace K40
open PySem L2 NC
theorem k_hl : (("hide" : Str) = "lock") = False := eq_false (by decide +kernel)
theorem k_lh : (("lock" : Str) = "hide") = False := eq_false (by decide +kernel)
theorem k_fh : (("floor" : Str) = "hide") = False := eq_false (by decide +kernel)
theorem k_fl : (("floor" : Str) = "lock") = False := eq_false (by decide +kernel)
theorem k_hf : (("hide" : Str) = "floor") = False := eq_false (by decide +kernel)
theorem k_lf : (("lock" : Str) = "floor") = False := eq_false (by decide +kernel)
theorem turn_fits (cl : Calls) {st : Sto} {l : Nat} {h : Ho} (hl : st[l]? = some (hoL h)) (g : Gu) (co : Co) (s6 s7 s8 : NC.Slot) :
    lb_fits_0 cl [some (.frz, .loc l), some (.frz, g.d), some (.frz, .str co.n), some (.frz, .tup (co.vs.map vrD)), some (.frz, .tup (co.hs.map hdD)), some (.frz, .tup (co.ps.map Pr.d)), s6, s7, s8] st =
      if co.n = g.c then .ret (.bl (fit1 h.as co g)) st else .next [some (.frz, .loc l), some (.frz, g.d), some (.frz, .str co.n), some (.frz, .tup (co.vs.map vrD)), some (.frz, .tup (co.hs.map hdD)), some (.frz, .tup (co.ps.map Pr.d)), s6, s7, s8] st := by
  unfold lb_fits_0
  rw [sIf_eq, bTst_eq, bBin_eq]
  simp only [bVarR_s, bVarR_z, bind_ok, bBin_eq, bC_eq, Gu.ix1, kEq_str, rBl_bl, outB_ok]
  by_cases hn : co.n = g.c
  · simp only [hn, decide_true, if_true]
    rw [sCons_eq, sIf_eq, bTst_eq, bBin_eq]
    simp only [bVarR_s, bVarR_z, bind_ok, bBin_eq, bC_eq, Gu.ix0, kEq_str, rBl_bl, outB_ok]
    cases g with
    | hide c p =>
      have hk : (Gu.hide c p).k = "hide" := rfl
      have h2 : ∀ st, kIx (Gu.hide c p).d (.int 2) st = .ok (.str p) st := fun st => kIx_tup_of atI_2
      have hc : bComp [6] (iVarC 5) (tgName 6) cYes (bAndV (bBin kEq (bBin kIx (bVarR 6) (bC (D.int 0))) (bBin kIx (bVarR 1) (bC (D.int 2)))) (bBin kIx (bVarR 6) (bC (D.int 2)))) [some (.frz, .loc l), some (.frz, (Gu.hide c p).d), some (.frz, .str (Gu.hide c p).c), some (.frz, .tup (co.vs.map vrD)), some (.frz, .tup (co.hs.map hdD)), some (.frz, .tup (co.ps.map Pr.d)), s6, s7, s8] st = .ok (.lst (co.ps.map fun q => D.bl (decide (q.n = p) && q.sh))) st :=
        comp_all Pr.d co.ps _ rfl fun q hq => ⟨[some (.frz, .loc l), some (.frz, (Gu.hide c p).d), some (.frz, .str (Gu.hide c p).c), some (.frz, .tup (co.vs.map vrD)), some (.frz, .tup (co.hs.map hdD)), some (.frz, .tup (co.ps.map Pr.d)), some (.frz, q.d), s7, s8], rfl, by
          simp only [bAndV_eq, bBin_eq, bVarR_s, bVarR_z, bC_eq, bind_ok, pr_ix0, pr_ix2, h2, kEq_str, rBl_bl]
          by_cases e : q.n = p <;> simp [e]⟩
      simp only [hk, decide_true, if_true, sRet_eq, bCall_eq, lCons_eq, lNil_eq, bind_ok, hc, kAny_map, out_ok, seq_ret]
      rfl
    | lock c =>
      have hk : (Gu.lock c).k = "lock" := rfl
      have hc : bComp [7] (iVarC 3) (tgName 7) cYes (bBin kIx (bVarR 7) (bC (D.int 0))) [some (.frz, .loc l), some (.frz, (Gu.lock c).d), some (.frz, .str (Gu.lock c).c), some (.frz, .tup (co.vs.map vrD)), some (.frz, .tup (co.hs.map hdD)), some (.frz, .tup (co.ps.map Pr.d)), s6, s7, s8] st = .ok (.lst (co.vs.map fun q => D.str q.1)) st :=
        comp_all vrD co.vs _ rfl fun q hq => ⟨[some (.frz, .loc l), some (.frz, (Gu.lock c).d), some (.frz, .str (Gu.lock c).c), some (.frz, .tup (co.vs.map vrD)), some (.frz, .tup (co.hs.map hdD)), some (.frz, .tup (co.ps.map Pr.d)), s6, some (.frz, vrD q), s8], rfl, by
          simp only [bBin_eq, bVarR_s, bVarR_z, bC_eq, bind_ok, vr_ix0]⟩
      have e : (co.vs.map fun q => D.str q.1) = (co.vs.map (·.1)).map D.str := by rw [List.map_map]; rfl
      simp only [hk, k_lh, decide_false, Bool.false_eq_true, if_false, sNil_eq, seq_next, sCons_eq, sIf_eq, bTst_eq, bBin_eq, bVarR_s, bVarR_z, bind_ok, bC_eq, Gu.ix0, kEq_str, rBl_bl, outB_ok, decide_true, if_true, sRet_eq, hc, g_LOCK]
      rw [e, kNotIn_strsL]
      rfl
    | floor c a k =>
      have hk : (Gu.floor c a k).k = "floor" := rfl
      have h2 : ∀ st, kIx (Gu.floor c a k).d (.int 2) st = .ok (.str a) st := fun st => kIx_tup_of atI_2
      have hc : bComp [8] (iSeq (bAttr "assets" (bVarR 0))) (tgName 8) cYes (bBin kIx (bVarR 8) (bC (D.int 0))) [some (.frz, .loc l), some (.frz, (Gu.floor c a k).d), some (.frz, .str (Gu.floor c a k).c), some (.frz, .tup (co.vs.map vrD)), some (.frz, .tup (co.hs.map hdD)), some (.frz, .tup (co.ps.map Pr.d)), s6, s7, s8] st = .ok (.lst (h.as.map fun q => D.str q.1)) st :=
        comp_all hdD h.as _ (iSeq_tup _ _ (by rw [bAttr_eq, bVarR_z, bind_ok, getA hl])) fun q hq => ⟨[some (.frz, .loc l), some (.frz, (Gu.floor c a k).d), some (.frz, .str (Gu.floor c a k).c), some (.frz, .tup (co.vs.map vrD)), some (.frz, .tup (co.hs.map hdD)), some (.frz, .tup (co.ps.map Pr.d)), s6, s7, some (.frz, hdD q)], rfl, by
          simp only [bBin_eq, bVarR_s, bVarR_z, bC_eq, bind_ok, hd_ix0]⟩
      have e : (h.as.map fun q => D.str q.1) = (h.as.map (·.1)).map D.str := by rw [List.map_map]; rfl
      simp only [hk, k_fh, k_fl, decide_false, Bool.false_eq_true, if_false, sNil_eq, seq_next, sCons_eq, sIf_eq, bTst_eq, bBin_eq, bVarR_s, bVarR_z, bind_ok, bC_eq, Gu.ix0, kEq_str, rBl_bl, outB_ok, sRet_eq, hc, h2]
      rw [e, kIn_strsL]
      rfl
  · simp only [hn, decide_false, Bool.false_eq_true, if_false, sNil_eq]
theorem loop_fits (cl : Calls) {st : Sto} {l : Nat} {h : Ho} (hl : st[l]? = some (hoL h)) (g : Gu) : ∀ (cs : List Co) (s2 s3 s4 s5 s6 s7 s8 : NC.Slot),
    (forL (tgTup (tgCons (tgName 2) (tgCons (tgName 3) (tgCons (tgName 4) (tgCons (tgName 5) tgNil))))) (lb_fits_0 cl) (cs.map Co.d) [some (.frz, .loc l), some (.frz, g.d), s2, s3, s4, s5, s6, s7, s8] st).seq (sRet (bC (.bl false))) = .ret (.bl (fitsB h.as cs g)) st
  | [], s2, s3, s4, s5, s6, s7, s8 => rfl
  | co :: cs, s2, s3, s4, s5, s6, s7, s8 => by
    rw [List.map_cons, forL_cons (env1 := [some (.frz, .loc l), some (.frz, g.d), some (.frz, .str co.n), some (.frz, .tup (co.vs.map vrD)), some (.frz, .tup (co.hs.map hdD)), some (.frz, .tup (co.ps.map Pr.d)), s6, s7, s8]) rfl, turn_fits cl hl]
    unfold fitsB
    by_cases hn : co.n = g.c
    · rw [if_pos hn, if_pos hn, turn_ret, seq_ret]
    · rw [if_neg hn, if_neg hn, turn_next]
      exact loop_fits cl hl g cs _ _ _ _ _ _ _
theorem ev_fits (n : Nat) {m1 m2 : Md} {st : Sto} {l : Nat} {h : Ho} (hl : st[l]? = some (hoL h)) (g : Gu) : interp delta (n + 1) "fits" [(m1, .loc l), (m2, g.d)] st = .ok (.bl (fitsB h.as h.cs g)) st := by
  rw [run_fits, Gu.slot, slotA_loc]
  unfold sh_fits
  rw [sCons_eq, sFor_L, iSeq_tup _ _ (show (bAttr "contracts" (bVarR 0)) _ st = .ok (.tup (h.cs.map Co.d)) st by rw [bAttr_eq, bVarR_z, bind_ok, getC hl]), outL_ok, loop_fits _ hl]
  rfl
/-! _law_fits -/
theorem turn_lfits (cl : Calls) (st : Sto) (h : Ho) (g : Gu) (go : g.ok) (co : Co) (W : CoG co) (s3 s4 s5 : NC.Slot) :
    lb_law_fits_0 cl [some (.frz, h.d), some (.frz, g.d), some (.frz, co.d), s3, s4, s5] st =
      if co.n = g.c then .ret (.bl (fit1 h.as co g)) st else .next [some (.frz, h.d), some (.frz, g.d), some (.frz, co.d), s3, s4, s5] st := by
  unfold lb_law_fits_0
  rw [sIf_eq, bTst_eq, bBin_eq]
  simp only [bVarR_s, bVarR_z, bind_ok, bBin_eq, bC_eq, Gu.ix1, co_ix0, kEq_str, rBl_bl, outB_ok]
  by_cases hn : co.n = g.c
  · simp only [hn, decide_true, if_true]
    rw [sCons_eq, sIf_eq, bTst_eq, bBin_eq]
    simp only [bVarR_s, bVarR_z, bind_ok, bBin_eq, bC_eq, Gu.ix0, kEq_str, rBl_bl, outB_ok]
    cases g with
    | hide c p =>
      have hk : (Gu.hide c p).k = "hide" := rfl
      have h2 : ∀ st, kIx (Gu.hide c p).d (.int 2) st = .ok (.str p) st := fun st => kIx_tup_of atI_2
      have hc : bComp [3] (iSeq (bBin kIx (bVarR 2) (bC (D.int 3)))) (tgName 3) cYes (bTup (lCons (bBin kIx (bVarR 3) (bC (D.int 0))) (lCons (bBin kIx (bVarR 3) (bC (D.int 2))) lNil))) [some (.frz, h.d), some (.frz, (Gu.hide c p).d), some (.frz, co.d), s3, s4, s5] st = .ok (.lst (co.ps.map fun q => D.tup [.str q.n, .bl q.sh])) st :=
        comp_all Pr.d co.ps _ (iSeq_tup _ _ (by simp only [bBin_eq, bVarR_s, bVarR_z, bC_eq, bind_ok, co_ix3])) fun q hq => ⟨[some (.frz, h.d), some (.frz, (Gu.hide c p).d), some (.frz, co.d), some (.frz, q.d), s4, s5], rfl, by
          simp only [bTup_eq, lCons_eq, lNil_eq, bBin_eq, bVarR_s, bVarR_z, bC_eq, bind_ok, pr_ix0, pr_ix2]⟩
      have hin := kIn_gd (n := 1) (ds := [.str p, .bl true]) (es := co.ps.map fun q => D.tup [.str q.n, .bl q.sh]) (gp2 (gp_str go.2) gp_bl) (gp_map fun q hq => gp2 (gp_str (W.p q hq).n) gp_bl) (by decide) st
      simp only [hk, decide_true, if_true, sRet_eq, bBin_eq, bTup_eq, lCons_eq, lNil_eq, bVarR_s, bVarR_z, bC_eq, bind_ok, h2, hc, hin, out_ok, seq_ret]
      congr 2
      rw [List.any_map]
      show co.ps.any _ = co.ps.any _
      congr 1
      funext q
      show (D.tup [.str q.n, .bl q.sh]).same (.tup [.str p, .bl true]) = _
      rw [same_tup, sames_cons, sames_cons, sames_nil, same_str, same_bl]
      simp
    | lock c =>
      have hk : (Gu.lock c).k = "lock" := rfl
      have hc : bComp [4] (iSeq (bBin kIx (bVarR 2) (bC (D.int 1)))) (tgName 4) cYes (bBin kIx (bVarR 4) (bC (D.int 0))) [some (.frz, h.d), some (.frz, (Gu.lock c).d), some (.frz, co.d), s3, s4, s5] st = .ok (.lst (co.vs.map fun q => D.str q.1)) st :=
        comp_all vrD co.vs _ (iSeq_tup _ _ (by simp only [bBin_eq, bVarR_s, bVarR_z, bC_eq, bind_ok, co_ix1])) fun q hq => ⟨[some (.frz, h.d), some (.frz, (Gu.lock c).d), some (.frz, co.d), s3, some (.frz, vrD q), s5], rfl, by
          simp only [bBin_eq, bVarR_s, bVarR_z, bC_eq, bind_ok, vr_ix0]⟩
      have e : (co.vs.map fun q => D.str q.1) = (co.vs.map (·.1)).map D.str := by rw [List.map_map]; rfl
      simp only [hk, k_lh, decide_false, Bool.false_eq_true, if_false, sNil_eq, seq_next, sCons_eq, sIf_eq, bTst_eq, bBin_eq, bVarR_s, bVarR_z, bind_ok, bC_eq, Gu.ix0, kEq_str, rBl_bl, outB_ok, decide_true, if_true, sRet_eq, hc]
      rw [e, kNotIn_strsL]
      rfl
    | floor c a k =>
      have hk : (Gu.floor c a k).k = "floor" := rfl
      have h2 : ∀ st, kIx (Gu.floor c a k).d (.int 2) st = .ok (.str a) st := fun st => kIx_tup_of atI_2
      have hc : bComp [5] (iSeq (bBin kIx (bVarR 0) (bC (D.int 0)))) (tgName 5) cYes (bBin kIx (bVarR 5) (bC (D.int 0))) [some (.frz, h.d), some (.frz, (Gu.floor c a k).d), some (.frz, co.d), s3, s4, s5] st = .ok (.lst (h.as.map fun q => D.str q.1)) st :=
        comp_all hdD h.as _ (iSeq_lst _ _ (by simp only [bBin_eq, bVarR_s, bVarR_z, bC_eq, bind_ok, ho_ix0])) fun q hq => ⟨[some (.frz, h.d), some (.frz, (Gu.floor c a k).d), some (.frz, co.d), s3, s4, some (.frz, hdD q)], rfl, by
          simp only [bBin_eq, bVarR_s, bVarR_z, bC_eq, bind_ok, hd_ix0]⟩
      have e : (h.as.map fun q => D.str q.1) = (h.as.map (·.1)).map D.str := by rw [List.map_map]; rfl
      simp only [hk, k_fh, k_fl, decide_false, Bool.false_eq_true, if_false, sNil_eq, seq_next, sCons_eq, sIf_eq, bTst_eq, bBin_eq, bVarR_s, bVarR_z, bind_ok, bC_eq, Gu.ix0, kEq_str, rBl_bl, outB_ok, sRet_eq, hc, h2]
      rw [e, kIn_strsL]
      rfl
  · simp only [hn, decide_false, Bool.false_eq_true, if_false, sNil_eq]
theorem loop_lfits (cl : Calls) (st : Sto) (h : Ho) (g : Gu) (go : g.ok) : ∀ (cs : List Co), (∀ co ∈ cs, CoG co) → ∀ (s2 s3 s4 s5 : NC.Slot),
    (forL (tgName 2) (lb_law_fits_0 cl) (cs.map Co.d) [some (.frz, h.d), some (.frz, g.d), s2, s3, s4, s5] st).seq (sRet (bC (.bl false))) = .ret (.bl (fitsB h.as cs g)) st
  | [], W, s2, s3, s4, s5 => rfl
  | co :: cs, W, s2, s3, s4, s5 => by
    rw [List.map_cons, forL_cons (env1 := [some (.frz, h.d), some (.frz, g.d), some (.frz, co.d), s3, s4, s5]) rfl, turn_lfits cl st h g go co (W co (List.mem_cons_self ..))]
    unfold fitsB
    by_cases hn : co.n = g.c
    · rw [if_pos hn, if_pos hn, turn_ret, seq_ret]
    · rw [if_neg hn, if_neg hn, turn_next]
      exact loop_lfits cl st h g go cs (fun x hx => W x (List.mem_cons_of_mem _ hx)) _ _ _ _
theorem ev_lfits (n : Nat) {m1 m2 : Md} (st : Sto) (h : Ho) (G : HoG h) (g : Gu) (go : g.ok) : interp delta (n + 1) "_law_fits" [(m1, h.d), (m2, g.d)] st = .ok (.bl (fitsB h.as h.cs g)) st := by
  have hs : slotA (m1, h.d) = some (.frz, h.d) := by cases m1 <;> rfl
  rw [run_law_fits, Gu.slot, hs]
  unfold sh_law_fits
  rw [sCons_eq, sFor_L, iSeq_lst _ _ (show (bBin kIx (bVarR 0) (bC (D.int 1))) _ st = .ok (.lst (h.cs.map Co.d)) st by simp only [bBin_eq, bVarR_z, bC_eq, bind_ok, ho_ix1]), outL_ok, loop_lfits _ st h g go h.cs G.c]
  rfl
end K40

namespace K40
open PySem L2 NC
theorem seqIx0' {α : Type} {c : α} {l : List α} : atI (c :: l) 0 = some c := seqIx0 c l
theorem seqR {s G : FS} {env : Ev} {st st1 : Sto} {d : D} (h : s env st = .ret d st1) : fin (sCons s G env st) = .ok d st1 := by rw [sCons_eq, h, seq_ret]; rfl
theorem six (k : Int) (i : Int) (h0 : 0 ≤ i) (h1 : i < 6) (st : Sto) : ∃ x : Int, kIx (.tup [.int k, .int k, .int (-3), .int 65535, .int 65536, .int 70000]) (.int i) st = .ok (.int x) st := by
  obtain ⟨x, _, e⟩ := kIx_tupM (st := st) D.int [k, k, -3, 65535, 65536, 70000] h0 h1
  exact ⟨x, e⟩
theorem ev_guarding (n : Nat) {m1 m2 m3 : Md} (g : Gu) (go : g.ok) (h : Ho) (G : HoG h) (c : Int) (st : Sto) : ∃ g' : Gu, g'.ok ∧ interp delta (n + 1) "_law_guarding" [(m1, g.d), (m2, h.d), (m3, .int c)] st = .ok g'.d st := by
  have hs : slotA (m2, h.d) = some (.frz, h.d) := by cases m2 <;> rfl
  have hcomp : bComp [4] (iSeq (bBin kIx (bVarR 1) (bC (D.int 1)))) (tgName 4) (bTst (bBin kEq (bBin kIx (bVarR 4) (bC (D.int 0))) (bBin kIx (bVarR 0) (bC (D.int 1))))) (bVar 4) [some (.frz, g.d), some (.frz, h.d), some (.frz, .int c), none, none, none, none, none] st = .ok (.lst ((h.cs.filter fun co => decide (co.n = g.c)).map Co.d)) st :=
    comp_ex Co.d h.cs _ _ (iSeq_lst _ _ (by simp only [bBin_eq, bVarR_s, bVarR_z, bC_eq, bind_ok, ho_ix1])) fun co hco => ⟨[some (.frz, g.d), some (.frz, h.d), some (.frz, .int c), none, some (.frz, co.d), none, none, none], rfl, by
      simp only [bTst_eq, bBin_eq, bVarR_s, bVarR_z, bC_eq, bind_ok, co_ix0, Gu.ix1, kEq_str, rBl_bl], fun _ => rfl⟩
  have hmem : ∀ co ∈ h.cs.filter (fun co => decide (co.n = g.c)), co ∈ h.cs := fun co hco => (List.mem_filter.mp hco).1
  generalize h.cs.filter (fun co => decide (co.n = g.c)) = cs at hcomp hmem
  have start : ∀ k, fin (sCons (sSet 3 (bComp [4] (iSeq (bBin kIx (bVarR 1) (bC (D.int 1)))) (tgName 4) (bTst (bBin kEq (bBin kIx (bVarR 4) (bC (D.int 0))) (bBin kIx (bVarR 0) (bC (D.int 1))))) (bVar 4))) k [some (.frz, g.d), some (.frz, h.d), some (.frz, .int c), none, none, none, none, none] st) =
      fin (k [some (.frz, g.d), some (.frz, h.d), some (.frz, .int c), some (.own, .lst (cs.map Co.d)), none, none, none, none] st) := fun k => by
    refine seqN ?_
    rw [sSet_eq, hcomp, out_ok, if_pos (by simp)]; rfl
  rw [run_law_guarding, Gu.slot, hs, slotA_int]
  unfold sh_law_guarding
  cases g with
  | lock x =>
    refine ⟨.lock x, go, ?_⟩
    have hk : (Gu.lock x).k = "lock" := rfl
    rw [start]
    simp only [sCons_eq, sIf_eq, bAndT_eq, bTst_eq, bBin_eq, bVarR_s, bVarR_z, bC_eq, bind_ok, Gu.ix0, hk, kEq_str, k_lh, k_lf, decide_false, rBl_bl, Bool.false_eq_true, if_false, outB_ok, sNil_eq, seq_next, sRetV_frz, fin_ret]
  | hide x p =>
    have hk : (Gu.hide x p).k = "hide" := rfl
    by_cases b : c % 2 = 1 ∧ cs ≠ []
    · obtain ⟨b1, b2⟩ := b
      cases cs with
      | nil => exact absurd rfl b2
      | cons co r =>
        have hco := hmem co (List.mem_cons_self ..)
        have e0 : ∀ st, kIx (.lst ((co :: r).map Co.d)) (.int 0) st = .ok co.d st := fun st => kIx_lst_of seqIx0'
        have hn : bComp [6] (iSeq (bBin kIx (bBin kIx (bVarR 3) (bC (D.int 0))) (bC (D.int 3)))) (tgName 6) cYes (bBin kIx (bVarR 6) (bC (D.int 0))) [some (.frz, (Gu.hide x p).d), some (.frz, h.d), some (.frz, .int c), some (.own, .lst ((co :: r).map Co.d)), none, none, none, none] st = .ok (.lst ((co.ps.map (·.n)).map D.str)) st := by
          rw [List.map_map]
          exact comp_all Pr.d co.ps _ (iSeq_tup _ _ (by simp only [bBin_eq, bVarR_s, bVarR_z1, bC_eq, bind_ok, e0, co_ix3])) fun q hq => ⟨[some (.frz, (Gu.hide x p).d), some (.frz, h.d), some (.frz, .int c), some (.own, .lst ((co :: r).map Co.d)), none, none, some (.frz, q.d), none], rfl, by
            simp only [bBin_eq, bVarR_s, bVarR_z, bC_eq, bind_ok, pr_ix0]; rfl⟩
        have c1 : ((co :: r).map Co.d).length = r.length + 1 := by simp
        by_cases b3 : co.ps = []
        · refine ⟨.hide x p, go, ?_⟩
          rw [start]
          have hl0 : (co.ps.map (·.n)).length = 0 := by rw [b3]; rfl
          simp only [sCons_eq, sIf_eq, bAndT_eq, bTst_eq, bBin_eq, bVarR_s, bVarR_z, bVarR_z1, bC_eq, bind_ok, Gu.ix0, hk, kEq_str, decide_true, rBl_bl, if_true, bCall_eq, lCons_eq, lNil_eq, kInt_int, kMod_int, kEq_int, b1, kLen_lst, kGt, kCmp_int, outB_ok]
          rw [if_pos (by decide)]
          simp only [rBl_bl, bind_ok, b1, decide_true, if_true, outB_ok, kEq_int]
          rw [if_pos (by simp)]
          simp only [sCons_eq, sSet_eq, hn, out_ok, slotOf_lst]
          rw [if_pos (by simp)]
          simp only [List.set_cons_succ, List.set_cons_zero, seq_next, sIf_eq, bTst_eq, bBin_eq, bCall_eq, lCons_eq, lNil_eq, bVarR_s, bVarR_z1, bVarR_z, bind_ok, kLen_lst, List.length_map, bC_eq, kCmp_int, kGt, rBl_bl, outB_ok, b3, List.length_nil]
          rw [if_neg (by simp)]
          simp only [sCons_eq, sNil_eq, seq_next, sIf_eq, bTst_eq, bBin_eq, bVarR_s, bVarR_z, bC_eq, bind_ok, Gu.ix0, hk, kEq_str, k_hf, decide_false, rBl_bl, outB_ok, Bool.false_eq_true, if_false, sRetV_frz, fin_ret]
        · obtain ⟨nm, hnm, e3⟩ := kIx_lstM (st := st) D.str (co.ps.map (·.n)) (i := c / 2 % (((co.ps.map (·.n)).length : Nat) : Int)) (Int.emod_nonneg _ (by rw [List.length_map]; have := List.length_pos_iff.mpr b3; omega)) (Int.emod_lt_of_pos _ (by rw [List.length_map]; have := List.length_pos_iff.mpr b3; omega))
          obtain ⟨q, hq, rfl⟩ := List.mem_map.mp hnm
          refine ⟨.hide x q.n, ⟨go.1, ((G.c co hco).p q hq).n⟩, ?_⟩
          rw [start]
          have hlp : (0 : Int) < (co.ps.length : Nat) := by have := List.length_pos_iff.mpr b3; omega
          rw [List.length_map] at e3
          have h1 : ∀ st, kIx (Gu.hide x p).d (.int 1) st = .ok (.str x) st := fun st => kIx_tup_of atI_1
          refine (seqR (d := (Gu.hide x q.n).d) (st1 := st) ?_)
          simp only [sIf_eq, bAndT_eq, bTst_eq, bBin_eq, bVarR_s, bVarR_z, bVarR_z1, bC_eq, bind_ok, Gu.ix0, hk, kEq_str, decide_true, rBl_bl, if_true, bCall_eq, lCons_eq, lNil_eq, kInt_int, kMod_int, kEq_int, b1, kLen_lst, kGt, kCmp_int, outB_ok]
          rw [if_pos (by decide)]
          simp only [rBl_bl, bind_ok, b1, decide_true, if_true, outB_ok, kEq_int]
          rw [if_pos (by simp)]
          simp only [sCons_eq, sSet_eq, hn, out_ok, slotOf_lst]
          rw [if_pos (by simp)]
          simp only [List.set_cons_succ, List.set_cons_zero, seq_next, sIf_eq, bTst_eq, bBin_eq, bCall_eq, lCons_eq, lNil_eq, bVarR_s, bVarR_z1, bVarR_z, bind_ok, kLen_lst, List.length_map, bC_eq, kCmp_int, kGt, rBl_bl, outB_ok]
          rw [if_pos (by simpa using hlp)]
          simp only [sRet_eq, bTup_eq, lCons_eq, lNil_eq, bBin_eq, bCall_eq, bVarR_s, bVarR_z1, bVarR_z, bind_ok, kLen_lst, List.length_map, bC_eq, kInt_int, kFdiv_int, h1]
          rw [if_pos (by decide)]
          simp only [bind_ok, kMod_int]
          rw [if_pos hlp]
          simp only [bind_ok, e3, out_ok]
          rfl
    · refine ⟨.hide x p, go, ?_⟩
      rw [start]
      by_cases b1 : c % 2 = 1
      · have b2 : cs = [] := Classical.byContradiction fun z => b ⟨b1, z⟩
        subst b2
        simp [hk, b1, kGt, k_hf, Gu.ix0, -kIx_lst, -kIx_tup]
      · simp [hk, b1, kGt, k_hf, Gu.ix0, -kIx_lst, -kIx_tup]
  | floor x a k =>
    have hk : (Gu.floor x a k).k = "floor" := rfl
    have h1 : ∀ st, kIx (Gu.floor x a k).d (.int 1) st = .ok (.str x) st := fun st => kIx_tup_of atI_1
    have h2 : ∀ st, kIx (Gu.floor x a k).d (.int 2) st = .ok (.str a) st := fun st => kIx_tup_of atI_2
    have h3 : ∀ st, kIx (Gu.floor x a k).d (.int 3) st = .ok (.int k) st := fun st => kIx_tup_of atI_3
    obtain ⟨w, e6⟩ := six k (c / 4 % 6) (by omega) (by omega) st
    by_cases b : c % 2 = 1 ∧ h.as ≠ []
    · obtain ⟨b1, b2⟩ := b
      have hp : 0 < h.as.length := List.length_pos_iff.mpr b2
      obtain ⟨y, hy, e3⟩ := kIx_lstM (st := st) hdD h.as (i := c / 2 % ((h.as.length : Nat) : Int)) (Int.emod_nonneg _ (by omega)) (Int.emod_lt_of_pos _ (by omega))
      refine ⟨.floor x y.1 w, ⟨go.1, (G.a y hy).2⟩, ?_⟩
      rw [start]
      simp [hk, b1, kGt, k_fh, Gu.ix0, h1, h2, h3, ho_ix0, hd_ix0, hp, e3, e6, -kIx_lst, -kIx_tup]
      rfl
    · refine ⟨.floor x a w, go, ?_⟩
      rw [start]
      by_cases b1 : c % 2 = 1
      · have b2 : h.as = [] := Classical.byContradiction fun z => b ⟨b1, z⟩
        simp [hk, b1, kGt, k_fh, Gu.ix0, h1, h2, h3, ho_ix0, hd_ix0, b2, e6, -kIx_lst, -kIx_tup]
        rfl
      · simp [hk, b1, kGt, k_fh, Gu.ix0, h1, h2, h3, ho_ix0, hd_ix0, e6, -kIx_lst, -kIx_tup]
        rfl
end K40

namespace NC
open PySem L2
/-! ### guarded houses (no program in sight) -/
def ownG (gs : List Gu) (n : Str) : List Gu := gs.filter fun g => decide (g.c = n)
def lockedB (gs : List Gu) : Bool := gs.any fun g => decide (g.k = ("lock" : Str))
def gu2 : Gu → Str
  | .hide _ p => p
  | .lock _ => ""
  | .floor _ a _ => a
def gu3 : Gu → Int
  | .floor _ _ n => n
  | _ => 0
def hidN (gs : List Gu) : List Str := (gs.filter fun g => decide (g.k = ("hide" : Str))).map gu2
def flG (gs : List Gu) : List Gu := gs.filter fun g => decide (g.k = ("floor" : Str))
def num0 : D := .tup [.str "number", .int 0]
def flD (g : Gu) : D := .tup [.str "need", .tup [.str "=", .tup [.str "<", .tup [.str "have", .str (gu2 g)], .tup [.str "number", .int (gu3 g)]], num0]]
def lk1 : List D := [.tup [.str "need", .tup [.str "=", .tup [.str "variable", .str "lock"], num0]], .tup [.str "set", .str "lock", .tup [.str "number", .int 1]]]
def lk2 : List D := [.tup [.str "set", .str "lock", num0]]
def fenD (l : Bool) (fl : List Gu) (ds : List D) : List D := (if l = true then lk1 ++ ds ++ lk2 else ds) ++ fl.map flD
def prC (own : List Gu) (p : Pr) : D := .tup [.str p.n, .int p.z, .bl (p.sh && !decide (p.n ∈ hidN own)), .tup (if p.sh = true then fenD (lockedB own) (flG own) p.b.ds else p.b.ds)]
def lkV : D := .tup [.str "lock", .int 2, .int 0]
def chgD (own : List Gu) (co : Co) : D := .tup [.str co.n, .tup (if lockedB own = true then co.vs.map vrD ++ [lkV] else co.vs.map vrD), .tup (co.hs.map hdD), .tup (co.ps.map (prC own))]
theorem Gu.ix2 (g : Gu) (h : g.k ≠ ("lock" : Str)) (st : Sto) : kIx g.d (.int 2) st = .ok (.str (gu2 g)) st := by
  cases g with
  | hide c p => exact kIx_tup_of atI_2
  | lock c => exact absurd rfl h
  | floor c a n => exact kIx_tup_of atI_2
theorem Gu.ix3 (g : Gu) (h : g.k = ("floor" : Str)) (st : Sto) : kIx g.d (.int 3) st = .ok (.int (gu3 g)) st := by
  cases g with
  | hide c p => exact absurd h (by show ¬ ("hide" : Str) = "floor"; decide +kernel)
  | lock c => exact absurd h (by show ¬ ("lock" : Str) = "floor"; decide +kernel)
  | floor c a n => exact kIx_tup_of atI_3
theorem mem_flG {gs : List Gu} {g : Gu} (h : g ∈ flG gs) : g.k = ("floor" : Str) := by simpa using (List.mem_filter.mp h).2
/-- the first guard that does not fit -/
def firstBad (h : Ho) : List Gu → List Gu → Option Nat
  | _, [] => none
  | pre, g :: r => if (!fitsB h.as h.cs g || decide (g ∈ pre)) = true then some pre.length else firstBad h (pre ++ [g]) r
theorem Gu.noB (g : Gu) : g.d.noB = true := by cases g <;> rfl
theorem Gu.inj {a b : Gu} (h : a.d = b.d) : a = b := by
  cases a <;> cases b <;> simp_all [Gu.d]
theorem Gu.same (a b : Gu) (ha : a.ok) : a.d.same b.d = decide (a = b) := by
  by_cases h : a = b
  · subst h; rw [same_refl a.d (a.gd ha).1]; simp
  · cases q : a.d.same b.d with
    | true => exact absurd (Gu.inj (same_eq _ _ a.noB b.noB q)) h
    | false => simp [h]
theorem in_gu {g : Gu} (go : g.ok) {gs : List Gu} (h : ∀ x ∈ gs, x.ok) (st : Sto) : kIn g.d (.lst (gs.map Gu.d)) st = .ok (.bl (decide (g ∈ gs))) st := by
  obtain ⟨xs, hx⟩ := g.tupd
  have gd := g.gd go
  rw [hx] at gd ⊢
  rw [kIn_gd gd (gp_map fun x hxx => x.gd (h x hxx)) (by decide) st, ← hx]
  congr 2
  rw [List.any_map]
  clear hx gd
  induction gs with
  | nil => simp
  | cons y ys ih =>
    rw [List.any_cons, ih fun x hx => h x (List.mem_cons_of_mem _ hx)]
    show (y.d.same g.d || _) = _
    rw [Gu.same y g (h y (List.mem_cons_self ..))]
    by_cases e : y = g
    · subst e; simp
    · have h2 : ¬ g = y := fun z => e z.symm
      simp [e, h2]
end NC
namespace K40
open PySem L2 NC
/-! fenced -/
theorem bVar0_tup (i : Nat) (r : Ev) (d : D) (st : Sto) : bVarR 0 (some (.frz, d) :: r) st = .ok d st := rfl
theorem ev_fenced (n : Nat) {m1 m2 : Md} (ds : List D) (hd : ds.length ≤ 100) (l : Bool) (fl : List Gu) (hf : ∀ g ∈ fl, g.k = ("floor" : Str)) (hl : fl.length ≤ 100) (st : Sto) :
    interp delta (n + 1) "fenced" [(m1, .tup ds), (m2, .bl l), (.rd, .lst (fl.map Gu.d))] st = .ok (.tup (fenD l fl ds)) st := by
  have hz := sz6
  rw [run_fenced]
  simp only [slotA_tup, slotA_bl]
  show fin (sh_fenced _ [some (.frz, .tup ds), some (.frz, .bl l), some (.bor, .lst (fl.map Gu.d)), none] st) = _
  unfold sh_fenced
  refine (seqN (env' := [some (.frz, .tup (if l = true then lk1 ++ ds ++ lk2 else ds)), some (.frz, .bl l), some (.bor, .lst (fl.map Gu.d)), none]) (st1 := st) ?_).trans ?_
  · cases l with
    | false => rfl
    | true =>
      rw [sIf_eq, bTru_eq]
      simp only [bVarR_s, bVarR_z, rTru_bl, outB_ok, if_true]
      rw [sCons_eq, sSet_eq, bBin_eq]
      simp only [bTup_eq, lCons_eq, lNil_eq, bC_eq, bind_ok, bVarR_z, kAdd_tup, List.length_cons, List.length_nil, g_LOCK]
      rw [if_pos (by omega)]
      simp only [out_ok, slotOf_tup, List.length_cons, List.length_nil]
      rw [if_pos (by decide)]
      simp only [List.set_cons_zero, seq_next]
      rw [sSet_eq, bBin_eq]
      simp only [bTup_eq, lCons_eq, lNil_eq, bC_eq, bind_ok, bVarR_z, kAdd_tup, List.length_cons, List.length_nil, List.length_append]
      rw [if_pos (by omega)]
      simp only [out_ok, slotOf_tup, List.length_cons, List.length_nil]
      rw [if_pos (by decide)]
      rfl
  have hloop : ∀ (gs : List Gu), (∀ g ∈ gs, g.k = ("floor" : Str)) → ∀ (es : List D) (s3 : NC.Slot), es.length + gs.length ≤ 1000 → ∃ r3, forL (tgName 3) (lb_fenced_0 (interp delta n)) (gs.map Gu.d) [some (.frz, .tup es), some (.frz, .bl l), some (.bor, .lst (fl.map Gu.d)), s3] st = .next [some (.frz, .tup (es ++ gs.map flD)), some (.frz, .bl l), some (.bor, .lst (fl.map Gu.d)), r3] st := by
    intro gs
    induction gs with
    | nil => intro _ es s3 _; exact ⟨s3, by simp⟩
    | cons g gs ih =>
      intro hk es s3 hle
      rw [List.length_cons] at hle
      have hg := hk g (List.mem_cons_self ..)
      have h2 := g.ix2 (by rw [hg]; decide +kernel) st
      have h3 := g.ix3 hg st
      obtain ⟨r3, e⟩ := ih (fun x hx => hk x (List.mem_cons_of_mem _ hx)) (es ++ [flD g]) (some (.frz, g.d)) (by rw [List.length_append, List.length_singleton]; omega)
      refine ⟨r3, ?_⟩
      rw [List.map_cons, forL_name _ _ _ _ (by simp)]
      simp only [List.set_cons_succ, List.set_cons_zero]
      have e1 : lb_fenced_0 (interp delta n) [some (.frz, .tup es), some (.frz, .bl l), some (.bor, .lst (fl.map Gu.d)), some (.frz, g.d)] st = .next [some (.frz, .tup (es ++ [flD g])), some (.frz, .bl l), some (.bor, .lst (fl.map Gu.d)), some (.frz, g.d)] st := by
        unfold lb_fenced_0
        rw [sSet_eq, bBin_eq]
        simp only [bTup_eq, lCons_eq, lNil_eq, bC_eq, bind_ok, bVarR_z, bVarR_s, bBin_eq, h2, h3, kAdd_tup, List.length_cons, List.length_nil]
        rw [if_pos (by omega)]
        simp only [out_ok, slotOf_tup, List.length_cons, List.length_nil]
        rw [if_pos (by decide)]
        rfl
      rw [e1, turn_next, e, List.append_assoc]; rfl
  have hl2 : (if l = true then lk1 ++ ds ++ lk2 else ds).length ≤ 110 := by
    split
    · simp [lk1, lk2]; omega
    · omega
  obtain ⟨r3, e⟩ := hloop fl hf (if l = true then lk1 ++ ds ++ lk2 else ds) none (by omega)
  refine (seqN (env' := _) (st1 := st) (by rw [sFor_L]; exact e)).trans ?_
  rfl
/-! changed -/
theorem ev_changed (n : Nat) {m1 : Md} (co : Co) (W : CoG co) (gs : List Gu) (hl : gs.length ≤ 100) (st : Sto) :
    interp delta (n + 2) "changed" [(m1, co.d), (.rd, .lst (gs.map Gu.d))] st = .ok (chgD gs co) st := by
  have hz := sz6
  have hs : slotA (m1, co.d) = some (.frz, co.d) := by cases m1 <;> rfl
  have hflen : (flG gs).length ≤ 100 := Nat.le_trans (List.length_filter_le _ _) hl
  rw [run_changed, hs]
  show fin (sh_changed _ [some (.frz, co.d), some (.bor, .lst (gs.map Gu.d)), none, none, none, none, none, none, none, none, none, none, none, none, none] st) = _
  unfold sh_changed
  refine (seqN (env' := [some (.frz, co.d), some (.bor, .lst (gs.map Gu.d)), some (.frz, .str co.n), some (.frz, .tup (co.vs.map vrD)), some (.frz, .tup (co.hs.map hdD)), some (.frz, .tup (co.ps.map Pr.d)), none, none, none, none, none, none, none, none, none]) (st1 := st) rfl).trans ?_
  generalize hA : some (Fl.frz, co.d) = a0
  have c1 : ∀ s3 s6 s7 s8 s9, bComp [7] (iVarC 1) (tgName 7) cYes (bBin kEq (bBin kIx (bVarR 7) (bC (D.int 0))) (bC (D.str "lock"))) [a0, some (.bor, .lst (gs.map Gu.d)), some (.frz, .str co.n), s3, some (.frz, .tup (co.hs.map hdD)), some (.frz, .tup (co.ps.map Pr.d)), s6, s7, s8, s9, none, none, none, none, none] st = .ok (.lst (gs.map fun g => D.bl (decide (g.k = ("lock" : Str))))) st := fun s3 s6 s7 s8 s9 =>
    comp_all Gu.d gs _ rfl fun g hg => ⟨[a0, some (.bor, .lst (gs.map Gu.d)), some (.frz, .str co.n), s3, some (.frz, .tup (co.hs.map hdD)), some (.frz, .tup (co.ps.map Pr.d)), s6, some (.frz, g.d), s8, s9, none, none, none, none, none], rfl, by
      simp only [bBin_eq, bVarR_s, bVarR_z, bC_eq, bind_ok, Gu.ix0, kEq_str]⟩
  have c2 : ∀ s3 s6 s7 s8 s9, bComp [7] (iVarC 1) (tgName 7) (bTst (bBin kEq (bBin kIx (bVarR 7) (bC (D.int 0))) (bC (D.str "hide")))) (bBin kIx (bVarR 7) (bC (D.int 2))) [a0, some (.bor, .lst (gs.map Gu.d)), some (.frz, .str co.n), s3, some (.frz, .tup (co.hs.map hdD)), some (.frz, .tup (co.ps.map Pr.d)), s6, s7, s8, s9, none, none, none, none, none] st = .ok (.lst ((hidN gs).map D.str)) st := fun s3 s6 s7 s8 s9 => by
    unfold hidN
    rw [List.map_map]
    exact comp_ex Gu.d gs _ _ rfl fun g hg => ⟨[a0, some (.bor, .lst (gs.map Gu.d)), some (.frz, .str co.n), s3, some (.frz, .tup (co.hs.map hdD)), some (.frz, .tup (co.ps.map Pr.d)), s6, some (.frz, g.d), s8, s9, none, none, none, none, none], rfl, by
      simp only [bTst_eq, bBin_eq, bVarR_s, bVarR_z, bC_eq, bind_ok, Gu.ix0, kEq_str, rBl_bl], fun hk => by
      have hk' : g.k ≠ ("lock" : Str) := by rw [of_decide_eq_true hk]; decide +kernel
      simp only [bBin_eq, bVarR_s, bVarR_z, bC_eq, bind_ok, g.ix2 hk']; rfl⟩
  have c3 : ∀ s3 s6 s7 s8 s9, bComp [7] (iVarC 1) (tgName 7) (bTst (bBin kEq (bBin kIx (bVarR 7) (bC (D.int 0))) (bC (D.str "floor")))) (bVar 7) [a0, some (.bor, .lst (gs.map Gu.d)), some (.frz, .str co.n), s3, some (.frz, .tup (co.hs.map hdD)), some (.frz, .tup (co.ps.map Pr.d)), s6, s7, s8, s9, none, none, none, none, none] st = .ok (.lst ((flG gs).map Gu.d)) st := fun s3 s6 s7 s8 s9 =>
    comp_ex Gu.d gs _ _ rfl fun g hg => ⟨[a0, some (.bor, .lst (gs.map Gu.d)), some (.frz, .str co.n), s3, some (.frz, .tup (co.hs.map hdD)), some (.frz, .tup (co.ps.map Pr.d)), s6, some (.frz, g.d), s8, s9, none, none, none, none, none], rfl, by
      simp only [bTst_eq, bBin_eq, bVarR_s, bVarR_z, bC_eq, bind_ok, Gu.ix0, kEq_str, rBl_bl], fun hk => rfl⟩
  refine (seqN (env' := [a0, some (.bor, .lst (gs.map Gu.d)), some (.frz, .str co.n), some (.frz, .tup (co.vs.map vrD)), some (.frz, .tup (co.hs.map hdD)), some (.frz, .tup (co.ps.map Pr.d)), some (.frz, .bl (lockedB gs)), none, none, none, none, none, none, none, none]) (st1 := st) ?_).trans ?_
  · rw [sSet_eq, bCall_eq, lCons_eq, c1]
    simp only [bind_ok, lNil_eq, kAny_map, out_ok]
    rfl
  refine (seqN (env' := [a0, some (.bor, .lst (gs.map Gu.d)), some (.frz, .str co.n), some (.frz, .tup (co.vs.map vrD)), some (.frz, .tup (co.hs.map hdD)), some (.frz, .tup (co.ps.map Pr.d)), some (.frz, .bl (lockedB gs)), none, some (.own, .lst ((hidN gs).map D.str)), none, none, none, none, none, none]) (st1 := st) ?_).trans ?_
  · rw [sSet_eq, c2]; rfl
  refine (seqN (env' := [a0, some (.bor, .lst (gs.map Gu.d)), some (.frz, .str co.n), some (.frz, .tup (co.vs.map vrD)), some (.frz, .tup (co.hs.map hdD)), some (.frz, .tup (co.ps.map Pr.d)), some (.frz, .bl (lockedB gs)), none, some (.own, .lst ((hidN gs).map D.str)), some (.own, .lst ((flG gs).map Gu.d)), none, none, none, none, none]) (st1 := st) ?_).trans ?_
  · rw [sSet_eq, c3]; rfl
  have hvl := W.v
  refine (seqN (env' := [a0, some (.bor, .lst (gs.map Gu.d)), some (.frz, .str co.n), some (.frz, .tup (if lockedB gs = true then co.vs.map vrD ++ [lkV] else co.vs.map vrD)), some (.frz, .tup (co.hs.map hdD)), some (.frz, .tup (co.ps.map Pr.d)), some (.frz, .bl (lockedB gs)), none, some (.own, .lst ((hidN gs).map D.str)), some (.own, .lst ((flG gs).map Gu.d)), none, none, none, none, none]) (st1 := st) ?_).trans ?_
  · rw [sIf_eq, bTru_eq]
    simp only [bVarR_s, bVarR_z, rTru_bl, outB_ok]
    cases lockedB gs with
    | false => rfl
    | true =>
      simp only [if_true]
      rw [sSet_eq, bBin_eq]
      simp only [bVarR_s, bVarR_z, bTup_eq, lCons_eq, lNil_eq, bC_eq, bind_ok, kAdd_tup, List.length_cons, List.length_nil, List.length_map, g_LOCK]
      rw [if_pos (by omega)]
      rfl
  refine (seqN (env' := [a0, some (.bor, .lst (gs.map Gu.d)), some (.frz, .str co.n), some (.frz, .tup (if lockedB gs = true then co.vs.map vrD ++ [lkV] else co.vs.map vrD)), some (.frz, .tup (co.hs.map hdD)), some (.frz, .tup (co.ps.map Pr.d)), some (.frz, .bl (lockedB gs)), none, some (.own, .lst ((hidN gs).map D.str)), some (.own, .lst ((flG gs).map Gu.d)), some (.own, .lst []), none, none, none, none]) (st1 := st) rfl).trans ?_
  generalize hB : D.tup (if lockedB gs = true then co.vs.map vrD ++ [lkV] else co.vs.map vrD) = a3
  have hloop : ∀ (ps : List Pr), (∀ p ∈ ps, PrG p) → ∀ (acc : List D) (s11 s12 s13 s14 : NC.Slot), acc.length + ps.length ≤ 1000 →
      ∃ r11 r12 r13 r14, forL (tgTup (tgCons (tgName 11) (tgCons (tgName 12) (tgCons (tgName 13) (tgCons (tgName 14) tgNil))))) (lb_changed_0 (interp delta (n + 1))) (ps.map Pr.d) [a0, some (.bor, .lst (gs.map Gu.d)), some (.frz, .str co.n), some (.frz, a3), some (.frz, .tup (co.hs.map hdD)), some (.frz, .tup (co.ps.map Pr.d)), some (.frz, .bl (lockedB gs)), none, some (.own, .lst ((hidN gs).map D.str)), some (.own, .lst ((flG gs).map Gu.d)), some (.own, .lst acc), s11, s12, s13, s14] st =
        .next [a0, some (.bor, .lst (gs.map Gu.d)), some (.frz, .str co.n), some (.frz, a3), some (.frz, .tup (co.hs.map hdD)), some (.frz, .tup (co.ps.map Pr.d)), some (.frz, .bl (lockedB gs)), none, some (.own, .lst ((hidN gs).map D.str)), some (.own, .lst ((flG gs).map Gu.d)), some (.own, .lst (acc ++ ps.map (prC gs))), r11, r12, r13, r14] st := by
    intro ps
    induction ps with
    | nil => intro _ acc s11 s12 s13 s14 _; exact ⟨s11, s12, s13, s14, by simp⟩
    | cons p ps ih =>
      intro hW acc s11 s12 s13 s14 hle
      rw [List.length_cons] at hle
      have hp := hW p (List.mem_cons_self ..)
      have hpl := hp.l
      have hf : ∀ {m1 m2 : Md}, interp delta (n + 1) "fenced" [(m1, .tup p.b.ds), (m2, .bl (lockedB gs)), (.rd, .lst ((flG gs).map Gu.d))] st = .ok (.tup (fenD (lockedB gs) (flG gs) p.b.ds)) st := ev_fenced n p.b.ds (by rw [Bl.ds_len]; omega) (lockedB gs) (flG gs) (fun g hg => mem_flG hg) hflen st
      obtain ⟨r11, r12, r13, r14, e⟩ := ih (fun x hx => hW x (List.mem_cons_of_mem _ hx)) (acc ++ [prC gs p]) (some (.frz, .str p.n)) (some (.frz, .int p.z)) (some (.frz, .bl p.sh)) (some (.frz, .tup (if p.sh = true then fenD (lockedB gs) (flG gs) p.b.ds else p.b.ds))) (by rw [List.length_append, List.length_singleton]; omega)
      refine ⟨r11, r12, r13, r14, ?_⟩
      rw [List.map_cons, forL_cons (env1 := [a0, some (.bor, .lst (gs.map Gu.d)), some (.frz, .str co.n), some (.frz, a3), some (.frz, .tup (co.hs.map hdD)), some (.frz, .tup (co.ps.map Pr.d)), some (.frz, .bl (lockedB gs)), none, some (.own, .lst ((hidN gs).map D.str)), some (.own, .lst ((flG gs).map Gu.d)), some (.own, .lst acc), some (.frz, .str p.n), some (.frz, .int p.z), some (.frz, .bl p.sh), some (.frz, .tup p.b.ds)]) rfl]
      have e1 : lb_changed_0 (interp delta (n + 1)) [a0, some (.bor, .lst (gs.map Gu.d)), some (.frz, .str co.n), some (.frz, a3), some (.frz, .tup (co.hs.map hdD)), some (.frz, .tup (co.ps.map Pr.d)), some (.frz, .bl (lockedB gs)), none, some (.own, .lst ((hidN gs).map D.str)), some (.own, .lst ((flG gs).map Gu.d)), some (.own, .lst acc), some (.frz, .str p.n), some (.frz, .int p.z), some (.frz, .bl p.sh), some (.frz, .tup p.b.ds)] st =
          .next [a0, some (.bor, .lst (gs.map Gu.d)), some (.frz, .str co.n), some (.frz, a3), some (.frz, .tup (co.hs.map hdD)), some (.frz, .tup (co.ps.map Pr.d)), some (.frz, .bl (lockedB gs)), none, some (.own, .lst ((hidN gs).map D.str)), some (.own, .lst ((flG gs).map Gu.d)), some (.own, .lst (acc ++ [prC gs p])), some (.frz, .str p.n), some (.frz, .int p.z), some (.frz, .bl p.sh), some (.frz, .tup (if p.sh = true then fenD (lockedB gs) (flG gs) p.b.ds else p.b.ds))] st := by
        unfold lb_changed_0 prC
        rw [sCons_eq, sIf_eq, bTru_eq]
        simp only [bVarR_s, bVarR_z, rTru_bl, outB_ok]
        cases p.sh with
        | true =>
          simp only [if_true, sAsg_eq, bDef_eq, lCons_eq, lNil_eq, bVar_s, bVar_z, bVarR_s, bVarR_z, bVarR_z1, bind_ok, List.zip_cons_cons, List.zip_nil_right, hf, out_ok, setE_name]
          rw [if_pos (by simp)]
          simp only [List.set_cons_succ, List.set_cons_zero, seq_next, sApp_E]
          show appE _ _ _ _ (some (some (.own, .lst acc))) = _
          rw [appE_own]
          simp only [bTup_eq, lCons_eq, lNil_eq, bVar_s, bVar_z, bAndV_eq, bVarR_s, bVarR_z, bVarR_z1, bind_ok, rBl_bl, if_true, bBin_eq, kNotIn_strsL, out_ok]
          rw [appO_of _ _ _ (by omega)]
          rfl
        | false =>
          simp only [Bool.false_eq_true, if_false, sNil_eq, seq_next, sApp_E]
          show appE _ _ _ _ (some (some (.own, .lst acc))) = _
          rw [appE_own]
          simp only [bTup_eq, lCons_eq, lNil_eq, bVar_s, bVar_z, bAndV_eq, bVarR_s, bVarR_z, bVarR_z1, bind_ok, rBl_bl, Bool.false_eq_true, if_false, out_ok]
          rw [appO_of _ _ _ (by omega)]
          rfl
      rw [e1, turn_next, e, List.append_assoc]; rfl
  have hpl := W.ps
  obtain ⟨r11, r12, r13, r14, e⟩ := hloop co.ps W.p [] none none none none (by rw [List.length_nil]; omega)
  refine (seqN (env' := _) (st1 := st) (by rw [sFor_L, show (iVar 5) _ st = .ok (co.ps.map Pr.d) st from rfl, outL_ok]; exact e)).trans ?_
  rw [← hB] at *
  rfl
end K40

namespace K40
open PySem L2 NC
theorem enum_cons (n : Nat) (d : D) (r : List D) : enumD n (d :: r) = .tup [.int n, d] :: enumD (n + 1) r := rfl
theorem loop_bad (n : Nat) {st : Sto} {l : Nat} {h : Ho} (hl : st[l]? = some (hoL h)) (gs : List Gu) (go : ∀ g ∈ gs, g.ok) : ∀ (r pre : List Gu), gs = pre ++ r → ∀ (s2 s3 : NC.Slot),
    (∀ j, firstBad h pre r = some j → ∃ e, forL (tgTup (tgCons (tgName 2) (tgCons (tgName 3) tgNil))) (lb_guarded_0 (interp delta (n + 1))) (enumD pre.length (r.map Gu.d)) [some (.frz, .loc l), some (.frz, .lst (gs.map Gu.d)), s2, s3, none, none, none] st = .exc ⟨"BadGuard", [("at", .int (j : Nat))]⟩ e st) ∧
    (firstBad h pre r = none → ∃ r2 r3, forL (tgTup (tgCons (tgName 2) (tgCons (tgName 3) tgNil))) (lb_guarded_0 (interp delta (n + 1))) (enumD pre.length (r.map Gu.d)) [some (.frz, .loc l), some (.frz, .lst (gs.map Gu.d)), s2, s3, none, none, none] st = .next [some (.frz, .loc l), some (.frz, .lst (gs.map Gu.d)), r2, r3, none, none, none] st)
  | [], pre, he, s2, s3 => ⟨fun j hj => (by cases hj), fun _ => ⟨s2, s3, rfl⟩⟩
  | g :: r, pre, he, s2, s3 => by
    have hg : g.ok := go g (by rw [he]; simp)
    have hpre : ∀ x ∈ pre, x.ok := fun x hx => go x (by rw [he]; exact List.mem_append_left _ hx)
    have hfit : ∀ {m1 m2 : Md}, interp delta (n + 1) "fits" [(m1, .loc l), (m2, g.d)] st = .ok (.bl (fitsB h.as h.cs g)) st := ev_fits n hl g
    have htk : cutD (gs.map Gu.d) none (some ((pre.length : Nat) : Int)) = pre.map Gu.d := by
      rw [cut_takeM, he, List.take_left']
      rfl
    have hin := in_gu hg hpre st
    have turn : lb_guarded_0 (interp delta (n + 1)) [some (.frz, .loc l), some (.frz, .lst (gs.map Gu.d)), some (.frz, .int (pre.length : Nat)), some (.frz, g.d), none, none, none] st =
        if (!fitsB h.as h.cs g || decide (g ∈ pre)) = true then .exc ⟨"BadGuard", [("at", .int (pre.length : Nat))]⟩ [some (.frz, .loc l), some (.frz, .lst (gs.map Gu.d)), some (.frz, .int (pre.length : Nat)), some (.frz, g.d), none, none, none] st
        else .next [some (.frz, .loc l), some (.frz, .lst (gs.map Gu.d)), some (.frz, .int (pre.length : Nat)), some (.frz, g.d), none, none, none] st := by
      unfold lb_guarded_0 sRaise
      rw [sIf_eq]
      simp only [bOrT_eq, bNotT_eq, bTru_eq, bDef_eq, lCons_eq, lNil_eq, bVarR_s, bVarR_z, bind_ok, List.zip_cons_cons, List.zip_nil_right, hfit, rTru_bl]
      cases hf : fitsB h.as h.cs g with
      | false =>
        simp only [Bool.not_false, Bool.true_or, if_true, outB_ok, bVar_s, bVar_z]
        rw [run_x_BadGuard]; rfl
      | true =>
        simp only [Bool.not_true, Bool.false_or, Bool.false_eq_true, if_false, bTst_eq, bBin_eq, bSl_eq, oNone_eq, oSome_eq, bVarR_s, bVarR_z, bind_ok, toO_int, kSl_lst, htk, hin, rBl_bl, outB_ok, bVar_s, bVar_z, sNil_eq]
        by_cases hm : g ∈ pre
        · simp only [hm, decide_true, if_true]
          rw [run_x_BadGuard]; rfl
        · simp only [hm, decide_false, Bool.false_eq_true, if_false]
    obtain ⟨i1, i2⟩ := loop_bad n hl gs go r (pre ++ [g]) (by rw [List.append_assoc]; exact he) (some (.frz, .int (pre.length : Nat))) (some (.frz, g.d))
    rw [List.length_append, List.length_singleton] at i1 i2
    unfold firstBad
    rw [List.map_cons, enum_cons, forL_cons (env1 := [some (.frz, .loc l), some (.frz, .lst (gs.map Gu.d)), some (.frz, .int (pre.length : Nat)), some (.frz, g.d), none, none, none]) rfl, turn]
    by_cases hb : (!fitsB h.as h.cs g || decide (g ∈ pre)) = true
    · rw [if_pos hb, if_pos hb]
      refine ⟨fun j hj => ?_, fun hj => (by cases hj)⟩
      cases hj
      exact ⟨_, rfl⟩
    · rw [if_neg hb, if_neg hb, turn_next]
      exact ⟨i1, i2⟩
theorem ev_mk_House (n : Nat) {m1 m2 : Md} (st : Sto) (a c : D) (xs ys : List D) (ha : ∀ st, kTuple [a] st = .ok (.tup xs) st) (hc : ∀ st, kTuple [c] st = .ok (.tup ys) st) (ga : ∀ m r st, bVarR 0 (slotA (m, a) :: r) st = .ok a st) (gc : ∀ m r st, bVarR 0 (slotA (m, c) :: r) st = .ok c st) :
    interp delta (n + 2) "House" [(m1, a), (m2, c)] st = .ok (.loc st.length) (st ++ [hoC (.tup xs) (.tup ys)]) := by
  rw [run_mk_House]
  unfold mkR
  have key : interp delta (n + 1) "House.__init__" ((.esc, .loc st.length) :: [(m1, a), (m2, c)]) (st ++ [.ins "House" []]) = .ok .non (st ++ [hoC (.tup xs) (.tup ys)]) := by
    rw [run_House___init__]
    have h1 : ∀ d, setF fc_assets "assets" d (st ++ [.ins "House" []]) (.loc st.length) = some (st ++ [.ins "House" [("assets", d)]]) := fun d => by
      rw [setF_of (c := "House") (fs := []) (get_mid st [] _) (by decide +kernel) (by decide)]
      rw [set_mid]; rfl
    have h2 : ∀ d e, setF fc_contracts "contracts" e (st ++ [.ins "House" [("assets", d)]]) (.loc st.length) = some (st ++ [.ins "House" [("assets", d), ("contracts", e)]]) := fun d e => by
      rw [setF_of (c := "House") (fs := [("assets", d)]) (get_mid st [] _) (by decide +kernel) (Nat.lt_of_sub_eq_succ rfl)]
      rw [set_mid]; rfl
    simp only [sh_House___init__, sCons_eq, sFldD_eq, bCall_eq, lCons_eq, bVarR_s, ga, gc, lNil_eq, bind_ok, ha, hc, out_ok, slotA_esc, bVarR_z, h1, stO_some, seq_next, h2, fin_next]
  rw [key]
theorem ev_guarded_bad (n : Nat) {m1 : Md} {st : Sto} {l : Nat} {h : Ho} (hl : st[l]? = some (hoL h)) (gs : List Gu) (go : ∀ g ∈ gs, g.ok) (hlen : gs.length ≤ 100) (j : Nat) (hj : firstBad h [] gs = some j) :
    interp delta (n + 4) "guarded" [(m1, .loc l), (.esc, .lst (gs.map Gu.d))] st = .exc ⟨"BadGuard", [("at", .int (j : Nat))]⟩ st := by
  have hz := sz6
  rw [run_guarded, slotA_loc, slotA_esc]
  unfold sh_guarded
  obtain ⟨e, q⟩ := (loop_bad (n + 2) hl gs go gs [] rfl none none).1 j hj
  rw [sCons_eq, sFor_L]
  unfold iEnumD
  rw [bVar_s, bVar_z, bind_ok]
  dsimp only
  rw [if_pos (by rw [List.length_map]; omega), outL_ok]
  have q' : forL (tgTup (tgCons (tgName 2) (tgCons (tgName 3) tgNil))) (lb_guarded_0 (interp delta (n + 3))) (enumD 0 (gs.map Gu.d)) [some (.frz, .loc l), some (.frz, .lst (gs.map Gu.d)), none, none, none, none, none] st = .exc ⟨"BadGuard", [("at", .int (j : Nat))]⟩ e st := q
  rw [q']
  rfl
theorem ev_guarded (n : Nat) {m1 : Md} {st : Sto} {l : Nat} {h : Ho} (G : HoG h) (hl : st[l]? = some (hoL h)) (gs : List Gu) (go : ∀ g ∈ gs, g.ok) (hlen : gs.length ≤ 100) (hj : firstBad h [] gs = none) :
    interp delta (n + 4) "guarded" [(m1, .loc l), (.esc, .lst (gs.map Gu.d))] st = .ok (.loc st.length) (st ++ [hoC (.tup (h.as.map hdD)) (.tup (h.cs.map fun co => chgD (ownG gs co.n) co))]) := by
  have hz := sz6
  rw [run_guarded, slotA_loc, slotA_esc]
  unfold sh_guarded
  obtain ⟨r2, r3, q⟩ := (loop_bad (n + 2) hl gs go gs [] rfl none none).2 hj
  refine (seqN (env' := [some (.frz, .loc l), some (.frz, .lst (gs.map Gu.d)), r2, r3, none, none, none]) (st1 := st) ?_).trans ?_
  · rw [sFor_L]
    unfold iEnumD
    rw [bVar_s, bVar_z, bind_ok]
    dsimp only
    rw [if_pos (by rw [List.length_map]; omega), outL_ok]
    exact q
  refine (seqN (env' := [some (.frz, .loc l), some (.frz, .lst (gs.map Gu.d)), r2, r3, some (.own, .lst []), none, none]) (st1 := st) rfl).trans ?_
  have hloop : ∀ (cs : List Co), (∀ co ∈ cs, CoG co) → ∀ (acc : List D) (s5 s6 : NC.Slot), acc.length + cs.length ≤ 1000 →
      ∃ r5 r6, forL (tgName 5) (lb_guarded_1 (interp delta (n + 3))) (cs.map Co.d) [some (.frz, .loc l), some (.frz, .lst (gs.map Gu.d)), r2, r3, some (.own, .lst acc), s5, s6] st = .next [some (.frz, .loc l), some (.frz, .lst (gs.map Gu.d)), r2, r3, some (.own, .lst (acc ++ cs.map fun co => chgD (ownG gs co.n) co)), r5, r6] st := by
    intro cs
    induction cs with
    | nil => intro _ acc s5 s6 _; exact ⟨s5, s6, by simp⟩
    | cons co cs ih =>
      intro hW acc s5 s6 hle
      rw [List.length_cons] at hle
      have hco := hW co (List.mem_cons_self ..)
      have hol : (ownG gs co.n).length ≤ 100 := Nat.le_trans (List.length_filter_le _ _) hlen
      have hch : ∀ {m1 : Md}, interp delta (n + 3) "changed" [(m1, co.d), (.rd, .lst ((ownG gs co.n).map Gu.d))] st = .ok (chgD (ownG gs co.n) co) st := ev_changed (n + 1) co hco (ownG gs co.n) hol st
      have hc : bComp [3] (iVarC 1) (tgName 3) (bTst (bBin kEq (bBin kIx (bVarR 3) (bC (D.int 1))) (bBin kIx (bVarR 5) (bC (D.int 0))))) (bVar 3) [some (.frz, .loc l), some (.frz, .lst (gs.map Gu.d)), r2, r3, some (.own, .lst acc), some (.frz, co.d), s6] st = .ok (.lst ((ownG gs co.n).map Gu.d)) st :=
        comp_ex Gu.d gs _ _ rfl fun g hg => ⟨[some (.frz, .loc l), some (.frz, .lst (gs.map Gu.d)), r2, some (.frz, g.d), some (.own, .lst acc), some (.frz, co.d), s6], rfl, by
          simp only [bTst_eq, bBin_eq, bVarR_s, bVarR_z, bC_eq, bind_ok, Gu.ix1, co_ix0, kEq_str, rBl_bl], fun _ => rfl⟩
      obtain ⟨r5, r6, e⟩ := ih (fun x hx => hW x (List.mem_cons_of_mem _ hx)) (acc ++ [chgD (ownG gs co.n) co]) (some (.frz, co.d)) (some (.own, .lst ((ownG gs co.n).map Gu.d))) (by rw [List.length_append, List.length_singleton]; omega)
      refine ⟨r5, r6, ?_⟩
      rw [List.map_cons, forL_name _ _ _ _ (by simp)]
      simp only [List.set_cons_succ, List.set_cons_zero]
      have e1 : lb_guarded_1 (interp delta (n + 3)) [some (.frz, .loc l), some (.frz, .lst (gs.map Gu.d)), r2, r3, some (.own, .lst acc), some (.frz, co.d), s6] st = .next [some (.frz, .loc l), some (.frz, .lst (gs.map Gu.d)), r2, r3, some (.own, .lst (acc ++ [chgD (ownG gs co.n) co])), some (.frz, co.d), some (.own, .lst ((ownG gs co.n).map Gu.d))] st := by
        unfold lb_guarded_1
        rw [sCons_eq, sSet_eq, hc]
        simp only [out_ok, slotOf_lst, List.length_cons, List.length_nil]
        rw [if_pos (by simp)]
        simp only [List.set_cons_succ, List.set_cons_zero, seq_next, sApp_E]
        show appE _ _ _ _ (some (some (.own, .lst acc))) = _
        rw [appE_own]
        simp only [bDef_eq, lCons_eq, lNil_eq, bVar_s, bVar_z, bVarR_s, bVarR_z1, bind_ok, List.zip_cons_cons, List.zip_nil_right, hch, out_ok]
        rw [appO_of _ _ _ (by omega)]
        rfl
      rw [e1, turn_next, e, List.append_assoc]; rfl
  have hcl := G.cl
  obtain ⟨r5, r6, e⟩ := hloop h.cs G.c [] none none (by rw [List.length_nil]; omega)
  refine (seqN (env' := [some (.frz, .loc l), some (.frz, .lst (gs.map Gu.d)), r2, r3, some (.own, .lst ([] ++ h.cs.map fun co => chgD (ownG gs co.n) co)), r5, r6]) (st1 := st) ?_).trans ?_
  · rw [sFor_L, iSeq_tup _ _ (show (bAttr "contracts" (bVarR 0)) _ st = .ok (.tup (h.cs.map Co.d)) st by rw [bAttr_eq, bVarR_z, bind_ok, getC hl]), outL_ok]
    exact e
  rw [List.nil_append]
  generalize hX : (h.cs.map fun co => chgD (ownG gs co.n) co) = xs
  rw [sRet_eq, bMk_eq]
  simp only [lCons_eq, lNil_eq, bAttr_eq, bVarR_s, bVarR_z, bVarR_z1, bind_ok, getA hl, List.zip_cons_cons, List.zip_nil_right, List.map_nil, List.append_nil]
  have hmk : interp delta (n + 3) "House" [(.rd, .tup (h.as.map hdD)), (.rd, .lst xs)] st = _ := ev_mk_House (n + 1) st (.tup (h.as.map hdD)) (.lst xs) (h.as.map hdD) xs (fun _ => rfl) (fun _ => rfl) (fun m r st => by simp) (fun m r st => by cases m <;> rfl)
  rw [hmk]
  rfl
end K40

namespace NC
open PySem L2
theorem Gu.kok (g : Gu) : PyData.strOk g.k = true := by
  have l : ∀ w ∈ [("hide" : Str), "lock", "floor"], PyData.strOk w = true := by decide +kernel
  cases g <;> exact l _ (by simp [Gu.k])
theorem Gu.cut1 (g : Gu) (st : Sto) : kSl g.d none (some 1) st = .ok (.tup [.str g.k]) st := by cases g <;> rfl
theorem in_lock (gs : List Gu) (st : Sto) : kIn (.tup [.str "lock"]) (.lst (gs.map fun g => D.tup [.str g.k])) st = .ok (.bl (lockedB gs)) st := by
  rw [kIn_gd (n := 1) (gp1 (gp_str (by decide +kernel))) (gp_map fun g hg => gp1 (gp_str g.kok)) (by decide) st]
  congr 2
  unfold lockedB
  rw [List.any_map]
  congr 1
  funext g
  show (D.tup [.str g.k]).same (.tup [.str "lock"]) = _
  rw [same_tup, sames_cons, sames_nil, same_str, Bool.and_true]
end NC
namespace K40
open PySem L2 NC
theorem ev_lfenced (n : Nat) {m1 : Md} (p : Pr) (W : PrG p) (gs : List Gu) (hl : gs.length ≤ 100) (hsh : p.sh = true) (st : Sto) : interp delta (n + 1) "_law_fenced" [(m1, p.d), (.rd, .lst (gs.map Gu.d))] st = .ok (prC gs p) st := by
  have hz := sz6
  have hs : slotA (m1, p.d) = some (.frz, p.d) := by cases m1 <;> rfl
  have hpl := W.l
  rw [run_law_fenced, hs]
  show fin (sh_law_fenced _ [some (.frz, p.d), some (.bor, .lst (gs.map Gu.d)), none, none, none, none, none] st) = _
  unfold sh_law_fenced
  refine (seqN (env' := [some (.frz, p.d), some (.bor, .lst (gs.map Gu.d)), some (.frz, .tup p.b.ds), none, none, none, none]) (st1 := st) rfl).trans ?_
  refine (seqN (env' := [some (.frz, p.d), some (.bor, .lst (gs.map Gu.d)), some (.frz, .tup p.b.ds), some (.frz, .tup [.str "variable", .str "lock"]), none, none, none]) (st1 := st) rfl).trans ?_
  have c1 : bComp [4] (iVarC 1) (tgName 4) cYes (bSl (bVarR 4) oNone (oSome (bC (D.int 1)))) [some (.frz, p.d), some (.bor, .lst (gs.map Gu.d)), some (.frz, .tup p.b.ds), some (.frz, .tup [.str "variable", .str "lock"]), none, none, none] st = .ok (.lst (gs.map fun g => D.tup [.str g.k])) st :=
    comp_all Gu.d gs _ rfl fun g hg => ⟨[some (.frz, p.d), some (.bor, .lst (gs.map Gu.d)), some (.frz, .tup p.b.ds), some (.frz, .tup [.str "variable", .str "lock"]), some (.frz, g.d), none, none], rfl, by
      simp only [bSl_eq, bVarR_s, bVarR_z, bind_ok, oNone_eq, oSome_eq, bC_eq, toO_int, Gu.cut1]⟩
  have hin := in_lock gs st
  refine (seqN (env' := [some (.frz, p.d), some (.bor, .lst (gs.map Gu.d)), some (.frz, .tup (if lockedB gs = true then lk1 ++ p.b.ds ++ lk2 else p.b.ds)), some (.frz, .tup [.str "variable", .str "lock"]), none, none, none]) (st1 := st) ?_).trans ?_
  · rw [sIf_eq, bTst_eq, bBin_eq]
    simp only [bTup_eq, lCons_eq, lNil_eq, bC_eq, bind_ok, c1, hin, rBl_bl, outB_ok]
    cases lockedB gs with
    | false => rfl
    | true =>
      simp only [if_true]
      rw [sCons_eq, sSet_eq, bBin_eq]
      simp only [bTup_eq, lCons_eq, lNil_eq, bC_eq, bind_ok, bVarR_s, bVarR_z, bVar_s, bVar_z, kAdd_tup, List.length_cons, List.length_nil, Bl.ds_len]
      rw [if_pos (by omega)]
      simp only [out_ok, slotOf_tup, List.length_cons, List.length_nil]
      rw [if_pos (by decide)]
      simp only [List.set_cons_succ, List.set_cons_zero, seq_next]
      rw [sSet_eq, bBin_eq]
      simp only [bTup_eq, lCons_eq, lNil_eq, bC_eq, bind_ok, bVarR_s, bVarR_z, kAdd_tup, List.length_cons, List.length_nil, List.length_append, Bl.ds_len]
      rw [if_pos (by omega)]
      simp only [out_ok, slotOf_tup, List.length_cons, List.length_nil]
      rw [if_pos (by decide)]
      rfl
  have hloop : ∀ (qs : List Gu), ∀ (es : List D) (s4 s5 : NC.Slot), es.length + qs.length ≤ 1000 → ∃ r4 r5, forL (tgName 4) (lb_law_fenced_0 (interp delta n)) (qs.map Gu.d) [some (.frz, p.d), some (.bor, .lst (gs.map Gu.d)), some (.frz, .tup es), some (.frz, .tup [.str "variable", .str "lock"]), s4, s5, none] st = .next [some (.frz, p.d), some (.bor, .lst (gs.map Gu.d)), some (.frz, .tup (es ++ (flG qs).map flD)), some (.frz, .tup [.str "variable", .str "lock"]), r4, r5, none] st := by
    intro qs
    induction qs with
    | nil => intro es s4 s5 _; exact ⟨s4, s5, by simp [flG]⟩
    | cons g qs ih =>
      intro es s4 s5 hle
      rw [List.length_cons] at hle
      by_cases hg : g.k = ("floor" : Str)
      · have h2 := g.ix2 (by rw [hg]; decide +kernel) st
        have h3 := g.ix3 hg st
        obtain ⟨r4, r5, e⟩ := ih (es ++ [flD g]) (some (.frz, g.d)) (some (.frz, .tup [.str "<", .tup [.str "have", .str (gu2 g)], .tup [.str "number", .int (gu3 g)]])) (by rw [List.length_append, List.length_singleton]; omega)
        refine ⟨r4, r5, ?_⟩
        rw [List.map_cons, forL_name _ _ _ _ (by simp)]
        simp only [List.set_cons_succ, List.set_cons_zero]
        have e1 : lb_law_fenced_0 (interp delta n) [some (.frz, p.d), some (.bor, .lst (gs.map Gu.d)), some (.frz, .tup es), some (.frz, .tup [.str "variable", .str "lock"]), some (.frz, g.d), s5, none] st = .next [some (.frz, p.d), some (.bor, .lst (gs.map Gu.d)), some (.frz, .tup (es ++ [flD g])), some (.frz, .tup [.str "variable", .str "lock"]), some (.frz, g.d), some (.frz, .tup [.str "<", .tup [.str "have", .str (gu2 g)], .tup [.str "number", .int (gu3 g)]]), none] st := by
          unfold lb_law_fenced_0
          rw [sIf_eq]
          simp only [bTst_eq, bBin_eq, bVarR_s, bVarR_z, bC_eq, bind_ok, Gu.ix0, hg, kEq_str, decide_true, rBl_bl, outB_ok, if_true, sCons_eq, sSet_eq, bTup_eq, lCons_eq, lNil_eq, h2, h3, out_ok, slotOf_tup, List.length_cons, List.length_nil]
          rw [if_pos (by decide)]
          simp only [List.set_cons_succ, List.set_cons_zero, seq_next, sSet_eq, bBin_eq, bTup_eq, lCons_eq, lNil_eq, bC_eq, bind_ok, bVarR_s, bVarR_z, bVar_s, bVar_z, kAdd_tup, List.length_cons, List.length_nil]
          rw [if_pos (by omega)]
          simp only [out_ok, slotOf_tup, List.length_cons, List.length_nil]
          rw [if_pos (by decide)]
          rfl
        rw [e1, turn_next, e, List.append_assoc]
        unfold flG
        rw [List.filter_cons_of_pos (by simpa using hg)]; rfl
      · obtain ⟨r4, r5, e⟩ := ih es (some (.frz, g.d)) s5 (by omega)
        refine ⟨r4, r5, ?_⟩
        rw [List.map_cons, forL_name _ _ _ _ (by simp)]
        simp only [List.set_cons_succ, List.set_cons_zero]
        have e1 : lb_law_fenced_0 (interp delta n) [some (.frz, p.d), some (.bor, .lst (gs.map Gu.d)), some (.frz, .tup es), some (.frz, .tup [.str "variable", .str "lock"]), some (.frz, g.d), s5, none] st = .next [some (.frz, p.d), some (.bor, .lst (gs.map Gu.d)), some (.frz, .tup es), some (.frz, .tup [.str "variable", .str "lock"]), some (.frz, g.d), s5, none] st := by
          unfold lb_law_fenced_0
          rw [sIf_eq]
          simp only [bTst_eq, bBin_eq, bVarR_s, bVarR_z, bC_eq, bind_ok, Gu.ix0, hg, kEq_str, decide_false, rBl_bl, outB_ok, Bool.false_eq_true, if_false, sNil_eq]
        rw [e1, turn_next, e]
        unfold flG
        rw [List.filter_cons_of_neg (by simpa using hg)]
  have hbl : (if lockedB gs = true then lk1 ++ p.b.ds ++ lk2 else p.b.ds).length ≤ 20 := by
    split
    · rw [List.length_append, List.length_append, Bl.ds_len]; simp [lk1, lk2]; omega
    · rw [Bl.ds_len]; omega
  obtain ⟨r4, r5, e⟩ := hloop gs (if lockedB gs = true then lk1 ++ p.b.ds ++ lk2 else p.b.ds) none none (by omega)
  refine (seqN (env' := [some (.frz, p.d), some (.bor, .lst (gs.map Gu.d)), some (.frz, .tup (fenD (lockedB gs) (flG gs) p.b.ds)), some (.frz, .tup [.str "variable", .str "lock"]), r4, r5, none]) (st1 := st) ?_).trans ?_
  · rw [sFor_L, show (iVar 1) _ st = .ok (gs.map Gu.d) st from rfl, outL_ok]
    exact e
  have c2 : bComp [4] (iVarC 1) (tgName 4) (bTst (bBin kEq (bBin kIx (bVarR 4) (bC (D.int 0))) (bC (D.str "hide")))) (bBin kIx (bVarR 4) (bC (D.int 2))) [some (.frz, p.d), some (.bor, .lst (gs.map Gu.d)), some (.frz, .tup (fenD (lockedB gs) (flG gs) p.b.ds)), some (.frz, .tup [.str "variable", .str "lock"]), r4, r5, none] st = .ok (.lst ((hidN gs).map D.str)) st := by
    unfold hidN
    rw [List.map_map]
    exact comp_ex Gu.d gs _ _ rfl fun g hg => ⟨[some (.frz, p.d), some (.bor, .lst (gs.map Gu.d)), some (.frz, .tup (fenD (lockedB gs) (flG gs) p.b.ds)), some (.frz, .tup [.str "variable", .str "lock"]), some (.frz, g.d), r5, none], rfl, by
      simp only [bTst_eq, bBin_eq, bVarR_s, bVarR_z, bC_eq, bind_ok, Gu.ix0, kEq_str, rBl_bl], fun hk => by
      have hk' : g.k ≠ ("lock" : Str) := by rw [of_decide_eq_true hk]; decide +kernel
      simp only [bBin_eq, bVarR_s, bVarR_z, bC_eq, bind_ok, g.ix2 hk']; rfl⟩
  refine (seqN (env' := [some (.frz, p.d), some (.bor, .lst (gs.map Gu.d)), some (.frz, .tup (fenD (lockedB gs) (flG gs) p.b.ds)), some (.frz, .tup [.str "variable", .str "lock"]), r4, r5, some (.own, .lst ((hidN gs).map D.str))]) (st1 := st) ?_).trans ?_
  · rw [sSet_eq, c2]; rfl
  rw [sRet_eq]
  simp only [bTup_eq, lCons_eq, lNil_eq, bBin_eq, bVarR_s, bVarR_z, bVarR_z1, bVar_s, bVar_z, bC_eq, bind_ok, pr_ix0, pr_ix1, kNotIn_strsL, out_ok, fin_ret]
  unfold prC
  rw [hsh]
  rfl
theorem prC_no (gs : List Gu) (p : Pr) (h : p.sh = false) : prC gs p = p.d := by
  unfold prC Pr.d
  rw [h]; rfl
theorem ev_lguarded (n : Nat) {m1 : Md} (h : Ho) (G : HoG h) (gs : List Gu) (hlen : gs.length ≤ 100) (st : Sto) :
    interp delta (n + 2) "_law_guarded" [(m1, h.d), (.rd, .lst (gs.map Gu.d))] st = .ok (.tup [.lst (h.as.map hdD), .lst (h.cs.map fun co => chgD (ownG gs co.n) co)]) st := by
  have hz := sz6
  have hs : slotA (m1, h.d) = some (.frz, h.d) := by cases m1 <;> rfl
  rw [run_law_guarded, hs]
  show fin (sh_law_guarded _ [some (.frz, h.d), some (.bor, .lst (gs.map Gu.d)), none, none, none, none, none, none, none] st) = _
  unfold sh_law_guarded
  refine (seqN (env' := [some (.frz, h.d), some (.bor, .lst (gs.map Gu.d)), some (.own, .lst []), none, none, none, none, none, none]) (st1 := st) rfl).trans ?_
  have turn : ∀ (co : Co), CoG co → ∀ (acc : List D) (s4 s6 s7 s8 : NC.Slot), acc.length ≤ 1000 → ∃ r4 r6 r7 r8, lb_law_guarded_1 (interp delta (n + 1)) [some (.frz, h.d), some (.bor, .lst (gs.map Gu.d)), some (.own, .lst acc), some (.frz, co.d), s4, none, s6, s7, s8] st =
      .next [some (.frz, h.d), some (.bor, .lst (gs.map Gu.d)), some (.own, .lst (acc ++ [chgD (ownG gs co.n) co])), some (.frz, co.d), r4, none, r6, r7, r8] st := by
    intro co W acc s4 s6 s7 s8 hle
    have hol : (ownG gs co.n).length ≤ 100 := Nat.le_trans (List.length_filter_le _ _) hlen
    have hc : bComp [5] (iVarC 1) (tgName 5) (bTst (bBin kEq (bBin kIx (bVarR 5) (bC (D.int 1))) (bBin kIx (bVarR 3) (bC (D.int 0))))) (bVar 5) [some (.frz, h.d), some (.bor, .lst (gs.map Gu.d)), some (.own, .lst acc), some (.frz, co.d), s4, none, s6, s7, s8] st = .ok (.lst ((ownG gs co.n).map Gu.d)) st :=
      comp_ex Gu.d gs _ _ rfl fun g hg => ⟨[some (.frz, h.d), some (.bor, .lst (gs.map Gu.d)), some (.own, .lst acc), some (.frz, co.d), s4, some (.frz, g.d), s6, s7, s8], rfl, by
        simp only [bTst_eq, bBin_eq, bVarR_s, bVarR_z, bC_eq, bind_ok, Gu.ix1, co_ix0, kEq_str, rBl_bl], fun _ => rfl⟩
    generalize ownG gs co.n = own at hol hc ⊢
    have hvl := W.v
    have hpl := W.ps
    have c1 : bComp [5] (iVarC 4) (tgName 5) cYes (bSl (bVarR 5) oNone (oSome (bC (D.int 1)))) [some (.frz, h.d), some (.bor, .lst (gs.map Gu.d)), some (.own, .lst acc), some (.frz, co.d), some (.own, .lst (own.map Gu.d)), none, some (.frz, .tup (co.vs.map vrD)), s7, s8] st = .ok (.lst (own.map fun g => D.tup [.str g.k])) st :=
      comp_all Gu.d own _ rfl fun g hg => ⟨[some (.frz, h.d), some (.bor, .lst (gs.map Gu.d)), some (.own, .lst acc), some (.frz, co.d), some (.own, .lst (own.map Gu.d)), some (.frz, g.d), some (.frz, .tup (co.vs.map vrD)), s7, s8], rfl, by
        simp only [bSl_eq, bVarR_s, bVarR_z, bind_ok, oNone_eq, oSome_eq, bC_eq, toO_int, Gu.cut1]⟩
    have hin := in_lock own st
    have hps : ∀ (ps : List Pr), (∀ p ∈ ps, PrG p) → ∀ (a7 : List D) (s6 s8 : NC.Slot), a7.length + ps.length ≤ 1000 → ∃ r8, forL (tgName 8) (lb_law_guarded_0 (interp delta (n + 1))) (ps.map Pr.d) [some (.frz, h.d), some (.bor, .lst (gs.map Gu.d)), some (.own, .lst acc), some (.frz, co.d), some (.own, .lst (own.map Gu.d)), none, s6, some (.own, .lst a7), s8] st =
        .next [some (.frz, h.d), some (.bor, .lst (gs.map Gu.d)), some (.own, .lst acc), some (.frz, co.d), some (.own, .lst (own.map Gu.d)), none, s6, some (.own, .lst (a7 ++ ps.map (prC own))), r8] st := by
      intro ps
      induction ps with
      | nil => intro _ a7 s6 s8 _; exact ⟨s8, by simp⟩
      | cons p ps ih =>
        intro hW a7 s6 s8 hle
        rw [List.length_cons] at hle
        have hp := hW p (List.mem_cons_self ..)
        obtain ⟨r8, e⟩ := ih (fun x hx => hW x (List.mem_cons_of_mem _ hx)) (a7 ++ [prC own p]) s6 (some (.frz, p.d)) (by rw [List.length_append, List.length_singleton]; omega)
        refine ⟨r8, ?_⟩
        rw [List.map_cons, forL_name _ _ _ _ (by simp)]
        simp only [List.set_cons_succ, List.set_cons_zero]
        have e1 : lb_law_guarded_0 (interp delta (n + 1)) [some (.frz, h.d), some (.bor, .lst (gs.map Gu.d)), some (.own, .lst acc), some (.frz, co.d), some (.own, .lst (own.map Gu.d)), none, s6, some (.own, .lst a7), some (.frz, p.d)] st = .next [some (.frz, h.d), some (.bor, .lst (gs.map Gu.d)), some (.own, .lst acc), some (.frz, co.d), some (.own, .lst (own.map Gu.d)), none, s6, some (.own, .lst (a7 ++ [prC own p])), some (.frz, p.d)] st := by
          unfold lb_law_guarded_0
          rw [sIf_eq, bTru_eq]
          simp only [bBin_eq, bVarR_s, bVarR_z, bC_eq, bind_ok, pr_ix2, rTru_bl, outB_ok]
          cases hsh : p.sh with
          | true =>
            have hf : ∀ {m1 : Md}, interp delta (n + 1) "_law_fenced" [(m1, p.d), (.rd, .lst (own.map Gu.d))] st = .ok (prC own p) st := ev_lfenced n p hp own hol hsh st
            simp only [if_true, sApp_E]
            show appE _ _ _ _ (some (some (.own, .lst a7))) = _
            rw [appE_own]
            simp only [bDef_eq, lCons_eq, lNil_eq, bVarR_s, bVarR_z, bVarR_z1, bind_ok, List.zip_cons_cons, List.zip_nil_right, hf, out_ok]
            rw [appO_of _ _ _ (by omega)]
            rfl
          | false =>
            simp only [Bool.false_eq_true, if_false, sApp_E]
            show appE _ _ _ _ (some (some (.own, .lst a7))) = _
            rw [appE_own, prC_no own p hsh]
            simp only [bVar_s, bVar_z, out_ok]
            rw [appO_of _ _ _ (by omega)]
            rfl
        rw [e1, turn_next, e, List.append_assoc]; rfl
    obtain ⟨r8, e8⟩ := hps co.ps W.p [] (some (.frz, .tup (if lockedB own = true then co.vs.map vrD ++ [lkV] else co.vs.map vrD))) s8 (by rw [List.length_nil]; omega)
    refine ⟨some (.own, .lst (own.map Gu.d)), some (.frz, .tup (if lockedB own = true then co.vs.map vrD ++ [lkV] else co.vs.map vrD)), some (.own, .lst (co.ps.map (prC own))), r8, ?_⟩
    unfold lb_law_guarded_1
    rw [sCons_eq, sSet_eq, hc]
    simp only [out_ok, slotOf_lst, List.length_cons, List.length_nil]
    rw [if_pos (by decide)]
    simp only [List.set_cons_succ, List.set_cons_zero, seq_next]
    rw [sCons_eq, sAsg_eq]
    simp only [bBin_eq, bVarR_s, bVarR_z, bC_eq, bind_ok, co_ix1, out_ok, setE_name]
    rw [if_pos (by simp)]
    simp only [List.set_cons_succ, List.set_cons_zero, seq_next]
    rw [sCons_eq, sIf_eq, bTst_eq, bBin_eq]
    simp only [bTup_eq, lCons_eq, lNil_eq, bC_eq, bind_ok, c1, hin, rBl_bl, outB_ok]
    have mid : (if lockedB own = true then (sSet 6 (bBin kAdd (bVarR 6) (bTup (lCons (bTup (lCons (bC (D.str "lock")) (lCons (bC (D.int 2)) (lCons (bC (D.int 0)) lNil)))) lNil)))) [some (.frz, h.d), some (.bor, .lst (gs.map Gu.d)), some (.own, .lst acc), some (.frz, co.d), some (.own, .lst (own.map Gu.d)), none, some (.frz, .tup (co.vs.map vrD)), s7, s8] st
        else sNil [some (.frz, h.d), some (.bor, .lst (gs.map Gu.d)), some (.own, .lst acc), some (.frz, co.d), some (.own, .lst (own.map Gu.d)), none, some (.frz, .tup (co.vs.map vrD)), s7, s8] st) =
        .next [some (.frz, h.d), some (.bor, .lst (gs.map Gu.d)), some (.own, .lst acc), some (.frz, co.d), some (.own, .lst (own.map Gu.d)), none, some (.frz, .tup (if lockedB own = true then co.vs.map vrD ++ [lkV] else co.vs.map vrD)), s7, s8] st := by
      cases lockedB own with
      | false => rfl
      | true =>
        simp only [if_true]
        rw [sSet_eq, bBin_eq]
        simp only [bVarR_s, bVarR_z, bTup_eq, lCons_eq, lNil_eq, bC_eq, bind_ok, kAdd_tup, List.length_cons, List.length_nil, List.length_map]
        rw [if_pos (by omega)]
        rfl
    rw [mid, seq_next, sCons_eq, sSet_eq, bLst_eq, lNil_eq, bind_ok, out_ok]
    simp only [slotOf_lst, List.length_cons, List.length_nil]
    rw [if_pos (by decide)]
    simp only [List.set_cons_succ, List.set_cons_zero, seq_next]
    rw [sCons_eq, sFor_L, iSeq_tup _ _ (show (bBin kIx (bVarR 3) (bC (D.int 3))) _ st = .ok (.tup (co.ps.map Pr.d)) st by simp only [bBin_eq, bVarR_s, bVarR_z, bC_eq, bind_ok, co_ix3]), outL_ok, e8, seq_next, sApp_E]
    show appE _ _ _ _ (some (some (.own, .lst acc))) = _
    rw [appE_own]
    simp only [bTup_eq, lCons_eq, lNil_eq, bBin_eq, bCall_eq, bVarR_s, bVarR_z, bVarR_z1, bVar_s, bVar_z, bC_eq, bind_ok, co_ix0, co_ix2, kTuple_lst, out_ok, List.nil_append]
    rw [appO_of _ _ _ (by omega)]
    rfl
  have hloop : ∀ (cs : List Co), (∀ co ∈ cs, CoG co) → ∀ (acc : List D) (s3 s4 s6 s7 s8 : NC.Slot), acc.length + cs.length ≤ 1000 →
      ∃ r3 r4 r6 r7 r8, forL (tgName 3) (lb_law_guarded_1 (interp delta (n + 1))) (cs.map Co.d) [some (.frz, h.d), some (.bor, .lst (gs.map Gu.d)), some (.own, .lst acc), s3, s4, none, s6, s7, s8] st = .next [some (.frz, h.d), some (.bor, .lst (gs.map Gu.d)), some (.own, .lst (acc ++ cs.map fun co => chgD (ownG gs co.n) co)), r3, r4, none, r6, r7, r8] st := by
    intro cs
    induction cs with
    | nil => intro _ acc s3 s4 s6 s7 s8 _; exact ⟨s3, s4, s6, s7, s8, by simp⟩
    | cons co cs ih =>
      intro hW acc s3 s4 s6 s7 s8 hle
      rw [List.length_cons] at hle
      obtain ⟨q4, q6, q7, q8, e1⟩ := turn co (hW co (List.mem_cons_self ..)) acc s4 s6 s7 s8 (by omega)
      obtain ⟨r3, r4, r6, r7, r8, e⟩ := ih (fun x hx => hW x (List.mem_cons_of_mem _ hx)) (acc ++ [chgD (ownG gs co.n) co]) (some (.frz, co.d)) q4 q6 q7 q8 (by rw [List.length_append, List.length_singleton]; omega)
      refine ⟨r3, r4, r6, r7, r8, ?_⟩
      rw [List.map_cons, forL_name _ _ _ _ (by simp)]
      simp only [List.set_cons_succ, List.set_cons_zero]
      rw [e1, turn_next, e, List.append_assoc]; rfl
  have hcl := G.cl
  obtain ⟨r3, r4, r6, r7, r8, e⟩ := hloop h.cs G.c [] none none none none none (by rw [List.length_nil]; omega)
  rw [List.nil_append] at e
  generalize (h.cs.map fun co => chgD (ownG gs co.n) co) = xs at e ⊢
  refine (seqN (env' := [some (.frz, h.d), some (.bor, .lst (gs.map Gu.d)), some (.own, .lst xs), r3, r4, none, r6, r7, r8]) (st1 := st) ?_).trans ?_
  · rw [sFor_L, iSeq_lst _ _ (show (bBin kIx (bVarR 0) (bC (D.int 1))) _ st = .ok (.lst (h.cs.map Co.d)) st by simp only [bBin_eq, bVarR_z, bC_eq, bind_ok, ho_ix1]), outL_ok]
    exact e
  rfl
end K40

namespace NC
open PySem L2
theorem plains_mem {ds : List D} (h : D.plains ds = true) : ∀ d ∈ ds, d.plain = true := by
  induction ds with
  | nil => intro d hd; cases hd
  | cons e r ih =>
    rw [D.plains, Bool.and_eq_true] at h
    intro d hd
    rcases List.mem_cons.mp hd with rfl | hd
    · exact h.1
    · exact ih h.2 d hd
theorem deps_mem {ds : List D} {n : Nat} (h : D.deps ds ≤ n) : ∀ d ∈ ds, d.dep ≤ n := by
  induction ds with
  | nil => intro d hd; cases hd
  | cons e r ih =>
    rw [D.deps] at h
    intro d hd
    rcases List.mem_cons.mp hd with rfl | hd
    · omega
    · exact ih (by omega) d hd
theorem gp_inv {n : Nat} {ds : List D} (h : gdP (n + 1) (.tup ds)) : ∀ d ∈ ds, gdP n d := fun d hd =>
  ⟨plains_mem (by have := h.1; rwa [D.plain] at this) d hd, deps_mem (by have := h.2; rw [D.dep] at this; omega) d hd⟩
theorem gp_app {n : Nat} {xs ys : List D} (h1 : ∀ d ∈ xs, gdP n d) (h2 : ∀ d ∈ ys, gdP n d) : ∀ d ∈ xs ++ ys, gdP n d := fun d hd => by
  rcases List.mem_append.mp hd with hd | hd
  · exact h1 d hd
  · exact h2 d hd
theorem gp_all {n : Nat} {ds : List D} (h : D.plains ds = true) (h2 : D.deps ds ≤ n) : ∀ d ∈ ds, gdP n d := fun d hd => ⟨plains_mem h d hd, deps_mem h2 d hd⟩
theorem lk1_gd : ∀ d ∈ lk1, gdP 12 d := gp_all (by decide +kernel) (by decide +kernel)
theorem lk2_gd : ∀ d ∈ lk2, gdP 12 d := gp_all (by decide +kernel) (by decide +kernel)
theorem flD_gd (g : Gu) (h : g.ok) : gdP 12 (flD g) := by
  have l : ∀ w ∈ [("need" : Str), "=", "<", "have", "number"], PyData.strOk w = true := by decide +kernel
  have h2 : PyData.strOk (gu2 g) = true := by
    cases g with
    | hide c p => exact h.2
    | lock c => show PyData.strOk "" = true; decide +kernel
    | floor c a n => exact h.2
  refine (gp2 (n := 4) (gp_str (l _ (by simp))) (gp3 (gp_str (l _ (by simp))) (gp3 (n := 2) (gp_str (l _ (by simp))) (gp2 (n := 1) (gp_str (l _ (by simp))) (gp_str h2)) (gp2 (n := 1) (gp_str (l _ (by simp))) gp_int)) ?_)).mono (by omega)
  exact gp2 (n := 2) (gp_str (l _ (by simp))) gp_int
theorem prC_gd {p : Pr} (W : PrG p) {own : List Gu} (ho : ∀ g ∈ own, g.ok) : gdP 14 (prC own p) := by
  have hd := W.d
  have hb : ∀ d ∈ p.b.ds, gdP 10 d := gp_inv (gp_inv hd _ (by simp))
  have hb' : ∀ d ∈ p.b.ds, gdP 12 d := fun d hd => (hb d hd).mono (by omega)
  refine gp4 (n := 13) (gp_str W.n) gp_int gp_bl (gp_tup (n := 12) ?_)
  split
  · unfold fenD
    refine gp_app ?_ (gp_map fun g hg => flD_gd g (ho g (List.mem_filter.mp hg).1))
    split
    · exact gp_app (gp_app lk1_gd hb') lk2_gd
    · exact hb'
  · exact hb'
theorem chgD_gd {co : Co} (W : CoG co) {own : List Gu} (ho : ∀ g ∈ own, g.ok) : gdP 20 (chgD own co) := by
  have hi := gp_inv W.d
  have hv : ∀ d ∈ co.vs.map vrD, gdP 14 d := gp_inv (hi (.tup (co.vs.map vrD)) (by simp))
  have hh := hi (.tup (co.hs.map hdD)) (by simp)
  refine gp4 (n := 19) (gp_str W.n) ((gp_tup (n := 14) ?_).mono (by omega)) (hh.mono (by omega)) ((gp_tup (n := 14) (gp_map fun p hp => prC_gd (W.p p hp) ho)).mono (by omega))
  split
  · refine gp_app hv fun d hd => ?_
    rw [List.mem_singleton.mp hd]
    exact (gp3 (n := 0) (gp_str (by decide +kernel)) gp_int gp_int).mono (by omega)
  · exact hv
def bd : Option Nat → D
  | none => .non
  | some j => .int (j : Nat)
theorem firstBad_snoc (h : Ho) (g : Gu) : ∀ (r pre : List Gu), firstBad h pre (r ++ [g]) = match firstBad h pre r with
    | some j => some j
    | none => if (!fitsB h.as h.cs g || decide (g ∈ pre ++ r)) = true then some (pre ++ r).length else none
  | [], pre => by
    rw [List.nil_append, List.append_nil]
    unfold firstBad
    rw [firstBad]
  | x :: r, pre => by
    rw [List.cons_append]
    unfold firstBad
    by_cases hb : (!fitsB h.as h.cs x || decide (x ∈ pre)) = true
    · rw [if_pos hb, if_pos hb]
    · rw [if_neg hb, if_neg hb, firstBad_snoc h g r (pre ++ [x]), List.append_assoc]
      try rfl
end NC
namespace K40
open PySem L2 NC
theorem eq_house (n : Nat) {st : Sto} {a b : Nat} {A C : D} (ha : st[a]? = some (hoC A C)) (hb : st[b]? = some (hoC A C)) (gA : gdP 30 A) (gC : gdP 30 C) : kEqO (interp delta (n + 1)) tab___eq__ (.loc a) (.loc b) st = .ok (.bl true) st := by
  rw [kEqO_loc (x := "House.__eq__") ha hb (by rfl), run_House___eq__]
  unfold sh_House___eq__
  have hi : NC.isC mi_House st (.loc b) = .ok (.bl true) st := by
    unfold NC.isC
    simp only [hb]
    rw [show mi_House "House" = some true by decide +kernel]
  have a1 : getF "assets" st (.loc a) = .ok A st := getF_of ha rfl
  have a2 : getF "assets" st (.loc b) = .ok A st := getF_of hb rfl
  have c1 : getF "contracts" st (.loc a) = .ok C st := getF_of ha rfl
  have c2 : getF "contracts" st (.loc b) = .ok C st := getF_of hb rfl
  have hx : (bIsC mi_House (bVarR 1)) [slotA (.esc, .loc a), slotA (.esc, .loc b)] st = .ok (.bl true) st := by
    unfold bIsC
    rw [slotA_esc, slotA_esc, bVarR_s, bVarR_z, bind_ok, hi]
  rw [sRet_eq, bAndV_eq, hx]
  simp only [rBl_bl, bind_ok, if_true, bAndV_eq, bBin_eq, bAttr_eq, slotA_esc, bVarR_s, bVarR_z, a1, a2, c1, c2, kEq_self gA, kEq_self gC, out_ok, fin_ret, onlyB_bl]
theorem ev_made (n : Nat) {m : Md} (h : Ho) (st : Sto) : interp delta (n + 3) "_law_made" [(m, h.d)] st = .ok (.loc st.length) (st ++ [hoL h]) := by
  have hs : slotA (m, h.d) = some (.frz, h.d) := by cases m <;> rfl
  rw [run_law_made, hs]
  unfold sh_law_made
  simp only [sRet_eq, bMk_eq, lCons_eq, bCall_eq, bBin_eq, bVarR_z, bC_eq, bind_ok, ho_ix0, ho_ix1, lNil_eq, kTuple_lst, List.zip_cons_cons, List.zip_nil_right, List.map_nil, List.append_nil]
  have hmk : interp delta (n + 2) "House" [(.rd, .tup (h.as.map hdD)), (.rd, .tup (h.cs.map Co.d))] st = _ := ev_mk_House n st (.tup (h.as.map hdD)) (.tup (h.cs.map Co.d)) (h.as.map hdD) (h.cs.map Co.d) (fun _ => rfl) (fun _ => rfl) (fun m r st => by simp) (fun m r st => by simp)
  rw [hmk]
  rfl
theorem ev_isint (n : Nat) {m : Md} (i : Int) (st : Sto) : interp delta (n + 1) "_law_is_integer" [(m, .int i)] st = .ok (.bl true) st := by
  rw [run_law_is_integer]
  simp [sh_law_is_integer, isiV_int_int, isiV_bool_int]
/-- the turns that look for a wrong guard -/
theorem loop_lbad (n : Nat) (h : Ho) (G : HoG h) (gs : List Gu) (go : ∀ g ∈ gs, g.ok) (hlen : gs.length ≤ 100) (s0 s2 s4 s5 : NC.Slot) (st : Sto) :
    ∃ r7, forL (tgName 7) (lb_law_0 (interp delta (n + 1))) (rngD 0 (gs.length : Nat)) [s0, some (.frz, h.d), s2, some (.own, .lst (gs.map Gu.d)), s4, s5, some (.frz, .non), none, none, none, none] st =
      .next [s0, some (.frz, h.d), s2, some (.own, .lst (gs.map Gu.d)), s4, s5, some (.frz, bd (firstBad h [] gs)), r7, none, none, none] st := by
  obtain ⟨e', st', l1, r7, l2, l3⟩ := forL_inv (t := tgName 7) (b := lb_law_0 (interp delta (n + 1)))
    (fun i env st' => ∃ r7, st' = st ∧ env = [s0, some (.frz, h.d), s2, some (.own, .lst (gs.map Gu.d)), s4, s5, some (.frz, bd (firstBad h [] (gs.take i))), r7, none, none, none])
    (ds := rngD 0 (gs.length : Nat)) (fun i d env st' hd ⟨r7, h0, he⟩ => by
      subst h0 he
      obtain ⟨rfl, hi⟩ := rngD_get hd
      have hk : i < gs.length := by omega
      rw [show ((0 : Int) + (i : Nat)) = ((i : Nat) : Int) by omega]
      refine ⟨[s0, some (.frz, h.d), s2, some (.own, .lst (gs.map Gu.d)), s4, s5, some (.frz, bd (firstBad h [] (gs.take i))), some (.frz, .int (i : Nat)), none, none, none], _, st', rfl, .inl ?_, some (.frz, .int (i : Nat)), rfl, rfl⟩
      have hg : gs[i].ok := go _ (List.getElem_mem hk)
      have hix : ∀ st, kIx (.lst (gs.map Gu.d)) (.int (i : Nat)) st = .ok gs[i].d st := fun st => kIx_lst_of (atI_nat (by rw [List.getElem?_map, List.getElem?_eq_getElem hk]; rfl))
      have hpre : ∀ x ∈ gs.take i, x.ok := fun x hx => go x (List.mem_of_mem_take hx)
      have hin := in_gu hg hpre st'
      have hfit : ∀ {m1 m2 : Md}, interp delta (n + 1) "_law_fits" [(m1, h.d), (m2, gs[i].d)] st' = .ok (.bl (fitsB h.as h.cs gs[i])) st' := ev_lfits n st' h G gs[i] hg
      have hcut : cutD (gs.map Gu.d) none (some ((i : Nat) : Int)) = (gs.take i).map Gu.d := cut_takeM Gu.d gs i
      have hsn := firstBad_snoc h gs[i] (gs.take i) []
      have htk : gs.take (i + 1) = gs.take i ++ [gs[i]] := by rw [List.take_succ, List.getElem?_eq_getElem hk]; rfl
      rw [htk, hsn]
      have htl : (([] : List Gu) ++ gs.take i).length = i := by rw [List.nil_append, List.length_take]; omega
      unfold lb_law_0
      rw [sIf_eq, bAndT_eq]
      cases hf : firstBad h [] (gs.take i) with
      | some j =>
        rfl
      | none =>
        simp only [bd, bTst_eq, bIsN_eq, bVarR_s, bVarR_z, bind_ok, isN_non, rBl_bl, if_true, bOrT_eq, bNotT_eq, bTru_eq, bDef_eq, lCons_eq, lNil_eq, bBin_eq, bVarR_z1, hix, List.zip_cons_cons, List.zip_nil_right, hfit, rTru_bl]
        cases hfi : fitsB h.as h.cs gs[i] with
        | false =>
          simp only [Bool.not_false, if_true, outB_ok, sAsg_eq, bVar_s, bVar_z, out_ok, setE_name]
          rw [if_pos (by simp)]
          simp only [Bool.true_or, if_true, htl]
          rfl
        | true =>
          simp only [Bool.not_true, Bool.false_eq_true, if_false, bSl_eq, oNone_eq, oSome_eq, bVarR_s, bVarR_z, bVarR_z1, bind_ok, toO_int, kSl_lst, hcut, hin, rBl_bl, outB_ok, Bool.false_or, List.nil_append]
          by_cases hm : gs[i] ∈ gs.take i
          · simp only [hm, decide_true, if_true, sAsg_eq, bVar_s, bVar_z, out_ok, setE_name]
            rw [if_pos (by simp)]
            rw [List.nil_append] at htl
            rw [htl]
            rfl
          · simp only [hm, decide_false, Bool.false_eq_true, if_false, sNil_eq]) (env := [s0, some (.frz, h.d), s2, some (.own, .lst (gs.map Gu.d)), s4, s5, some (.frz, .non), none, none, none, none]) (st := st) ⟨none, rfl, rfl⟩
  refine ⟨r7, ?_⟩
  rw [l1, l3, l2, rngD_len]
  rw [show gs.take ((gs.length : Nat) - (0 : Int)).toNat = gs by rw [show (((gs.length : Nat) : Int) - 0).toNat = gs.length by omega, List.take_length]]
end K40

namespace K40
open PySem L2 NC
abbrev lvl : Nat := 20
theorem if_yesB {c : FB} {a b : FS} {env : Ev} {st st1 : Sto} {x : Bool} (h : c env st = .ok x st1) : sIf c a b env st = (if x = true then a env st1 else b env st1) := by rw [sIf_eq, h, outB_ok]
theorem ev_law (ns : List Int) (hl : ns.length ≤ 63) : ∃ st', interp delta lvl "law" [(.esc, .lst (ns.map D.int))] [] = .ok (.bl true) st' := by
  have hz := sz6
  obtain ⟨h0, hok, hlen, _, eh⟩ := ev_house ns 11 .rd .rd .rd .rd 0 2 (by decide) (by decide) false []
  have hl4 : h0.cs.length ≤ 4 := Nat.le_trans hlen (by decide)
  obtain ⟨c7, ec7⟩ := ev_cellx (ns := ns) 18 7 (by decide) (m1 := .rd) (m2 := .rd) []
  show ∃ st', interp delta (19 + 1) "law" _ _ = _
  rw [run_law]
  show Yes (sh_law (interp delta 19)) _ []
  unfold sh_law
  rw [slotA_esc]
  refine asg_yes (d := h0.d) (st1 := []) ?_ (by simp) ?_
  · simp only [bDef_eq, lCons_eq, bVarR_z, bC_eq, bind_ok, lNil_eq, List.zip_cons_cons, List.zip_nil_right]
    exact eh
  have hhouse : ∃ (h : Ho) (st : Sto), HoG h ∧ (sIf (bTst (bBin kEq (bBin kMod (bCall kInt (lCons (bDef (interp delta 19) "_law_cell" [.rd, .rd] (lCons (bVarR 0) (lCons (bC (D.int 7)) lNil))) lNil)) (bC (D.int 3))) (bC (D.int 1))))
    (sAsg (tgName 1) (bDef (interp delta 19) "_law_called" [.rd] (lCons (bVarR 1) lNil))) sNil) [some (.frz, .lst (ns.map D.int)), some (.frz, h0.d), none, none, none, none, none, none, none, none, none] [] = .next [some (.frz, .lst (ns.map D.int)), some (.frz, h.d), none, none, none, none, none, none, none, none, none] st := by
    have hcond : (bTst (bBin kEq (bBin kMod (bCall kInt (lCons (bDef (interp delta 19) "_law_cell" [.rd, .rd] (lCons (bVarR 0) (lCons (bC (D.int 7)) lNil))) lNil)) (bC (D.int 3))) (bC (D.int 1)))) [some (.frz, .lst (ns.map D.int)), some (.frz, h0.d), none, none, none, none, none, none, none, none, none] [] = .ok (decide (c7 % 3 = 1)) [] := by
      have e : interp delta 19 "_law_cell" [(.rd, .lst (ns.map D.int)), (.rd, .int 7)] [] = .ok (.int c7) [] := ec7
      simp only [bTst_eq, bBin_eq, bCall_eq, bDef_eq, lCons_eq, lNil_eq, bVarR_z, bC_eq, bind_ok, List.zip_cons_cons, List.zip_nil_right, e, kInt_int, kMod_int]
      rw [if_pos (by decide)]
      simp only [bind_ok, kEq_int, rBl_bl]
    by_cases b : c7 % 3 = 1
    · refine ⟨h0.ren ren, [.dic false tb1], ho_g ren_ok hok hl4, ?_⟩
      have e : interp delta 19 "_law_called" [(.rd, h0.d)] [] = .ok (h0.ren ren).d ([] ++ [.dic false tb1]) := ev_called 12 h0 (ho_n hok hl4) []
      rw [if_yesB hcond, if_pos (by simp [b])]
      simp only [sAsg_eq, bDef_eq, lCons_eq, lNil_eq, bVarR_s, bVarR_z, bind_ok, List.zip_cons_cons, List.zip_nil_right, e, out_ok, setE_name]
      rw [if_pos (by simp)]
      rfl
    · refine ⟨h0, [], by have := ho_g (f := id) (by decide +kernel) hok hl4; rwa [Ho.ren_id] at this, ?_⟩
      rw [if_yesB hcond, if_neg (by simp [b])]
      rfl
  obtain ⟨h, st0, G, ehouse⟩ := hhouse
  refine stm_yes ehouse ?_
  clear ehouse eh ec7
  have mk : ∀ st, interp delta 19 "_law_made" [(.rd, h.d)] st = .ok (.loc st.length) (st ++ [hoL h]) := fun st => ev_made 16 h st
  refine asg_yes (d := .loc st0.length) (st1 := st0 ++ [hoL h]) ?_ (by simp) ?_
  · simp only [bDef_eq, lCons_eq, lNil_eq, bVarR_s, bVarR_z, bind_ok, List.zip_cons_cons, List.zip_nil_right, mk]
  have hl0 : (st0 ++ [hoL h])[st0.length]? = some (hoL h) := get_mid st0 [] _
  generalize st0.length = l0 at hl0 ⊢
  generalize (st0 ++ [hoL h]) = st at hl0 ⊢
  show Yes _ [some (.frz, .lst (ns.map D.int)), some (.frz, h.d), some (.frz, .loc l0), none, none, none, none, none, none, none, none] st
  -- the guards
  have hg1 : ∀ c : Int, ∃ g : Gu, g.ok ∧ bDef (interp delta 19) "_law_guarding" [.esc, .rd, .rd] (lCons (bDef (interp delta 19) "_law_guard" [.rd, .rd] (lCons (bVarR 4) (lCons (bVarR 1) lNil))) (lCons (bVarR 1) (lCons (bBin kFdiv (bCall kAbs (lCons (bVarR 4) lNil)) (bC (D.int 5))) lNil))) [some (.frz, .lst (ns.map D.int)), some (.frz, h.d), some (.frz, .loc l0), none, some (.frz, .int c), none, none, none, none, none, none] st = .ok g.d st := fun c => by
    obtain ⟨g1, o1, e1⟩ := ev_guard 18 (m1 := .rd) (m2 := .rd) c h G st
    obtain ⟨g2, o2, e2⟩ := ev_guarding 18 (m1 := .esc) (m2 := .rd) (m3 := .rd) g1 o1 h G ((if c < 0 then -c else c) / 5) st
    refine ⟨g2, o2, ?_⟩
    have e1' : interp delta 19 "_law_guard" [(.rd, .int c), (.rd, h.d)] st = .ok g1.d st := e1
    have e2' : interp delta 19 "_law_guarding" [(.esc, g1.d), (.rd, h.d), (.rd, .int ((if c < 0 then -c else c) / 5))] st = .ok g2.d st := e2
    simp only [bDef_eq, lCons_eq, lNil_eq, bVarR_s, bVarR_z, bind_ok, List.zip_cons_cons, List.zip_nil_right, e1', bBin_eq, bCall_eq, kAbs_int, bC_eq, kFdiv_int]
    rw [if_pos (by decide)]
    simp only [bind_ok, List.zip_cons_cons, List.zip_nil_right, e2']
  have hcut : ∃ cs : List Int, cs.length ≤ 63 ∧ cutD (ns.map D.int) (some 8) (some 14) = cs.map D.int := by
    unfold cutD
    refine ⟨(ns.drop _).take _, ?_, by rw [List.map_take, List.map_drop]⟩
    rw [List.length_take, List.length_drop]; omega
  obtain ⟨cs, hcl, hcut⟩ := hcut
  have hgs : ∃ gs : List Gu, gs.length ≤ 63 ∧ (∀ g ∈ gs, g.ok) ∧ bComp [4] (iSeq (bSl (bVarR 0) (oSome (bC (D.int 8))) (oSome (bC (D.int 14))))) (tgName 4) cYes (bDef (interp delta 19) "_law_guarding" [.esc, .rd, .rd] (lCons (bDef (interp delta 19) "_law_guard" [.rd, .rd] (lCons (bVarR 4) (lCons (bVarR 1) lNil))) (lCons (bVarR 1) (lCons (bBin kFdiv (bCall kAbs (lCons (bVarR 4) lNil)) (bC (D.int 5))) lNil)))) [some (.frz, .lst (ns.map D.int)), some (.frz, h.d), some (.frz, .loc l0), none, none, none, none, none, none, none, none] st = .ok (.lst (gs.map Gu.d)) st := by
    refine ⟨cs.map fun c => Classical.choose (hg1 c), by rw [List.length_map]; exact hcl, fun g hg => ?_, ?_⟩
    · obtain ⟨c, _, rfl⟩ := List.mem_map.mp hg
      exact (Classical.choose_spec (hg1 c)).1
    · rw [List.map_map]
      exact comp_all D.int cs _ (iSeq_lst _ _ (by simp only [bSl_eq, bVarR_z, bind_ok, oSome_eq, bC_eq, toO_int, kSl_lst, hcut])) fun c hc => ⟨[some (.frz, .lst (ns.map D.int)), some (.frz, h.d), some (.frz, .loc l0), none, some (.frz, .int c), none, none, none, none, none, none], rfl, (Classical.choose_spec (hg1 c)).2⟩
  obtain ⟨gs, hgl, go, egs⟩ := hgs
  refine set_yes egs (by simp) ?_
  clear egs hg1 hcut
  show Yes _ [some (.frz, .lst (ns.map D.int)), some (.frz, h.d), some (.frz, .loc l0), some (.own, .lst (gs.map Gu.d)), none, none, none, none, none, none, none] st
  refine set_yes (d := .lst (gs.map Gu.d)) rfl (by simp) ?_
  refine set_yes (d := .non) rfl (by simp) ?_
  show Yes _ [some (.frz, .lst (ns.map D.int)), some (.frz, h.d), some (.frz, .loc l0), some (.own, .lst (gs.map Gu.d)), none, some (.own, .lst (gs.map Gu.d)), some (.frz, .non), none, none, none, none] st
  obtain ⟨r7, e7⟩ := loop_lbad 18 h G gs go (by omega) (some (.frz, .lst (ns.map D.int))) (some (.frz, .loc l0)) none (some (.own, .lst (gs.map Gu.d))) st
  refine stm_yes (env' := [some (.frz, .lst (ns.map D.int)), some (.frz, h.d), some (.frz, .loc l0), some (.own, .lst (gs.map Gu.d)), none, some (.own, .lst (gs.map Gu.d)), some (.frz, bd (firstBad h [] gs)), r7, none, none, none]) (st1 := st) ?_ ?_
  · rw [sFor_L, iRng1D_int _ (gs.length : Nat) (by simp) ⟨by omega, by omega⟩, outL_ok]
    exact e7
  clear e7
  have ggd : gdP 2 (.lst (gs.map Gu.d)) := gp_lst (gp_map fun g hg => g.gd (go g hg))
  cases hb : firstBad h [] gs with
  | some j =>
    have hb' : interp delta 19 "guarded" [(.rd, .loc l0), (.esc, .lst (gs.map Gu.d))] st = .exc ⟨"BadGuard", [("at", .int (j : Nat))]⟩ st := ev_guarded_bad 15 hl0 gs go (by omega) j hb
    generalize hE : ([some (.frz, .lst (ns.map D.int)), some (.frz, h.d), some (.frz, .loc l0), some (.frz, .lst (gs.map Gu.d)), none, some (.own, .lst (gs.map Gu.d)), some (.frz, bd (some j)), r7, none, some (.exc, .tup [.str "BadGuard", .str "at", .int (j : Nat)]), none] : Ev) = e9
    have x1 : bXisT 9 [mx_BadAct, mx_BadHouse, mx_BadPaper, mx_BadText, mx_TooLarge] e9 st = .ok (.bl false) st := by
      subst hE
      unfold bXisT
      simp only [List.getElem?_cons_succ, List.getElem?_cons_zero]
      rw [show anyMt [mx_BadAct, mx_BadHouse, mx_BadPaper, mx_BadText, mx_TooLarge] "BadGuard" = some false by decide +kernel]
    have x2 : bXis 9 mx_BadGuard e9 st = .ok (.bl true) st := by
      subst hE
      unfold bXis
      simp only [List.getElem?_cons_succ, List.getElem?_cons_zero]
      rw [show mx_BadGuard "BadGuard" = some true by decide +kernel]
    have x3 : bXat 9 xc_at "at" e9 st = .ok (.int (j : Nat)) st := by
      subst hE
      unfold bXat
      simp only [List.getElem?_cons_succ, List.getElem?_cons_zero]
      rw [if_pos (by decide +kernel)]
    have x4 : interp delta 19 "_law_is_integer" [(.rd, .int (j : Nat))] st = .ok (.bl true) st := ev_isint 18 (j : Nat) st
    have v6 : bVarR 6 e9 st = .ok (.int (j : Nat)) st := by subst hE; rfl
    have v3 : bVarR 3 e9 st = .ok (.lst (gs.map Gu.d)) st := by subst hE; rfl
    have v5 : bVarR 5 e9 st = .ok (.lst (gs.map Gu.d)) st := by subst hE; rfl
    have key : (sCons (sIf (bOrT (bTru (bXisT 9 [mx_BadAct, mx_BadHouse, mx_BadPaper, mx_BadText, mx_TooLarge])) (bTst (bBin kNe (bVarR 3) (bVarR 5))))
      (sRet (bC (D.bl false)))
      sNil)
      (sRet (bAndV (bNotN (bVarR 6)) (bAndV (bXis 9 mx_BadGuard) (bAndV (bDef (interp delta 19) "_law_is_integer" [.rd] (lCons (bXat 9 xc_at "at") lNil)) (bBin kEq (bXat 9 xc_at "at") (bVarR 6))))))) e9 st = .ret (.bl true) st := by
      rw [sCons_eq, sIf_eq, bOrT_eq, bTru_eq, x1]
      simp only [rTru_bl, bind_ok, Bool.false_eq_true, if_false, bTst_eq, bBin_eq, v3, v5, kNe_self ggd, rBl_bl, outB_ok, sNil_eq, seq_next]
      rw [sRet_eq, bAndV_eq, bNotN_eq, v6]
      simp only [bind_ok, notN_int, rBl_bl, if_true, bAndV_eq, x2, bDef_eq, lCons_eq, lNil_eq, x3, List.zip_cons_cons, List.zip_nil_right, x4, bBin_eq, v6, kEq_int, decide_true, out_ok]
    refine ⟨st, ?_⟩
    rw [sCons_eq]
    unfold sTry
    have eb : (sFrz [3] (sAsg (tgName 8) (bDef (interp delta 19) "guarded" [.rd, .esc] (lCons (bVarR 2) (lCons (bVar 3) lNil))))) [some (.frz, .lst (ns.map D.int)), some (.frz, h.d), some (.frz, .loc l0), some (.own, .lst (gs.map Gu.d)), none, some (.own, .lst (gs.map Gu.d)), some (.frz, bd (some j)), r7, none, none, none] st =
        .exc ⟨"BadGuard", [("at", .int (j : Nat))]⟩ [some (.frz, .lst (ns.map D.int)), some (.frz, h.d), some (.frz, .loc l0), some (.frz, .lst (gs.map Gu.d)), none, some (.own, .lst (gs.map Gu.d)), some (.frz, bd (some j)), r7, none, none, none] st := by
      rw [sFrz_eq]
      show (sAsg _ _) [some (.frz, .lst (ns.map D.int)), some (.frz, h.d), some (.frz, .loc l0), some (.frz, .lst (gs.map Gu.d)), none, some (.own, .lst (gs.map Gu.d)), some (.frz, bd (some j)), r7, none, none, none] st = _
      simp only [sAsg_eq, bDef_eq, lCons_eq, lNil_eq, bVarR_s, bVarR_z, bVar_s, bVar_z, bind_ok, List.zip_cons_cons, List.zip_nil_right, hb', out_exc]
    rw [eb]
    dsimp only
    rw [show mt_HouseError "BadGuard" = some true by decide +kernel]
    dsimp only
    rw [if_pos (by simp)]
    rw [show ([some (.frz, .lst (ns.map D.int)), some (.frz, h.d), some (.frz, .loc l0), some (.frz, .lst (gs.map Gu.d)), none, some (.own, .lst (gs.map Gu.d)), some (.frz, bd (some j)), r7, none, none, none] : Ev).set 9 (some (.exc, .tup [.str "BadGuard", .str "at", .int (j : Nat)])) = e9 from hE, key]
    rfl
  | none =>
    have hb' : interp delta 19 "guarded" [(.rd, .loc l0), (.esc, .lst (gs.map Gu.d))] st = .ok (.loc st.length) (st ++ [hoC (.tup (h.as.map hdD)) (.tup (h.cs.map fun co => chgD (ownG gs co.n) co))]) := ev_guarded 15 G hl0 gs go (by omega) hb
    have gC : gdP 30 (.tup (h.cs.map fun co => chgD (ownG gs co.n) co)) := (gp_tup (n := 20) (gp_map fun co hco => chgD_gd (G.c co hco) fun g hg => go g (List.mem_filter.mp hg).1)).mono (by omega)
    have gA : gdP 30 (.tup (h.as.map hdD)) := (gp_tup (n := 2) (gp_map fun a ha => (G.a a ha).1)).mono (by omega)
    have gK : gdP 30 (.tup (h.cs.map Co.d)) := (gp_tup (n := 16) (gp_map fun co hco => (G.c co hco).d)).mono (by omega)
    have lg : ∀ st, interp delta 19 "_law_guarded" [(.rd, h.d), (.rd, .lst (gs.map Gu.d))] st = .ok (.tup [.lst (h.as.map hdD), .lst (h.cs.map fun co => chgD (ownG gs co.n) co)]) st := fun st => ev_lguarded 17 h G gs (by omega) st
    have mk : ∀ st, interp delta 19 "_law_made" [(.rd, h.d)] st = .ok (.loc st.length) (st ++ [hoL h]) := mk
    generalize (h.cs.map fun co => chgD (ownG gs co.n) co) = xs at hb' gC lg
    refine stm_yes (env' := [some (.frz, .lst (ns.map D.int)), some (.frz, h.d), some (.frz, .loc l0), some (.frz, .lst (gs.map Gu.d)), none, some (.own, .lst (gs.map Gu.d)), some (.frz, .non), r7, some (.frz, .loc st.length), none, none]) (st1 := st ++ [hoC (.tup (h.as.map hdD)) (.tup xs)]) ?_ ?_
    · unfold sTry
      have eb : (sFrz [3] (sAsg (tgName 8) (bDef (interp delta 19) "guarded" [.rd, .esc] (lCons (bVarR 2) (lCons (bVar 3) lNil))))) [some (.frz, .lst (ns.map D.int)), some (.frz, h.d), some (.frz, .loc l0), some (.own, .lst (gs.map Gu.d)), none, some (.own, .lst (gs.map Gu.d)), some (.frz, bd none), r7, none, none, none] st =
          .next [some (.frz, .lst (ns.map D.int)), some (.frz, h.d), some (.frz, .loc l0), some (.frz, .lst (gs.map Gu.d)), none, some (.own, .lst (gs.map Gu.d)), some (.frz, .non), r7, some (.frz, .loc st.length), none, none] (st ++ [hoC (.tup (h.as.map hdD)) (.tup xs)]) := by
        rw [sFrz_eq]
        show (sAsg _ _) [some (.frz, .lst (ns.map D.int)), some (.frz, h.d), some (.frz, .loc l0), some (.frz, .lst (gs.map Gu.d)), none, some (.own, .lst (gs.map Gu.d)), some (.frz, bd none), r7, none, none, none] st = _
        simp only [sAsg_eq, bDef_eq, lCons_eq, lNil_eq, bVarR_s, bVarR_z, bVar_s, bVar_z, bind_ok, List.zip_cons_cons, List.zip_nil_right, hb', out_ok, setE_name]
        rw [if_pos (by simp)]
        rfl
      rw [eb]
    have h8 : (st ++ [hoC (.tup (h.as.map hdD)) (.tup xs)])[st.length]? = some (hoC (.tup (h.as.map hdD)) (.tup xs)) := get_mid st [] _
    have h2 := keep_at (T := [hoC (.tup (h.as.map hdD)) (.tup xs)]) hl0
    generalize (st ++ [hoC (.tup (h.as.map hdD)) (.tup xs)]) = st2 at h8 h2 ⊢
    generalize st.length = l8 at h8 ⊢
    refine asg_yes (d := .tup [.lst (h.as.map hdD), .lst xs]) (st1 := st2) ?_ (by simp) ?_
    · simp only [bDef_eq, lCons_eq, lNil_eq, bVarR_s, bVarR_z, bind_ok, List.zip_cons_cons, List.zip_nil_right, lg]
    show Yes _ [some (.frz, .lst (ns.map D.int)), some (.frz, h.d), some (.frz, .loc l0), some (.frz, .lst (gs.map Gu.d)), none, some (.own, .lst (gs.map Gu.d)), some (.frz, .non), r7, some (.frz, .loc l8), none, some (.frz, .tup [.lst (h.as.map hdD), .lst xs])] st2
    refine if_no (or_no (no_of ?_) fun T => or_no (no_of ?_) fun T2 => not_no (T := [hoL h]) ?_) fun T => ?_
    · rfl
    · simp only [bTst_eq, bBin_eq, bVarR_s, bVarR_z, bVarR_z1, bind_ok, kNe_self ggd, rBl_bl]
    · have h3 := keep_at (T := [hoL h]) (keep_at (T := T2) (keep_at (T := T) h2))
      have h4 : (st2 ++ T ++ T2 ++ [hoL h])[(st2 ++ T ++ T2).length]? = some (hoL h) := get_mid _ [] _
      have e : kEqO (interp delta 19) tab___eq__ (.loc l0) (.loc (st2 ++ T ++ T2).length) (st2 ++ T ++ T2 ++ [hoL h]) = .ok (.bl true) (st2 ++ T ++ T2 ++ [hoL h]) := eq_house 18 h3 h4 gA gK
      simp only [bTst_eq, bBin_eq, bDef_eq, lCons_eq, lNil_eq, bVarR_s, bVarR_z, bind_ok, List.zip_cons_cons, List.zip_nil_right, mk, e, rBl_bl]
    · have h9 := keep_at (T := T) h8
      have a1 : getF "assets" (st2 ++ T) (.loc l8) = .ok (.tup (h.as.map hdD)) (st2 ++ T) := getF_of h9 rfl
      have c1 : getF "contracts" (st2 ++ T) (.loc l8) = .ok (.tup xs) (st2 ++ T) := getF_of h9 rfl
      have t0 : kIx (.tup [.lst (h.as.map hdD), .lst xs]) (.int 0) (st2 ++ T) = .ok (.lst (h.as.map hdD)) (st2 ++ T) := kIx_tup_of atI_0
      have t1 : kIx (.tup [.lst (h.as.map hdD), .lst xs]) (.int 1) (st2 ++ T) = .ok (.lst xs) (st2 ++ T) := kIx_tup_of atI_1
      refine ⟨st2 ++ T, ?_⟩
      rw [sRet_eq, bAndV_eq]
      simp only [bBin_eq, bAttr_eq, bCall_eq, lCons_eq, lNil_eq, bVarR_s, bVarR_z, bC_eq, bind_ok, a1, c1, t0, t1, kTuple_lst, kEq_self gA, kEq_self gC, rBl_bl, if_true, out_ok, fin_ret]
end K40

namespace K40
open PySem L2 NC
structure Facts (P : Program) (K : PySem.W.Frag) (mg : Str → Option Value) : Prop where
  d_guarded : DefAt K mg "guarded" (topS 12)
  d_fits : DefAt K mg "fits" (topS 13)
  d_changed : DefAt K mg "changed" (topS 14)
  d_fenced : DefAt K mg "fenced" (topS 15)
  d_law_cell : DefAt K mg "_law_cell" (topS 17)
  d_law_is_integer : DefAt K mg "_law_is_integer" (topS 18)
  d_law_row : DefAt K mg "_law_row" (topS 19)
  d_law_expression : DefAt K mg "_law_expression" (topS 20)
  d_law_statement : DefAt K mg "_law_statement" (topS 21)
  d_law_body : DefAt K mg "_law_body" (topS 22)
  d_law_contract : DefAt K mg "_law_contract" (topS 23)
  d_law_house : DefAt K mg "_law_house" (topS 24)
  d_law_guard : DefAt K mg "_law_guard" (topS 25)
  d_law_fits : DefAt K mg "_law_fits" (topS 26)
  d_law_fenced : DefAt K mg "_law_fenced" (topS 27)
  d_law_guarded : DefAt K mg "_law_guarded" (topS 28)
  d_law_made : DefAt K mg "_law_made" (topS 29)
  d_law_called : DefAt K mg "_law_called" (topS 30)
  d_law_called_value : DefAt K mg "_law_called_value" (topS 31)
  d_law_called_block : DefAt K mg "_law_called_block" (topS 32)
  d_law_guarding : DefAt K mg "_law_guarding" (topS 33)
  d_law : DefAt K mg "law" (topS 34)
  c_House : ClsAt K mg "House"
  e_House___init__ : MethAt K "House" "__init__" "House.__init__" (mS 9 0)
  e_House___eq__ : MethAt K "House" "__eq__" "House.__eq__" (mS 9 1)
  q_BadText : ExcAt P K mg "BadText" "at"
  q_BadAct : ExcAt P K mg "BadAct" "at"
  q_TooLarge : ExcAt P K mg "TooLarge" "what"
  q_BadGuard : ExcAt P K mg "BadGuard" "at"
  q_BadPaper : ExcAt P K mg "BadPaper" "at"
  q_BadHouse : ExcAt P K mg "BadHouse" "what"
  stc : ∀ M : Mo, M.mg = mg → M.T = Tx K → M.hot = false → Stc M
theorem all_ok {P : Program} {w : World} {K : PySem.W.Frag} {mg : Str → Option Value} {base : Heap} (F : Facts P K mg) : ∀ n, Rt (MoN P w (Tx K) mg base delta n) := by
  intro n
  induction n with
  | zero =>
    have e_House___init__ : MethOk (MoN P w (Tx K) mg base delta 0) "House" "__init__" "House.__init__" := methOk_zero (ps := ["self", "assets", "contracts"]) F.e_House___init__ (fun _ _ _ _ _ _ us hl => match us, hl with | [_, _, _], _ => rfl)
    have e_House___eq__ : MethOk (MoN P w (Tx K) mg base delta 0) "House" "__eq__" "House.__eq__" := methOk_zero (ps := ["self", "other"]) F.e_House___eq__ (fun _ _ _ _ _ _ us hl => match us, hl with | [_, _], _ => rfl)
    refine ⟨fun x hx => ?_, ⟨fun x hx => by simp only [knownH, List.contains_iff_mem, List.mem_cons, List.not_mem_nil, or_false] at hx; rcases hx with rfl <;> first | exact callOkH_zero (ps := ["_law_actual"]) F.d_law_is_integer (fun _ _ _ _ _ _ us hl => match us, hl with | [_], _ => rfl)⟩, raiseOk_zero F.q_BadText, raiseOk_zero F.q_BadAct, raiseOk_zero F.q_TooLarge, raiseOk_zero F.q_BadGuard, raiseOk_zero F.q_BadPaper, raiseOk_zero F.q_BadHouse, makeOk_zero F.c_House e_House___init__, e_House___init__, e_House___eq__⟩
    simp only [known, List.contains_iff_mem, List.mem_cons, List.not_mem_nil, or_false] at hx
    rcases hx with rfl | rfl | rfl | rfl | rfl | rfl | rfl | rfl | rfl | rfl | rfl | rfl | rfl | rfl | rfl | rfl | rfl | rfl | rfl | rfl | rfl | rfl
    · exact callOk_zero (ps := ["house", "guards"]) F.d_guarded (fun _ _ _ _ _ _ us hl => match us, hl with | [_, _], _ => rfl)
    · exact callOk_zero (ps := ["house", "guard"]) F.d_fits (fun _ _ _ _ _ _ us hl => match us, hl with | [_, _], _ => rfl)
    · exact callOk_zero (ps := ["contract", "guards"]) F.d_changed (fun _ _ _ _ _ _ us hl => match us, hl with | [_, _], _ => rfl)
    · exact callOk_zero (ps := ["block", "locked", "floors"]) F.d_fenced (fun _ _ _ _ _ _ us hl => match us, hl with | [_, _, _], _ => rfl)
    · exact callOk_zero (ps := ["_law_script", "_law_k"]) F.d_law_cell (fun _ _ _ _ _ _ us hl => match us, hl with | [_, _], _ => rfl)
    · exact callOk_zero (ps := ["_law_actual"]) F.d_law_is_integer (fun _ _ _ _ _ _ us hl => match us, hl with | [_], _ => rfl)
    · exact callOk_zero (ps := ["_law_cell_here", "_law_count", "_law_size"]) F.d_law_row (fun _ _ _ _ _ _ us hl => match us, hl with | [_, _, _], _ => rfl)
    · exact callOk_zero (ps := ["_law_cell_here", "_law_names", "_law_assets"]) F.d_law_expression (fun _ _ _ _ _ _ us hl => match us, hl with | [_, _, _], _ => rfl)
    · exact callOk_zero (ps := ["_law_cell_here", "_law_names", "_law_assets", "_law_known", "_law_asks"]) F.d_law_statement (fun _ _ _ _ _ _ us hl => match us, hl with | [_, _, _, _, _], _ => rfl)
    · exact callOk_zero (ps := ["_law_cells", "_law_names", "_law_assets", "_law_known", "_law_asks"]) F.d_law_body (fun _ _ _ _ _ _ us hl => match us, hl with | [_, _, _, _, _], _ => rfl)
    · exact callOk_zero (ps := ["_law_name", "_law_cells", "_law_assets", "_law_known", "_law_asks", "_law_small"]) F.d_law_contract (fun _ _ _ _ _ _ us hl => match us, hl with | [_, _, _, _, _, _], _ => rfl)
    · exact callOk_zero (ps := ["_law_script", "_law_at", "_law_many", "_law_small"]) F.d_law_house (fun _ _ _ _ _ _ us hl => match us, hl with | [_, _, _, _], _ => rfl)
    · exact callOk_zero (ps := ["_law_cell_here", "_law_house_here"]) F.d_law_guard (fun _ _ _ _ _ _ us hl => match us, hl with | [_, _], _ => rfl)
    · exact callOk_zero (ps := ["_law_house_here", "_law_guard_here"]) F.d_law_fits (fun _ _ _ _ _ _ us hl => match us, hl with | [_, _], _ => rfl)
    · exact callOk_zero (ps := ["_law_proc", "_law_own"]) F.d_law_fenced (fun _ _ _ _ _ _ us hl => match us, hl with | [_, _], _ => rfl)
    · exact callOk_zero (ps := ["_law_house_here", "_law_guards"]) F.d_law_guarded (fun _ _ _ _ _ _ us hl => match us, hl with | [_, _], _ => rfl)
    · exact callOk_zero (ps := ["_law_house_here"]) F.d_law_made (fun _ _ _ _ _ _ us hl => match us, hl with | [_], _ => rfl)
    · exact callOk_zero (ps := ["_law_house_here"]) F.d_law_called (fun _ _ _ _ _ _ us hl => match us, hl with | [_], _ => rfl)
    · exact callOk_zero (ps := ["_law_value", "_law_names"]) F.d_law_called_value (fun _ _ _ _ _ _ us hl => match us, hl with | [_, _], _ => rfl)
    · exact callOk_zero (ps := ["_law_block", "_law_names"]) F.d_law_called_block (fun _ _ _ _ _ _ us hl => match us, hl with | [_, _], _ => rfl)
    · exact callOk_zero (ps := ["_law_guard_here", "_law_house_here", "_law_cell_here"]) F.d_law_guarding (fun _ _ _ _ _ _ us hl => match us, hl with | [_, _, _], _ => rfl)
    · exact callOk_zero (ps := ["_law_script"]) F.d_law (fun _ _ _ _ _ _ us hl => match us, hl with | [_], _ => rfl)
  | succ n ih =>
    have hs := F.stc (MoN P w (Tx K) mg base delta n) rfl rfl rfl
    have e_House___init__ : MethOk (MoN P w (Tx K) mg base delta (n + 1)) "House" "__init__" "House.__init__" := methOk_succ F.e_House___init__ sc_House___init__ (fun _ _ _ _ _ _ us hl => match us, hl with | [_, _, _], _ => rfl) (snd_House___init__ hs ih) rfl
    have e_House___eq__ : MethOk (MoN P w (Tx K) mg base delta (n + 1)) "House" "__eq__" "House.__eq__" := methOk_succ F.e_House___eq__ sc_House___eq__ (fun _ _ _ _ _ _ us hl => match us, hl with | [_, _], _ => rfl) (snd_House___eq__ hs ih) rfl
    refine ⟨fun x hx => ?_, ⟨fun x hx => by simp only [knownH, List.contains_iff_mem, List.mem_cons, List.not_mem_nil, or_false] at hx; rcases hx with rfl <;> first | exact callOkH_succ F.d_law_is_integer sc_law_is_integer (fun _ _ _ _ _ _ us hl => match us, hl with | [_], _ => rfl) (sndH_law_is_integer hs.hotS ih.hotR) rfl⟩, raiseOk_succ F.q_BadText rfl, raiseOk_succ F.q_BadAct rfl, raiseOk_succ F.q_TooLarge rfl, raiseOk_succ F.q_BadGuard rfl, raiseOk_succ F.q_BadPaper rfl, raiseOk_succ F.q_BadHouse rfl, makeOk_succ F.c_House ih.m_House___init__ rfl, e_House___init__, e_House___eq__⟩
    simp only [known, List.contains_iff_mem, List.mem_cons, List.not_mem_nil, or_false] at hx
    rcases hx with rfl | rfl | rfl | rfl | rfl | rfl | rfl | rfl | rfl | rfl | rfl | rfl | rfl | rfl | rfl | rfl | rfl | rfl | rfl | rfl | rfl | rfl
    · exact callOk_succ F.d_guarded sc_guarded (fun _ _ _ _ _ _ us hl => match us, hl with | [_, _], _ => rfl) (snd_guarded hs ih) rfl
    · exact callOk_succ F.d_fits sc_fits (fun _ _ _ _ _ _ us hl => match us, hl with | [_, _], _ => rfl) (snd_fits hs ih) rfl
    · exact callOk_succ F.d_changed sc_changed (fun _ _ _ _ _ _ us hl => match us, hl with | [_, _], _ => rfl) (snd_changed hs ih) rfl
    · exact callOk_succ F.d_fenced sc_fenced (fun _ _ _ _ _ _ us hl => match us, hl with | [_, _, _], _ => rfl) (snd_fenced hs ih) rfl
    · exact callOk_succ F.d_law_cell sc_law_cell (fun _ _ _ _ _ _ us hl => match us, hl with | [_, _], _ => rfl) (snd_law_cell hs ih) rfl
    · exact callOk_succ F.d_law_is_integer sc_law_is_integer (fun _ _ _ _ _ _ us hl => match us, hl with | [_], _ => rfl) (snd_law_is_integer hs ih) rfl
    · exact callOk_succ F.d_law_row sc_law_row (fun _ _ _ _ _ _ us hl => match us, hl with | [_, _, _], _ => rfl) (snd_law_row hs ih) rfl
    · exact callOk_succ F.d_law_expression sc_law_expression (fun _ _ _ _ _ _ us hl => match us, hl with | [_, _, _], _ => rfl) (snd_law_expression hs ih) rfl
    · exact callOk_succ F.d_law_statement sc_law_statement (fun _ _ _ _ _ _ us hl => match us, hl with | [_, _, _, _, _], _ => rfl) (snd_law_statement hs ih) rfl
    · exact callOk_succ F.d_law_body sc_law_body (fun _ _ _ _ _ _ us hl => match us, hl with | [_, _, _, _, _], _ => rfl) (snd_law_body hs ih) rfl
    · exact callOk_succ F.d_law_contract sc_law_contract (fun _ _ _ _ _ _ us hl => match us, hl with | [_, _, _, _, _, _], _ => rfl) (snd_law_contract hs ih) rfl
    · exact callOk_succ F.d_law_house sc_law_house (fun _ _ _ _ _ _ us hl => match us, hl with | [_, _, _, _], _ => rfl) (snd_law_house hs ih) rfl
    · exact callOk_succ F.d_law_guard sc_law_guard (fun _ _ _ _ _ _ us hl => match us, hl with | [_, _], _ => rfl) (snd_law_guard hs ih) rfl
    · exact callOk_succ F.d_law_fits sc_law_fits (fun _ _ _ _ _ _ us hl => match us, hl with | [_, _], _ => rfl) (snd_law_fits hs ih) rfl
    · exact callOk_succ F.d_law_fenced sc_law_fenced (fun _ _ _ _ _ _ us hl => match us, hl with | [_, _], _ => rfl) (snd_law_fenced hs ih) rfl
    · exact callOk_succ F.d_law_guarded sc_law_guarded (fun _ _ _ _ _ _ us hl => match us, hl with | [_, _], _ => rfl) (snd_law_guarded hs ih) rfl
    · exact callOk_succ F.d_law_made sc_law_made (fun _ _ _ _ _ _ us hl => match us, hl with | [_], _ => rfl) (snd_law_made hs ih) rfl
    · exact callOk_succ F.d_law_called sc_law_called (fun _ _ _ _ _ _ us hl => match us, hl with | [_], _ => rfl) (snd_law_called hs ih) rfl
    · exact callOk_succ F.d_law_called_value sc_law_called_value (fun _ _ _ _ _ _ us hl => match us, hl with | [_, _], _ => rfl) (snd_law_called_value hs ih) rfl
    · exact callOk_succ F.d_law_called_block sc_law_called_block (fun _ _ _ _ _ _ us hl => match us, hl with | [_, _], _ => rfl) (snd_law_called_block hs ih) rfl
    · exact callOk_succ F.d_law_guarding sc_law_guarding (fun _ _ _ _ _ _ us hl => match us, hl with | [_, _, _], _ => rfl) (snd_law_guarding hs ih) rfl
    · exact callOk_succ F.d_law sc_law (fun _ _ _ _ _ _ us hl => match us, hl with | [_], _ => rfl) (snd_law hs ih) rfl
theorem facts_mk {P : Program} {K : PySem.W.Frag} {h : Heap} {mg : Str → Option Value} (X : K.In h) (G : h.Ns mainGlobals mg)
    (d_guarded : DefAt K mg "guarded" (topS 12))
    (d_fits : DefAt K mg "fits" (topS 13))
    (d_changed : DefAt K mg "changed" (topS 14))
    (d_fenced : DefAt K mg "fenced" (topS 15))
    (d_law_cell : DefAt K mg "_law_cell" (topS 17))
    (d_law_is_integer : DefAt K mg "_law_is_integer" (topS 18))
    (d_law_row : DefAt K mg "_law_row" (topS 19))
    (d_law_expression : DefAt K mg "_law_expression" (topS 20))
    (d_law_statement : DefAt K mg "_law_statement" (topS 21))
    (d_law_body : DefAt K mg "_law_body" (topS 22))
    (d_law_contract : DefAt K mg "_law_contract" (topS 23))
    (d_law_house : DefAt K mg "_law_house" (topS 24))
    (d_law_guard : DefAt K mg "_law_guard" (topS 25))
    (d_law_fits : DefAt K mg "_law_fits" (topS 26))
    (d_law_fenced : DefAt K mg "_law_fenced" (topS 27))
    (d_law_guarded : DefAt K mg "_law_guarded" (topS 28))
    (d_law_made : DefAt K mg "_law_made" (topS 29))
    (d_law_called : DefAt K mg "_law_called" (topS 30))
    (d_law_called_value : DefAt K mg "_law_called_value" (topS 31))
    (d_law_called_block : DefAt K mg "_law_called_block" (topS 32))
    (d_law_guarding : DefAt K mg "_law_guarding" (topS 33))
    (d_law : DefAt K mg "law" (topS 34))
    (c_House : ClsAt K mg "House")
    (e_House___init__ : MethAt K "House" "__init__" "House.__init__" (mS 9 0))
    (e_House___eq__ : MethAt K "House" "__eq__" "House.__eq__" (mS 9 1))
    (q_BadText : ExcAt P K mg "BadText" "at")
    (q_BadAct : ExcAt P K mg "BadAct" "at")
    (q_TooLarge : ExcAt P K mg "TooLarge" "what")
    (q_BadGuard : ExcAt P K mg "BadGuard" "at")
    (q_BadPaper : ExcAt P K mg "BadPaper" "at")
    (q_BadHouse : ExcAt P K mg "BadHouse" "what")
    {CE_y_HouseError : Addr} (ya_HouseError : PySem.W.nsIn K mainGlobals "HouseError" = some (some (.ref CE_y_HouseError)))
    (y_HouseError_BadText : PairAt (ExmR K) K "BadText" "HouseError" true)
    (y_HouseError_BadAct : PairAt (ExmR K) K "BadAct" "HouseError" true)
    (y_HouseError_TooLarge : PairAt (ExmR K) K "TooLarge" "HouseError" true)
    (y_HouseError_BadGuard : PairAt (ExmR K) K "BadGuard" "HouseError" true)
    (y_HouseError_BadPaper : PairAt (ExmR K) K "BadPaper" "HouseError" true)
    (y_HouseError_BadHouse : PairAt (ExmR K) K "BadHouse" "HouseError" true)
    {CE_z_BadAct : Addr} (za_BadAct : PySem.W.nsIn K mainGlobals "BadAct" = some (some (.ref CE_z_BadAct)))
    (z_BadAct_BadText : PairAt (IsxR K) K "BadText" "BadAct" false)
    (z_BadAct_BadAct : PairAt (IsxR K) K "BadAct" "BadAct" true)
    (z_BadAct_TooLarge : PairAt (IsxR K) K "TooLarge" "BadAct" false)
    (z_BadAct_BadGuard : PairAt (IsxR K) K "BadGuard" "BadAct" false)
    (z_BadAct_BadPaper : PairAt (IsxR K) K "BadPaper" "BadAct" false)
    (z_BadAct_BadHouse : PairAt (IsxR K) K "BadHouse" "BadAct" false)
    {CE_z_BadHouse : Addr} (za_BadHouse : PySem.W.nsIn K mainGlobals "BadHouse" = some (some (.ref CE_z_BadHouse)))
    (z_BadHouse_BadText : PairAt (IsxR K) K "BadText" "BadHouse" false)
    (z_BadHouse_BadAct : PairAt (IsxR K) K "BadAct" "BadHouse" false)
    (z_BadHouse_TooLarge : PairAt (IsxR K) K "TooLarge" "BadHouse" false)
    (z_BadHouse_BadGuard : PairAt (IsxR K) K "BadGuard" "BadHouse" false)
    (z_BadHouse_BadPaper : PairAt (IsxR K) K "BadPaper" "BadHouse" false)
    (z_BadHouse_BadHouse : PairAt (IsxR K) K "BadHouse" "BadHouse" true)
    {CE_z_BadPaper : Addr} (za_BadPaper : PySem.W.nsIn K mainGlobals "BadPaper" = some (some (.ref CE_z_BadPaper)))
    (z_BadPaper_BadText : PairAt (IsxR K) K "BadText" "BadPaper" false)
    (z_BadPaper_BadAct : PairAt (IsxR K) K "BadAct" "BadPaper" false)
    (z_BadPaper_TooLarge : PairAt (IsxR K) K "TooLarge" "BadPaper" false)
    (z_BadPaper_BadGuard : PairAt (IsxR K) K "BadGuard" "BadPaper" false)
    (z_BadPaper_BadPaper : PairAt (IsxR K) K "BadPaper" "BadPaper" true)
    (z_BadPaper_BadHouse : PairAt (IsxR K) K "BadHouse" "BadPaper" false)
    {CE_z_BadText : Addr} (za_BadText : PySem.W.nsIn K mainGlobals "BadText" = some (some (.ref CE_z_BadText)))
    (z_BadText_BadText : PairAt (IsxR K) K "BadText" "BadText" true)
    (z_BadText_BadAct : PairAt (IsxR K) K "BadAct" "BadText" false)
    (z_BadText_TooLarge : PairAt (IsxR K) K "TooLarge" "BadText" false)
    (z_BadText_BadGuard : PairAt (IsxR K) K "BadGuard" "BadText" false)
    (z_BadText_BadPaper : PairAt (IsxR K) K "BadPaper" "BadText" false)
    (z_BadText_BadHouse : PairAt (IsxR K) K "BadHouse" "BadText" false)
    {CE_z_TooLarge : Addr} (za_TooLarge : PySem.W.nsIn K mainGlobals "TooLarge" = some (some (.ref CE_z_TooLarge)))
    (z_TooLarge_BadText : PairAt (IsxR K) K "BadText" "TooLarge" false)
    (z_TooLarge_BadAct : PairAt (IsxR K) K "BadAct" "TooLarge" false)
    (z_TooLarge_TooLarge : PairAt (IsxR K) K "TooLarge" "TooLarge" true)
    (z_TooLarge_BadGuard : PairAt (IsxR K) K "BadGuard" "TooLarge" false)
    (z_TooLarge_BadPaper : PairAt (IsxR K) K "BadPaper" "TooLarge" false)
    (z_TooLarge_BadHouse : PairAt (IsxR K) K "BadHouse" "TooLarge" false)
    {CE_z_BadGuard : Addr} (za_BadGuard : PySem.W.nsIn K mainGlobals "BadGuard" = some (some (.ref CE_z_BadGuard)))
    (z_BadGuard_BadText : PairAt (IsxR K) K "BadText" "BadGuard" false)
    (z_BadGuard_BadAct : PairAt (IsxR K) K "BadAct" "BadGuard" false)
    (z_BadGuard_TooLarge : PairAt (IsxR K) K "TooLarge" "BadGuard" false)
    (z_BadGuard_BadGuard : PairAt (IsxR K) K "BadGuard" "BadGuard" true)
    (z_BadGuard_BadPaper : PairAt (IsxR K) K "BadPaper" "BadGuard" false)
    (z_BadGuard_BadHouse : PairAt (IsxR K) K "BadHouse" "BadGuard" false)
    {CE_i_House : Addr} (ia_House : PySem.W.nsIn K mainGlobals "House" = some (some (.ref CE_i_House)))
    (i_House_House : PairAt (IscR K) K "House" "House" true)
    (w_at_BadText : XfAt K "BadText" "at")
    (w_at_BadAct : XfAt K "BadAct" "at")
    (w_at_BadGuard : XfAt K "BadGuard" "at")
    (w_at_BadPaper : XfAt K "BadPaper" "at")
    {t_LOCK : Tok} (g_LOCK : PySem.W.nsIn K mainGlobals "LOCK" = some (some (.str "lock" t_LOCK)))
    (n_assets_House : NoAt K "House" "assets")
    (n_contracts_House : NoAt K "House" "contracts")
    (bn : ∀ x ∈ (["len", "range", "isinstance", "int", "bool", "str", "list", "tuple", "abs", "max", "min", "sum", "all", "any", "sorted", "enumerate", "zip", "dict", "reversed", "super"] : List Str), PySem.W.nsIn K mainGlobals x = some none) : Facts P K mg := by
  have stch : ∀ M : Mo, M.mg = mg → M.T = Tx K → StcH M := by
    intro M hm hT
    refine { bn := bn_of X G bn hm, g_LOCK := ?_, z_BadAct := ?_, z_BadHouse := ?_, z_BadPaper := ?_, z_BadText := ?_, z_TooLarge := ?_, z_BadGuard := ?_, w_at := ?_ }
    · exact globStr hm X G g_LOCK
    · rw [show M.mg = mg from hm, show M.T = Tx K from hT]
      refine tbl_mk (l := [("BadText", false), ("BadAct", true), ("TooLarge", false), ("BadGuard", false), ("BadPaper", false), ("BadHouse", false)]) X G za_BadAct ?_
      intro p hp
      simp only [List.mem_cons, List.not_mem_nil, or_false] at hp
      rcases hp with rfl | rfl | rfl | rfl | rfl | rfl
      · exact z_BadAct_BadText
      · exact z_BadAct_BadAct
      · exact z_BadAct_TooLarge
      · exact z_BadAct_BadGuard
      · exact z_BadAct_BadPaper
      · exact z_BadAct_BadHouse
    · rw [show M.mg = mg from hm, show M.T = Tx K from hT]
      refine tbl_mk (l := [("BadText", false), ("BadAct", false), ("TooLarge", false), ("BadGuard", false), ("BadPaper", false), ("BadHouse", true)]) X G za_BadHouse ?_
      intro p hp
      simp only [List.mem_cons, List.not_mem_nil, or_false] at hp
      rcases hp with rfl | rfl | rfl | rfl | rfl | rfl
      · exact z_BadHouse_BadText
      · exact z_BadHouse_BadAct
      · exact z_BadHouse_TooLarge
      · exact z_BadHouse_BadGuard
      · exact z_BadHouse_BadPaper
      · exact z_BadHouse_BadHouse
    · rw [show M.mg = mg from hm, show M.T = Tx K from hT]
      refine tbl_mk (l := [("BadText", false), ("BadAct", false), ("TooLarge", false), ("BadGuard", false), ("BadPaper", true), ("BadHouse", false)]) X G za_BadPaper ?_
      intro p hp
      simp only [List.mem_cons, List.not_mem_nil, or_false] at hp
      rcases hp with rfl | rfl | rfl | rfl | rfl | rfl
      · exact z_BadPaper_BadText
      · exact z_BadPaper_BadAct
      · exact z_BadPaper_TooLarge
      · exact z_BadPaper_BadGuard
      · exact z_BadPaper_BadPaper
      · exact z_BadPaper_BadHouse
    · rw [show M.mg = mg from hm, show M.T = Tx K from hT]
      refine tbl_mk (l := [("BadText", true), ("BadAct", false), ("TooLarge", false), ("BadGuard", false), ("BadPaper", false), ("BadHouse", false)]) X G za_BadText ?_
      intro p hp
      simp only [List.mem_cons, List.not_mem_nil, or_false] at hp
      rcases hp with rfl | rfl | rfl | rfl | rfl | rfl
      · exact z_BadText_BadText
      · exact z_BadText_BadAct
      · exact z_BadText_TooLarge
      · exact z_BadText_BadGuard
      · exact z_BadText_BadPaper
      · exact z_BadText_BadHouse
    · rw [show M.mg = mg from hm, show M.T = Tx K from hT]
      refine tbl_mk (l := [("BadText", false), ("BadAct", false), ("TooLarge", true), ("BadGuard", false), ("BadPaper", false), ("BadHouse", false)]) X G za_TooLarge ?_
      intro p hp
      simp only [List.mem_cons, List.not_mem_nil, or_false] at hp
      rcases hp with rfl | rfl | rfl | rfl | rfl | rfl
      · exact z_TooLarge_BadText
      · exact z_TooLarge_BadAct
      · exact z_TooLarge_TooLarge
      · exact z_TooLarge_BadGuard
      · exact z_TooLarge_BadPaper
      · exact z_TooLarge_BadHouse
    · rw [show M.mg = mg from hm, show M.T = Tx K from hT]
      refine tbl_mk (l := [("BadText", false), ("BadAct", false), ("TooLarge", false), ("BadGuard", true), ("BadPaper", false), ("BadHouse", false)]) X G za_BadGuard ?_
      intro p hp
      simp only [List.mem_cons, List.not_mem_nil, or_false] at hp
      rcases hp with rfl | rfl | rfl | rfl | rfl | rfl
      · exact z_BadGuard_BadText
      · exact z_BadGuard_BadAct
      · exact z_BadGuard_TooLarge
      · exact z_BadGuard_BadGuard
      · exact z_BadGuard_BadPaper
      · exact z_BadGuard_BadHouse
    · rw [show M.T = Tx K from hT]
      refine xf_mk (cs := xc_at) ?_
      intro c hc
      simp only [xc_at, List.mem_cons, List.not_mem_nil, or_false] at hc
      rcases hc with rfl | rfl | rfl | rfl
      · exact w_at_BadText
      · exact w_at_BadAct
      · exact w_at_BadGuard
      · exact w_at_BadPaper
  have stc : ∀ M : Mo, M.mg = mg → M.T = Tx K → M.hot = false → Stc M := by
    intro M hm hT hc
    refine { bn := bn_of X G bn hm, cold := hc, g_LOCK := ?_, f_assets := ?_, f_contracts := ?_, y_HouseError := ?_, i_House := ?_, hotS := ?_ }
    · exact globStr hm X G g_LOCK
    · exact noF_mk (cs := fc_assets) (by intro c hc; simp only [fc_assets, List.mem_cons, List.not_mem_nil, or_false] at hc; subst hc; exact n_assets_House) hT
    · exact noF_mk (cs := fc_contracts) (by intro c hc; simp only [fc_contracts, List.mem_cons, List.not_mem_nil, or_false] at hc; subst hc; exact n_contracts_House) hT
    · rw [show M.mg = mg from hm, show M.T = Tx K from hT]
      refine tbl_mk (l := [("BadText", true), ("BadAct", true), ("TooLarge", true), ("BadGuard", true), ("BadPaper", true), ("BadHouse", true)]) X G ya_HouseError ?_
      intro p hp
      simp only [List.mem_cons, List.not_mem_nil, or_false] at hp
      rcases hp with rfl | rfl | rfl | rfl | rfl | rfl
      · exact y_HouseError_BadText
      · exact y_HouseError_BadAct
      · exact y_HouseError_TooLarge
      · exact y_HouseError_BadGuard
      · exact y_HouseError_BadPaper
      · exact y_HouseError_BadHouse
    · rw [show M.mg = mg from hm, show M.T = Tx K from hT]
      refine tbl_mk (l := [("House", true)]) X G ia_House ?_
      intro p hp
      simp only [List.mem_cons, List.not_mem_nil, or_false] at hp
      rcases hp with rfl
      · exact i_House_House
    · exact stch _ hm hT
  exact ⟨d_guarded, d_fits, d_changed, d_fenced, d_law_cell, d_law_is_integer, d_law_row, d_law_expression, d_law_statement, d_law_body, d_law_contract, d_law_house, d_law_guard, d_law_fits, d_law_fenced, d_law_guarded, d_law_made, d_law_called, d_law_called_value, d_law_called_block, d_law_guarding, d_law, c_House, e_House___init__, e_House___eq__, q_BadText, q_BadAct, q_TooLarge, q_BadGuard, q_BadPaper, q_BadHouse, stc⟩
theorem walk {l : PySem.W.OpenLaw} {q : Program} {loose : List Str} {XP : (Str → Option Value) → Heap → Prop} {YP : World → Heap → Prop} {d : DefRec} {K : Params → PySem.W.Frag} (hn : l.most = some 63) (hdf : d.params.defaults = []) (hd : d.name = "law")
    (hY : ∀ (w : World) (h : Heap), YP w h → (K w.params).In h) (F : ∀ (w : World) (mg : Str → Option Value) (h : Heap), (K w.params).In h → h.Ns mainGlobals mg → Facts l.prog (K w.params) mg) :
    PySem.W.WalkO q loose XP YP l.row.toRowW d [] (fun f vs => PySem.call f vs) := by
  refine walk_of' (n := 63) (k := lvl) (x := "_law_script") (CX := fun w => L2N.CX l.prog w) (sp := fun w mg => spOf (Tx (K w.params)) (interp delta lvl) "law") hn (by decide) hdf ⟨rfl, by decide, by decide⟩ hY (fun w mg fa h KX G hfa => ?_) (fun w mg H a ns hl hO hS => ?_) fun w H s e s' z => noCX z
  · have Fc := F w mg h KX G
    obtain ⟨fa', fd, e1, F9⟩ := Fc.d_law.ex
    rw [hd, e1] at hfa
    cases hfa
    refine ⟨fd, fun s v => ?_, fun base KB GB => ?_⟩
    · obtain ⟨oc, od, kV, doc, pm, an, cdv, ct, osl, rfl, lk, hcd⟩ := F9.ex
      exact .of_eq rfl
    · have Fb := F w mg base KB GB
      exact fn_ok (T := Tx (K w.params)) (x := "law") F9 sc_law (snd_law (M := MoN l.prog w (Tx (K w.params)) mg base delta (lvl - 1)) (Fb.stc _ rfl rfl rfl) (all_ok Fb (lvl - 1))) fun as s => interp_eq (Δ := delta) (d := dfD 1 11 sh_law) rfl as s
  · obtain ⟨st', e⟩ := ev_law ns hl
    exact sp_law hS st' e
end K40
open PySem PySem.W PyProof.Rows
set_option maxRecDepth 100000 in
set_option maxHeartbeats 0 in
theorem PySem.Challenge.cw_nestcall_k40_guards_of_a_house_holds : PySem.Challenge.rw_nestcall_k40_guards_of_a_house.Holds := by
  w_on; o_law; k_head; (case hw => w_witness2)
  k_fill
  refine K40.walk (l := PySem.Challenge.rw_nestcall_k40_guards_of_a_house) rfl rfl rfl (fun w h Y => PySem.W.kIn_of Y) ?F
  case F =>
    intro w mg h KX G
    refine' K40.facts_mk KX G (NC.defAt_mk KX G ?a1 ?b1 ?c1 ?d1) (NC.defAt_mk KX G ?a2 ?b2 ?c2 ?d2) (NC.defAt_mk KX G ?a3 ?b3 ?c3 ?d3) (NC.defAt_mk KX G ?a4 ?b4 ?c4 ?d4) (NC.defAt_mk KX G ?a5 ?b5 ?c5 ?d5) (NC.defAt_mk KX G ?a6 ?b6 ?c6 ?d6) (NC.defAt_mk KX G ?a7 ?b7 ?c7 ?d7) (NC.defAt_mk KX G ?a8 ?b8 ?c8 ?d8) (NC.defAt_mk KX G ?a9 ?b9 ?c9 ?d9) (NC.defAt_mk KX G ?a10 ?b10 ?c10 ?d10) (NC.defAt_mk KX G ?a11 ?b11 ?c11 ?d11) (NC.defAt_mk KX G ?a12 ?b12 ?c12 ?d12) (NC.defAt_mk KX G ?a13 ?b13 ?c13 ?d13) (NC.defAt_mk KX G ?a14 ?b14 ?c14 ?d14) (NC.defAt_mk KX G ?a15 ?b15 ?c15 ?d15) (NC.defAt_mk KX G ?a16 ?b16 ?c16 ?d16) (NC.defAt_mk KX G ?a17 ?b17 ?c17 ?d17) (NC.defAt_mk KX G ?a18 ?b18 ?c18 ?d18) (NC.defAt_mk KX G ?a19 ?b19 ?c19 ?d19) (NC.defAt_mk KX G ?a20 ?b20 ?c20 ?d20) (NC.defAt_mk KX G ?a21 ?b21 ?c21 ?d21) (NC.defAt_mk KX G ?a22 ?b22 ?c22 ?d22) (NC.clsAt_mk KX G ?a23 ?b23 ?c23 ?d23 ?e23 ?f23 ?g23) (NC.methAt_mk ?a24 ?b24 ?c24 ?d24 ?e24 ?f24) (NC.methAt_mk ?a25 ?b25 ?c25 ?d25 ?e25 ?f25) (NC.excAt_mk KX G ?a26 ?lC26 ?sa26 ?exC26 ?tyC26 ?kC26 ?iC26 ?tI26 ?l26 ?cd26 ?hcode26 ?hcell26 ?sub26 ?sup26 ?opq26 ?nxt26 ?isV26 ?nof26 ?rv26 ?hvs26 ?hfile26 ?hp26 ?har26 ?S26 ?hks26 ?hev26 ?top26 ?ne26 ?db26 ?cdt26 ?hb26) (NC.excAt_mk KX G ?a27 ?lC27 ?sa27 ?exC27 ?tyC27 ?kC27 ?iC27 ?tI27 ?l27 ?cd27 ?hcode27 ?hcell27 ?sub27 ?sup27 ?opq27 ?nxt27 ?isV27 ?nof27 ?rv27 ?hvs27 ?hfile27 ?hp27 ?har27 ?S27 ?hks27 ?hev27 ?top27 ?ne27 ?db27 ?cdt27 ?hb27) (NC.excAt_mk KX G ?a28 ?lC28 ?sa28 ?exC28 ?tyC28 ?kC28 ?iC28 ?tI28 ?l28 ?cd28 ?hcode28 ?hcell28 ?sub28 ?sup28 ?opq28 ?nxt28 ?isV28 ?nof28 ?rv28 ?hvs28 ?hfile28 ?hp28 ?har28 ?S28 ?hks28 ?hev28 ?top28 ?ne28 ?db28 ?cdt28 ?hb28) (NC.excAt_mk KX G ?a29 ?lC29 ?sa29 ?exC29 ?tyC29 ?kC29 ?iC29 ?tI29 ?l29 ?cd29 ?hcode29 ?hcell29 ?sub29 ?sup29 ?opq29 ?nxt29 ?isV29 ?nof29 ?rv29 ?hvs29 ?hfile29 ?hp29 ?har29 ?S29 ?hks29 ?hev29 ?top29 ?ne29 ?db29 ?cdt29 ?hb29) (NC.excAt_mk KX G ?a30 ?lC30 ?sa30 ?exC30 ?tyC30 ?kC30 ?iC30 ?tI30 ?l30 ?cd30 ?hcode30 ?hcell30 ?sub30 ?sup30 ?opq30 ?nxt30 ?isV30 ?nof30 ?rv30 ?hvs30 ?hfile30 ?hp30 ?har30 ?S30 ?hks30 ?hev30 ?top30 ?ne30 ?db30 ?cdt30 ?hb30) (NC.excAt_mk KX G ?a31 ?lC31 ?sa31 ?exC31 ?tyC31 ?kC31 ?iC31 ?tI31 ?l31 ?cd31 ?hcode31 ?hcell31 ?sub31 ?sup31 ?opq31 ?nxt31 ?isV31 ?nof31 ?rv31 ?hvs31 ?hfile31 ?hp31 ?har31 ?S31 ?hks31 ?hev31 ?top31 ?ne31 ?db31 ?cdt31 ?hb31) ?a32 (NC.exm_mk ?a33 ?b33 ?c33 ?d33 ?e33 ?f33) (NC.exm_mk ?a34 ?b34 ?c34 ?d34 ?e34 ?f34) (NC.exm_mk ?a35 ?b35 ?c35 ?d35 ?e35 ?f35) (NC.exm_mk ?a36 ?b36 ?c36 ?d36 ?e36 ?f36) (NC.exm_mk ?a37 ?b37 ?c37 ?d37 ?e37 ?f37) (NC.exm_mk ?a38 ?b38 ?c38 ?d38 ?e38 ?f38) ?a39 (NC.isx_mk ?a40 ?b40 ⟨?c40, ?d40, ?e40, ?f40, ?g40, ?h40, ?i40, ?j40⟩ (NC.kitOne_other ?m40 ?n40 ?o40 ?p40)) (NC.isx_mk ?a41 ?b41 ⟨?c41, ?d41, ?e41, ?f41, ?g41, ?h41, ?i41, ?j41⟩ NC.kitOne_self) (NC.isx_mk ?a42 ?b42 ⟨?c42, ?d42, ?e42, ?f42, ?g42, ?h42, ?i42, ?j42⟩ (NC.kitOne_other ?m42 ?n42 ?o42 ?p42)) (NC.isx_mk ?a43 ?b43 ⟨?c43, ?d43, ?e43, ?f43, ?g43, ?h43, ?i43, ?j43⟩ (NC.kitOne_other ?m43 ?n43 ?o43 ?p43)) (NC.isx_mk ?a44 ?b44 ⟨?c44, ?d44, ?e44, ?f44, ?g44, ?h44, ?i44, ?j44⟩ (NC.kitOne_other ?m44 ?n44 ?o44 ?p44)) (NC.isx_mk ?a45 ?b45 ⟨?c45, ?d45, ?e45, ?f45, ?g45, ?h45, ?i45, ?j45⟩ (NC.kitOne_other ?m45 ?n45 ?o45 ?p45)) ?a46 (NC.isx_mk ?a47 ?b47 ⟨?c47, ?d47, ?e47, ?f47, ?g47, ?h47, ?i47, ?j47⟩ (NC.kitOne_other ?m47 ?n47 ?o47 ?p47)) (NC.isx_mk ?a48 ?b48 ⟨?c48, ?d48, ?e48, ?f48, ?g48, ?h48, ?i48, ?j48⟩ (NC.kitOne_other ?m48 ?n48 ?o48 ?p48)) (NC.isx_mk ?a49 ?b49 ⟨?c49, ?d49, ?e49, ?f49, ?g49, ?h49, ?i49, ?j49⟩ (NC.kitOne_other ?m49 ?n49 ?o49 ?p49)) (NC.isx_mk ?a50 ?b50 ⟨?c50, ?d50, ?e50, ?f50, ?g50, ?h50, ?i50, ?j50⟩ (NC.kitOne_other ?m50 ?n50 ?o50 ?p50)) (NC.isx_mk ?a51 ?b51 ⟨?c51, ?d51, ?e51, ?f51, ?g51, ?h51, ?i51, ?j51⟩ (NC.kitOne_other ?m51 ?n51 ?o51 ?p51)) (NC.isx_mk ?a52 ?b52 ⟨?c52, ?d52, ?e52, ?f52, ?g52, ?h52, ?i52, ?j52⟩ NC.kitOne_self) ?a53 (NC.isx_mk ?a54 ?b54 ⟨?c54, ?d54, ?e54, ?f54, ?g54, ?h54, ?i54, ?j54⟩ (NC.kitOne_other ?m54 ?n54 ?o54 ?p54)) (NC.isx_mk ?a55 ?b55 ⟨?c55, ?d55, ?e55, ?f55, ?g55, ?h55, ?i55, ?j55⟩ (NC.kitOne_other ?m55 ?n55 ?o55 ?p55)) (NC.isx_mk ?a56 ?b56 ⟨?c56, ?d56, ?e56, ?f56, ?g56, ?h56, ?i56, ?j56⟩ (NC.kitOne_other ?m56 ?n56 ?o56 ?p56)) (NC.isx_mk ?a57 ?b57 ⟨?c57, ?d57, ?e57, ?f57, ?g57, ?h57, ?i57, ?j57⟩ (NC.kitOne_other ?m57 ?n57 ?o57 ?p57)) (NC.isx_mk ?a58 ?b58 ⟨?c58, ?d58, ?e58, ?f58, ?g58, ?h58, ?i58, ?j58⟩ NC.kitOne_self) (NC.isx_mk ?a59 ?b59 ⟨?c59, ?d59, ?e59, ?f59, ?g59, ?h59, ?i59, ?j59⟩ (NC.kitOne_other ?m59 ?n59 ?o59 ?p59)) ?a60 (NC.isx_mk ?a61 ?b61 ⟨?c61, ?d61, ?e61, ?f61, ?g61, ?h61, ?i61, ?j61⟩ NC.kitOne_self) (NC.isx_mk ?a62 ?b62 ⟨?c62, ?d62, ?e62, ?f62, ?g62, ?h62, ?i62, ?j62⟩ (NC.kitOne_other ?m62 ?n62 ?o62 ?p62)) (NC.isx_mk ?a63 ?b63 ⟨?c63, ?d63, ?e63, ?f63, ?g63, ?h63, ?i63, ?j63⟩ (NC.kitOne_other ?m63 ?n63 ?o63 ?p63)) (NC.isx_mk ?a64 ?b64 ⟨?c64, ?d64, ?e64, ?f64, ?g64, ?h64, ?i64, ?j64⟩ (NC.kitOne_other ?m64 ?n64 ?o64 ?p64)) (NC.isx_mk ?a65 ?b65 ⟨?c65, ?d65, ?e65, ?f65, ?g65, ?h65, ?i65, ?j65⟩ (NC.kitOne_other ?m65 ?n65 ?o65 ?p65)) (NC.isx_mk ?a66 ?b66 ⟨?c66, ?d66, ?e66, ?f66, ?g66, ?h66, ?i66, ?j66⟩ (NC.kitOne_other ?m66 ?n66 ?o66 ?p66)) ?a67 (NC.isx_mk ?a68 ?b68 ⟨?c68, ?d68, ?e68, ?f68, ?g68, ?h68, ?i68, ?j68⟩ (NC.kitOne_other ?m68 ?n68 ?o68 ?p68)) (NC.isx_mk ?a69 ?b69 ⟨?c69, ?d69, ?e69, ?f69, ?g69, ?h69, ?i69, ?j69⟩ (NC.kitOne_other ?m69 ?n69 ?o69 ?p69)) (NC.isx_mk ?a70 ?b70 ⟨?c70, ?d70, ?e70, ?f70, ?g70, ?h70, ?i70, ?j70⟩ NC.kitOne_self) (NC.isx_mk ?a71 ?b71 ⟨?c71, ?d71, ?e71, ?f71, ?g71, ?h71, ?i71, ?j71⟩ (NC.kitOne_other ?m71 ?n71 ?o71 ?p71)) (NC.isx_mk ?a72 ?b72 ⟨?c72, ?d72, ?e72, ?f72, ?g72, ?h72, ?i72, ?j72⟩ (NC.kitOne_other ?m72 ?n72 ?o72 ?p72)) (NC.isx_mk ?a73 ?b73 ⟨?c73, ?d73, ?e73, ?f73, ?g73, ?h73, ?i73, ?j73⟩ (NC.kitOne_other ?m73 ?n73 ?o73 ?p73)) ?a74 (NC.isx_mk ?a75 ?b75 ⟨?c75, ?d75, ?e75, ?f75, ?g75, ?h75, ?i75, ?j75⟩ (NC.kitOne_other ?m75 ?n75 ?o75 ?p75)) (NC.isx_mk ?a76 ?b76 ⟨?c76, ?d76, ?e76, ?f76, ?g76, ?h76, ?i76, ?j76⟩ (NC.kitOne_other ?m76 ?n76 ?o76 ?p76)) (NC.isx_mk ?a77 ?b77 ⟨?c77, ?d77, ?e77, ?f77, ?g77, ?h77, ?i77, ?j77⟩ (NC.kitOne_other ?m77 ?n77 ?o77 ?p77)) (NC.isx_mk ?a78 ?b78 ⟨?c78, ?d78, ?e78, ?f78, ?g78, ?h78, ?i78, ?j78⟩ NC.kitOne_self) (NC.isx_mk ?a79 ?b79 ⟨?c79, ?d79, ?e79, ?f79, ?g79, ?h79, ?i79, ?j79⟩ (NC.kitOne_other ?m79 ?n79 ?o79 ?p79)) (NC.isx_mk ?a80 ?b80 ⟨?c80, ?d80, ?e80, ?f80, ?g80, ?h80, ?i80, ?j80⟩ (NC.kitOne_other ?m80 ?n80 ?o80 ?p80)) ?a81 (NC.isc_mk ?a82 ?b82 ⟨?c82, ?d82, ?e82, ?f82⟩ NC.kitOne_self) ⟨_, ?a83, ⟨?b83, ?c83, ?d83, ?e83⟩, ?f83⟩ ⟨_, ?a84, ⟨?b84, ?c84, ?d84, ?e84⟩, ?f84⟩ ⟨_, ?a85, ⟨?b85, ?c85, ?d85, ?e85⟩, ?f85⟩ ⟨_, ?a86, ⟨?b86, ?c86, ?d86, ?e86⟩, ?f86⟩ ?a87 (NC.noAt_mk ?a88 ?b88) (NC.noAt_mk ?a89 ?b89) ?bn
    (case a1 => k_is)
    (case b1 => k_is)
    (case c1 => k_is)
    (case d1 => k_is)
    (case a2 => k_is)
    (case b2 => k_is)
    (case c2 => k_is)
    (case d2 => k_is)
    (case a3 => k_is)
    (case b3 => k_is)
    (case c3 => k_is)
    (case d3 => k_is)
    (case a4 => k_is)
    (case b4 => k_is)
    (case c4 => k_is)
    (case d4 => k_is)
    (case a5 => k_is)
    (case b5 => k_is)
    (case c5 => k_is)
    (case d5 => k_is)
    (case a6 => k_is)
    (case b6 => k_is)
    (case c6 => k_is)
    (case d6 => k_is)
    (case a7 => k_is)
    (case b7 => k_is)
    (case c7 => k_is)
    (case d7 => k_is)
    (case a8 => k_is)
    (case b8 => k_is)
    (case c8 => k_is)
    (case d8 => k_is)
    (case a9 => k_is)
    (case b9 => k_is)
    (case c9 => k_is)
    (case d9 => k_is)
    (case a10 => k_is)
    (case b10 => k_is)
    (case c10 => k_is)
    (case d10 => k_is)
    (case a11 => k_is)
    (case b11 => k_is)
    (case c11 => k_is)
    (case d11 => k_is)
    (case a12 => k_is)
    (case b12 => k_is)
    (case c12 => k_is)
    (case d12 => k_is)
    (case a13 => k_is)
    (case b13 => k_is)
    (case c13 => k_is)
    (case d13 => k_is)
    (case a14 => k_is)
    (case b14 => k_is)
    (case c14 => k_is)
    (case d14 => k_is)
    (case a15 => k_is)
    (case b15 => k_is)
    (case c15 => k_is)
    (case d15 => k_is)
    (case a16 => k_is)
    (case b16 => k_is)
    (case c16 => k_is)
    (case d16 => k_is)
    (case a17 => k_is)
    (case b17 => k_is)
    (case c17 => k_is)
    (case d17 => k_is)
    (case a18 => k_is)
    (case b18 => k_is)
    (case c18 => k_is)
    (case d18 => k_is)
    (case a19 => k_is)
    (case b19 => k_is)
    (case c19 => k_is)
    (case d19 => k_is)
    (case a20 => k_is)
    (case b20 => k_is)
    (case c20 => k_is)
    (case d20 => k_is)
    (case a21 => k_is)
    (case b21 => k_is)
    (case c21 => k_is)
    (case d21 => k_is)
    (case a22 => k_is)
    (case b22 => k_is)
    (case c22 => k_is)
    (case d22 => k_is)
    (case a23 => k_is)
    (case b23 => k_is)
    (case c23 => k_is)
    (case d23 => k_is)
    (case e23 => k_is)
    (case f23 => k_is)
    (case g23 => k_is)
    (case a24 => k_is)
    (case b24 => k_is)
    (case c24 => k_is)
    (case d24 => k_is)
    (case e24 => k_is)
    (case f24 => k_is)
    (case a25 => k_is)
    (case b25 => k_is)
    (case c25 => k_is)
    (case d25 => k_is)
    (case e25 => k_is)
    (case f25 => k_is)
    (case a26 => k_is)
    (case lC26 => k_is)
    (case sa26 => k_is)
    (case exC26 => k_is)
    (case tyC26 => k_is)
    (case kC26 => k_is)
    (case iC26 => k_is)
    (case tI26 => k_is)
    (case l26 => k_is)
    (case cd26 => k_is)
    (case hcode26 => k_is)
    (case hcell26 => k_is)
    (case sub26 => k_is)
    (case sup26 => k_is)
    (case opq26 => k_is)
    (case nxt26 => ks_is)
    (case isV26 => k_is)
    (case nof26 => k_is)
    (case rv26 => first | rfl | decide +kernel)
    (case hvs26 => rfl)
    (case hfile26 => first | rfl | decide +kernel)
    (case hp26 => rfl)
    (case har26 => rfl)
    (case S26 => exact NdefX.nscope_by (by decide +kernel))
    (case hks26 => first | rfl | decide +kernel)
    (case hev26 => exact fun _ => ⟨_, rfl⟩)
    (case top26 => first | rfl | decide +kernel)
    (case ne26 => decide)
    (case db26 => decide)
    (case cdt26 => decide)
    (case hb26 => exact fun us hl => match us, hl with | [_, _], _ => rfl)
    (case a27 => k_is)
    (case lC27 => k_is)
    (case sa27 => k_is)
    (case exC27 => k_is)
    (case tyC27 => k_is)
    (case kC27 => k_is)
    (case iC27 => k_is)
    (case tI27 => k_is)
    (case l27 => k_is)
    (case cd27 => k_is)
    (case hcode27 => k_is)
    (case hcell27 => k_is)
    (case sub27 => k_is)
    (case sup27 => k_is)
    (case opq27 => k_is)
    (case nxt27 => ks_is)
    (case isV27 => k_is)
    (case nof27 => k_is)
    (case rv27 => first | rfl | decide +kernel)
    (case hvs27 => rfl)
    (case hfile27 => first | rfl | decide +kernel)
    (case hp27 => rfl)
    (case har27 => rfl)
    (case S27 => exact NdefX.nscope_by (by decide +kernel))
    (case hks27 => first | rfl | decide +kernel)
    (case hev27 => exact fun _ => ⟨_, rfl⟩)
    (case top27 => first | rfl | decide +kernel)
    (case ne27 => decide)
    (case db27 => decide)
    (case cdt27 => decide)
    (case hb27 => exact fun us hl => match us, hl with | [_, _], _ => rfl)
    (case a28 => k_is)
    (case lC28 => k_is)
    (case sa28 => k_is)
    (case exC28 => k_is)
    (case tyC28 => k_is)
    (case kC28 => k_is)
    (case iC28 => k_is)
    (case tI28 => k_is)
    (case l28 => k_is)
    (case cd28 => k_is)
    (case hcode28 => k_is)
    (case hcell28 => k_is)
    (case sub28 => k_is)
    (case sup28 => k_is)
    (case opq28 => k_is)
    (case nxt28 => ks_is)
    (case isV28 => k_is)
    (case nof28 => k_is)
    (case rv28 => first | rfl | decide +kernel)
    (case hvs28 => rfl)
    (case hfile28 => first | rfl | decide +kernel)
    (case hp28 => rfl)
    (case har28 => rfl)
    (case S28 => exact NdefX.nscope_by (by decide +kernel))
    (case hks28 => first | rfl | decide +kernel)
    (case hev28 => exact fun _ => ⟨_, rfl⟩)
    (case top28 => first | rfl | decide +kernel)
    (case ne28 => decide)
    (case db28 => decide)
    (case cdt28 => decide)
    (case hb28 => exact fun us hl => match us, hl with | [_, _], _ => rfl)
    (case a29 => k_is)
    (case lC29 => k_is)
    (case sa29 => k_is)
    (case exC29 => k_is)
    (case tyC29 => k_is)
    (case kC29 => k_is)
    (case iC29 => k_is)
    (case tI29 => k_is)
    (case l29 => k_is)
    (case cd29 => k_is)
    (case hcode29 => k_is)
    (case hcell29 => k_is)
    (case sub29 => k_is)
    (case sup29 => k_is)
    (case opq29 => k_is)
    (case nxt29 => ks_is)
    (case isV29 => k_is)
    (case nof29 => k_is)
    (case rv29 => first | rfl | decide +kernel)
    (case hvs29 => rfl)
    (case hfile29 => first | rfl | decide +kernel)
    (case hp29 => rfl)
    (case har29 => rfl)
    (case S29 => exact NdefX.nscope_by (by decide +kernel))
    (case hks29 => first | rfl | decide +kernel)
    (case hev29 => exact fun _ => ⟨_, rfl⟩)
    (case top29 => first | rfl | decide +kernel)
    (case ne29 => decide)
    (case db29 => decide)
    (case cdt29 => decide)
    (case hb29 => exact fun us hl => match us, hl with | [_, _], _ => rfl)
    (case a30 => k_is)
    (case lC30 => k_is)
    (case sa30 => k_is)
    (case exC30 => k_is)
    (case tyC30 => k_is)
    (case kC30 => k_is)
    (case iC30 => k_is)
    (case tI30 => k_is)
    (case l30 => k_is)
    (case cd30 => k_is)
    (case hcode30 => k_is)
    (case hcell30 => k_is)
    (case sub30 => k_is)
    (case sup30 => k_is)
    (case opq30 => k_is)
    (case nxt30 => ks_is)
    (case isV30 => k_is)
    (case nof30 => k_is)
    (case rv30 => first | rfl | decide +kernel)
    (case hvs30 => rfl)
    (case hfile30 => first | rfl | decide +kernel)
    (case hp30 => rfl)
    (case har30 => rfl)
    (case S30 => exact NdefX.nscope_by (by decide +kernel))
    (case hks30 => first | rfl | decide +kernel)
    (case hev30 => exact fun _ => ⟨_, rfl⟩)
    (case top30 => first | rfl | decide +kernel)
    (case ne30 => decide)
    (case db30 => decide)
    (case cdt30 => decide)
    (case hb30 => exact fun us hl => match us, hl with | [_, _], _ => rfl)
    (case a31 => k_is)
    (case lC31 => k_is)
    (case sa31 => k_is)
    (case exC31 => k_is)
    (case tyC31 => k_is)
    (case kC31 => k_is)
    (case iC31 => k_is)
    (case tI31 => k_is)
    (case l31 => k_is)
    (case cd31 => k_is)
    (case hcode31 => k_is)
    (case hcell31 => k_is)
    (case sub31 => k_is)
    (case sup31 => k_is)
    (case opq31 => k_is)
    (case nxt31 => ks_is)
    (case isV31 => k_is)
    (case nof31 => k_is)
    (case rv31 => first | rfl | decide +kernel)
    (case hvs31 => rfl)
    (case hfile31 => first | rfl | decide +kernel)
    (case hp31 => rfl)
    (case har31 => rfl)
    (case S31 => exact NdefX.nscope_by (by decide +kernel))
    (case hks31 => first | rfl | decide +kernel)
    (case hev31 => exact fun _ => ⟨_, rfl⟩)
    (case top31 => first | rfl | decide +kernel)
    (case ne31 => decide)
    (case db31 => decide)
    (case cdt31 => decide)
    (case hb31 => exact fun us hl => match us, hl with | [_, _], _ => rfl)
    (case a32 => k_is)
    (case a33 => k_is)
    (case b33 => k_is)
    (case c33 => k_is)
    (case d33 => k_is)
    (case e33 => k_is)
    (case f33 => k_is)
    (case a34 => k_is)
    (case b34 => k_is)
    (case c34 => k_is)
    (case d34 => k_is)
    (case e34 => k_is)
    (case f34 => k_is)
    (case a35 => k_is)
    (case b35 => k_is)
    (case c35 => k_is)
    (case d35 => k_is)
    (case e35 => k_is)
    (case f35 => k_is)
    (case a36 => k_is)
    (case b36 => k_is)
    (case c36 => k_is)
    (case d36 => k_is)
    (case e36 => k_is)
    (case f36 => k_is)
    (case a37 => k_is)
    (case b37 => k_is)
    (case c37 => k_is)
    (case d37 => k_is)
    (case e37 => k_is)
    (case f37 => k_is)
    (case a38 => k_is)
    (case b38 => k_is)
    (case c38 => k_is)
    (case d38 => k_is)
    (case e38 => k_is)
    (case f38 => k_is)
    (case a39 => k_is)
    (case a40 => k_is)
    (case b40 => k_is)
    (case c40 => k_is)
    (case d40 => k_is)
    (case e40 => k_is)
    (case f40 => k_is)
    (case g40 => k_is)
    (case h40 => k_is)
    (case i40 => k_is)
    (case j40 => k_is)
    (case m40 => rfl)
    (case n40 => k_is)
    (case o40 => k_is)
    (case p40 => k_is)
    (case a41 => k_is)
    (case b41 => k_is)
    (case c41 => k_is)
    (case d41 => k_is)
    (case e41 => k_is)
    (case f41 => k_is)
    (case g41 => k_is)
    (case h41 => k_is)
    (case i41 => k_is)
    (case j41 => k_is)
    (case a42 => k_is)
    (case b42 => k_is)
    (case c42 => k_is)
    (case d42 => k_is)
    (case e42 => k_is)
    (case f42 => k_is)
    (case g42 => k_is)
    (case h42 => k_is)
    (case i42 => k_is)
    (case j42 => k_is)
    (case m42 => rfl)
    (case n42 => k_is)
    (case o42 => k_is)
    (case p42 => k_is)
    (case a43 => k_is)
    (case b43 => k_is)
    (case c43 => k_is)
    (case d43 => k_is)
    (case e43 => k_is)
    (case f43 => k_is)
    (case g43 => k_is)
    (case h43 => k_is)
    (case i43 => k_is)
    (case j43 => k_is)
    (case m43 => rfl)
    (case n43 => k_is)
    (case o43 => k_is)
    (case p43 => k_is)
    (case a44 => k_is)
    (case b44 => k_is)
    (case c44 => k_is)
    (case d44 => k_is)
    (case e44 => k_is)
    (case f44 => k_is)
    (case g44 => k_is)
    (case h44 => k_is)
    (case i44 => k_is)
    (case j44 => k_is)
    (case m44 => rfl)
    (case n44 => k_is)
    (case o44 => k_is)
    (case p44 => k_is)
    (case a45 => k_is)
    (case b45 => k_is)
    (case c45 => k_is)
    (case d45 => k_is)
    (case e45 => k_is)
    (case f45 => k_is)
    (case g45 => k_is)
    (case h45 => k_is)
    (case i45 => k_is)
    (case j45 => k_is)
    (case m45 => rfl)
    (case n45 => k_is)
    (case o45 => k_is)
    (case p45 => k_is)
    (case a46 => k_is)
    (case a47 => k_is)
    (case b47 => k_is)
    (case c47 => k_is)
    (case d47 => k_is)
    (case e47 => k_is)
    (case f47 => k_is)
    (case g47 => k_is)
    (case h47 => k_is)
    (case i47 => k_is)
    (case j47 => k_is)
    (case m47 => rfl)
    (case n47 => k_is)
    (case o47 => k_is)
    (case p47 => k_is)
    (case a48 => k_is)
    (case b48 => k_is)
    (case c48 => k_is)
    (case d48 => k_is)
    (case e48 => k_is)
    (case f48 => k_is)
    (case g48 => k_is)
    (case h48 => k_is)
    (case i48 => k_is)
    (case j48 => k_is)
    (case m48 => rfl)
    (case n48 => k_is)
    (case o48 => k_is)
    (case p48 => k_is)
    (case a49 => k_is)
    (case b49 => k_is)
    (case c49 => k_is)
    (case d49 => k_is)
    (case e49 => k_is)
    (case f49 => k_is)
    (case g49 => k_is)
    (case h49 => k_is)
    (case i49 => k_is)
    (case j49 => k_is)
    (case m49 => rfl)
    (case n49 => k_is)
    (case o49 => k_is)
    (case p49 => k_is)
    (case a50 => k_is)
    (case b50 => k_is)
    (case c50 => k_is)
    (case d50 => k_is)
    (case e50 => k_is)
    (case f50 => k_is)
    (case g50 => k_is)
    (case h50 => k_is)
    (case i50 => k_is)
    (case j50 => k_is)
    (case m50 => rfl)
    (case n50 => k_is)
    (case o50 => k_is)
    (case p50 => k_is)
    (case a51 => k_is)
    (case b51 => k_is)
    (case c51 => k_is)
    (case d51 => k_is)
    (case e51 => k_is)
    (case f51 => k_is)
    (case g51 => k_is)
    (case h51 => k_is)
    (case i51 => k_is)
    (case j51 => k_is)
    (case m51 => rfl)
    (case n51 => k_is)
    (case o51 => k_is)
    (case p51 => k_is)
    (case a52 => k_is)
    (case b52 => k_is)
    (case c52 => k_is)
    (case d52 => k_is)
    (case e52 => k_is)
    (case f52 => k_is)
    (case g52 => k_is)
    (case h52 => k_is)
    (case i52 => k_is)
    (case j52 => k_is)
    (case a53 => k_is)
    (case a54 => k_is)
    (case b54 => k_is)
    (case c54 => k_is)
    (case d54 => k_is)
    (case e54 => k_is)
    (case f54 => k_is)
    (case g54 => k_is)
    (case h54 => k_is)
    (case i54 => k_is)
    (case j54 => k_is)
    (case m54 => rfl)
    (case n54 => k_is)
    (case o54 => k_is)
    (case p54 => k_is)
    (case a55 => k_is)
    (case b55 => k_is)
    (case c55 => k_is)
    (case d55 => k_is)
    (case e55 => k_is)
    (case f55 => k_is)
    (case g55 => k_is)
    (case h55 => k_is)
    (case i55 => k_is)
    (case j55 => k_is)
    (case m55 => rfl)
    (case n55 => k_is)
    (case o55 => k_is)
    (case p55 => k_is)
    (case a56 => k_is)
    (case b56 => k_is)
    (case c56 => k_is)
    (case d56 => k_is)
    (case e56 => k_is)
    (case f56 => k_is)
    (case g56 => k_is)
    (case h56 => k_is)
    (case i56 => k_is)
    (case j56 => k_is)
    (case m56 => rfl)
    (case n56 => k_is)
    (case o56 => k_is)
    (case p56 => k_is)
    (case a57 => k_is)
    (case b57 => k_is)
    (case c57 => k_is)
    (case d57 => k_is)
    (case e57 => k_is)
    (case f57 => k_is)
    (case g57 => k_is)
    (case h57 => k_is)
    (case i57 => k_is)
    (case j57 => k_is)
    (case m57 => rfl)
    (case n57 => k_is)
    (case o57 => k_is)
    (case p57 => k_is)
    (case a58 => k_is)
    (case b58 => k_is)
    (case c58 => k_is)
    (case d58 => k_is)
    (case e58 => k_is)
    (case f58 => k_is)
    (case g58 => k_is)
    (case h58 => k_is)
    (case i58 => k_is)
    (case j58 => k_is)
    (case a59 => k_is)
    (case b59 => k_is)
    (case c59 => k_is)
    (case d59 => k_is)
    (case e59 => k_is)
    (case f59 => k_is)
    (case g59 => k_is)
    (case h59 => k_is)
    (case i59 => k_is)
    (case j59 => k_is)
    (case m59 => rfl)
    (case n59 => k_is)
    (case o59 => k_is)
    (case p59 => k_is)
    (case a60 => k_is)
    (case a61 => k_is)
    (case b61 => k_is)
    (case c61 => k_is)
    (case d61 => k_is)
    (case e61 => k_is)
    (case f61 => k_is)
    (case g61 => k_is)
    (case h61 => k_is)
    (case i61 => k_is)
    (case j61 => k_is)
    (case a62 => k_is)
    (case b62 => k_is)
    (case c62 => k_is)
    (case d62 => k_is)
    (case e62 => k_is)
    (case f62 => k_is)
    (case g62 => k_is)
    (case h62 => k_is)
    (case i62 => k_is)
    (case j62 => k_is)
    (case m62 => rfl)
    (case n62 => k_is)
    (case o62 => k_is)
    (case p62 => k_is)
    (case a63 => k_is)
    (case b63 => k_is)
    (case c63 => k_is)
    (case d63 => k_is)
    (case e63 => k_is)
    (case f63 => k_is)
    (case g63 => k_is)
    (case h63 => k_is)
    (case i63 => k_is)
    (case j63 => k_is)
    (case m63 => rfl)
    (case n63 => k_is)
    (case o63 => k_is)
    (case p63 => k_is)
    (case a64 => k_is)
    (case b64 => k_is)
    (case c64 => k_is)
    (case d64 => k_is)
    (case e64 => k_is)
    (case f64 => k_is)
    (case g64 => k_is)
    (case h64 => k_is)
    (case i64 => k_is)
    (case j64 => k_is)
    (case m64 => rfl)
    (case n64 => k_is)
    (case o64 => k_is)
    (case p64 => k_is)
    (case a65 => k_is)
    (case b65 => k_is)
    (case c65 => k_is)
    (case d65 => k_is)
    (case e65 => k_is)
    (case f65 => k_is)
    (case g65 => k_is)
    (case h65 => k_is)
    (case i65 => k_is)
    (case j65 => k_is)
    (case m65 => rfl)
    (case n65 => k_is)
    (case o65 => k_is)
    (case p65 => k_is)
    (case a66 => k_is)
    (case b66 => k_is)
    (case c66 => k_is)
    (case d66 => k_is)
    (case e66 => k_is)
    (case f66 => k_is)
    (case g66 => k_is)
    (case h66 => k_is)
    (case i66 => k_is)
    (case j66 => k_is)
    (case m66 => rfl)
    (case n66 => k_is)
    (case o66 => k_is)
    (case p66 => k_is)
    (case a67 => k_is)
    (case a68 => k_is)
    (case b68 => k_is)
    (case c68 => k_is)
    (case d68 => k_is)
    (case e68 => k_is)
    (case f68 => k_is)
    (case g68 => k_is)
    (case h68 => k_is)
    (case i68 => k_is)
    (case j68 => k_is)
    (case m68 => rfl)
    (case n68 => k_is)
    (case o68 => k_is)
    (case p68 => k_is)
    (case a69 => k_is)
    (case b69 => k_is)
    (case c69 => k_is)
    (case d69 => k_is)
    (case e69 => k_is)
    (case f69 => k_is)
    (case g69 => k_is)
    (case h69 => k_is)
    (case i69 => k_is)
    (case j69 => k_is)
    (case m69 => rfl)
    (case n69 => k_is)
    (case o69 => k_is)
    (case p69 => k_is)
    (case a70 => k_is)
    (case b70 => k_is)
    (case c70 => k_is)
    (case d70 => k_is)
    (case e70 => k_is)
    (case f70 => k_is)
    (case g70 => k_is)
    (case h70 => k_is)
    (case i70 => k_is)
    (case j70 => k_is)
    (case a71 => k_is)
    (case b71 => k_is)
    (case c71 => k_is)
    (case d71 => k_is)
    (case e71 => k_is)
    (case f71 => k_is)
    (case g71 => k_is)
    (case h71 => k_is)
    (case i71 => k_is)
    (case j71 => k_is)
    (case m71 => rfl)
    (case n71 => k_is)
    (case o71 => k_is)
    (case p71 => k_is)
    (case a72 => k_is)
    (case b72 => k_is)
    (case c72 => k_is)
    (case d72 => k_is)
    (case e72 => k_is)
    (case f72 => k_is)
    (case g72 => k_is)
    (case h72 => k_is)
    (case i72 => k_is)
    (case j72 => k_is)
    (case m72 => rfl)
    (case n72 => k_is)
    (case o72 => k_is)
    (case p72 => k_is)
    (case a73 => k_is)
    (case b73 => k_is)
    (case c73 => k_is)
    (case d73 => k_is)
    (case e73 => k_is)
    (case f73 => k_is)
    (case g73 => k_is)
    (case h73 => k_is)
    (case i73 => k_is)
    (case j73 => k_is)
    (case m73 => rfl)
    (case n73 => k_is)
    (case o73 => k_is)
    (case p73 => k_is)
    (case a74 => k_is)
    (case a75 => k_is)
    (case b75 => k_is)
    (case c75 => k_is)
    (case d75 => k_is)
    (case e75 => k_is)
    (case f75 => k_is)
    (case g75 => k_is)
    (case h75 => k_is)
    (case i75 => k_is)
    (case j75 => k_is)
    (case m75 => rfl)
    (case n75 => k_is)
    (case o75 => k_is)
    (case p75 => k_is)
    (case a76 => k_is)
    (case b76 => k_is)
    (case c76 => k_is)
    (case d76 => k_is)
    (case e76 => k_is)
    (case f76 => k_is)
    (case g76 => k_is)
    (case h76 => k_is)
    (case i76 => k_is)
    (case j76 => k_is)
    (case m76 => rfl)
    (case n76 => k_is)
    (case o76 => k_is)
    (case p76 => k_is)
    (case a77 => k_is)
    (case b77 => k_is)
    (case c77 => k_is)
    (case d77 => k_is)
    (case e77 => k_is)
    (case f77 => k_is)
    (case g77 => k_is)
    (case h77 => k_is)
    (case i77 => k_is)
    (case j77 => k_is)
    (case m77 => rfl)
    (case n77 => k_is)
    (case o77 => k_is)
    (case p77 => k_is)
    (case a78 => k_is)
    (case b78 => k_is)
    (case c78 => k_is)
    (case d78 => k_is)
    (case e78 => k_is)
    (case f78 => k_is)
    (case g78 => k_is)
    (case h78 => k_is)
    (case i78 => k_is)
    (case j78 => k_is)
    (case a79 => k_is)
    (case b79 => k_is)
    (case c79 => k_is)
    (case d79 => k_is)
    (case e79 => k_is)
    (case f79 => k_is)
    (case g79 => k_is)
    (case h79 => k_is)
    (case i79 => k_is)
    (case j79 => k_is)
    (case m79 => rfl)
    (case n79 => k_is)
    (case o79 => k_is)
    (case p79 => k_is)
    (case a80 => k_is)
    (case b80 => k_is)
    (case c80 => k_is)
    (case d80 => k_is)
    (case e80 => k_is)
    (case f80 => k_is)
    (case g80 => k_is)
    (case h80 => k_is)
    (case i80 => k_is)
    (case j80 => k_is)
    (case m80 => rfl)
    (case n80 => k_is)
    (case o80 => k_is)
    (case p80 => k_is)
    (case a81 => k_is)
    (case a82 => k_is)
    (case b82 => k_is)
    (case c82 => k_is)
    (case d82 => k_is)
    (case e82 => k_is)
    (case f82 => k_is)
    (case a83 => k_is)
    (case b83 => k_is)
    (case c83 => k_is)
    (case d83 => k_is)
    (case e83 => k_is)
    (case f83 => k_is)
    (case a84 => k_is)
    (case b84 => k_is)
    (case c84 => k_is)
    (case d84 => k_is)
    (case e84 => k_is)
    (case f84 => k_is)
    (case a85 => k_is)
    (case b85 => k_is)
    (case c85 => k_is)
    (case d85 => k_is)
    (case e85 => k_is)
    (case f85 => k_is)
    (case a86 => k_is)
    (case b86 => k_is)
    (case c86 => k_is)
    (case d86 => k_is)
    (case e86 => k_is)
    (case f86 => k_is)
    (case a87 => k_is)
    (case a88 => k_is)
    (case b88 => k_is)
    (case a89 => k_is)
    (case b89 => k_is)
    (case bn => (intro x hx; simp only [List.mem_cons, List.not_mem_nil, or_false] at hx; rcases hx with rfl | rfl | rfl | rfl | rfl | rfl | rfl | rfl | rfl | rfl | rfl | rfl | rfl | rfl | rfl | rfl | rfl | rfl | rfl | rfl <;> k_is))
