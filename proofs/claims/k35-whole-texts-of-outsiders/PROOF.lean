import PyProof.Rows.All
import Wide.All
import OpenK.AllK
import Wide.FinOn
import HandS.ForMost
import HandS.ForExc
import HandS.TupAny
import HandS.Deep
import HandS.IsInst
import HandS.Wide
import HandS.ExcCtx
import HandS.HotCalls
import HandS.RaiseMore
import HandS.CallSlots
import HandS.Text
import KE.IntTextLaws
import HandS.ExcInit
import HandS.NestedK
import KE.KExcSuper
import HandS.ExcField
import HandS.ExcIs
import HandS.OwnEq
import HandS.TupMul
import HandS.Conv
import HandS.SortInts
import HandS.NoneIn
import HandS.Small
import PyProof.StrOps2
import HandS.Defaults
import PySem.Challenge.RW_nestcall_k35_whole_texts_of_outsiders
set_option Elab.async false
set_option linter.all false
set_option maxRecDepth 100000
set_option maxHeartbeats 8000000
/-! ### values without addresses, stores, worlds -/
namespace NC
open PySem L2

inductive D where
  | non | bl (b : Bool) | int (i : Int) | str (x : Str) | tup (xs : List D) | lst (xs : List D) | loc (n : Nat)

/-- S: lists that somebody still changes (by a name); r: the store's addresses -/
structure Wd where
  S : Addr → Prop
  r : List Addr

/-- a list of the module's own objects -/
def KLst (K : PySem.W.Frag) (a : Addr) (xs : List V) : Prop := ∃ (its : List Value) (n : Nat), K.lookup a = some { cls := .type "list", data := .seq its.toArray n } ∧ xs.length ≤ sizeLine ∧ Vals xs its
/-- a list to be read -/
def LstAt (K : PySem.W.Frag) (H : Hp) (a : Addr) (xs : List V) : Prop := Rd H a (.lst xs) ∨ KLst K a xs
theorem LstAt.sq {K : PySem.W.Frag} {H : Hp} {a : Addr} {xs : List V} (h : LstAt K H a xs) : SqL K H a xs := by
  rcases h with h | ⟨its, n, e, hz, r⟩
  · exact .inl h
  · exact .inr ⟨_, its.toArray, n, e, rfl, rfl, rfl, by rw [List.size_toArray, ← r.length]; exact hz, by simpa using r⟩

mutual
inductive Rep (K : PySem.W.Frag) (w : Wd) (H : Hp) : V → D → Prop
  | non : Rep K w H .non .non
  | bl (b : Bool) : Rep K w H (.bl b) (.bl b)
  | int (i : Int) : Rep K w H (.int i) (.int i)
  | str (x : Str) : Rep K w H (.str x) (.str x)
  | tup {a : Addr} {xs : List V} {ds : List D} : SqT K H a xs → Reps K w H xs ds → Rep K w H (.ref a) (.tup ds)
  | lst {a : Addr} {xs : List V} {ds : List D} : Rd H a (.lst xs) → ¬ w.S a → a ∉ w.r → Reps K w H xs ds → Rep K w H (.ref a) (.lst ds)
  | klst {a : Addr} {xs : List V} {ds : List D} : KLst K a xs → Reps K w H xs ds → Rep K w H (.ref a) (.lst ds)
  | loc {a : Addr} {n : Nat} : w.r[n]? = some a → Rep K w H (.ref a) (.loc n)
inductive Reps (K : PySem.W.Frag) (w : Wd) (H : Hp) : List V → List D → Prop
  | nil : Reps K w H [] []
  | cons {v : V} {vs : List V} {d : D} {ds : List D} : Rep K w H v d → Reps K w H vs ds → Reps K w H (v :: vs) (d :: ds)
end

def Imm : HO → Prop
  | .tup _ => True
  | .frz _ _ => True
  | _ => False

/-- how a heap and a world go on -/
structure Ok2 (w : Wd) (H : Hp) (w' : Wd) (H' : Hp) : Prop where
  pre : ∀ (n : Nat) a, w.r[n]? = some a → w'.r[n]? = some a
  imm : ∀ a o, H a = some o → Imm o → H' a = some o
  fr : ∀ a o, H a = some o → ¬ w.S a → a ∉ w.r → H' a = some o ∧ ¬ w'.S a ∧ a ∉ w'.r

theorem sqT_to {K : PySem.W.Frag} {H H' : Hp} {a : Addr} {xs : List V} (h : SqT K H a xs) (i : ∀ a o, H a = some o → Imm o → H' a = some o) : SqT K H' a xs := by
  rcases h with (h | ⟨o, h⟩) | h
  · exact .inl (.inl (i _ _ h trivial))
  · exact .inl (.inr ⟨o, i _ _ h trivial⟩)
  · exact .inr h

mutual
theorem Rep.to {K : PySem.W.Frag} {w w' : Wd} {H H' : Hp} (k : Ok2 w H w' H') : ∀ (d : D) (v : V), Rep K w H v d → Rep K w' H' v d
  | .non, _, h => by cases h; exact .non
  | .bl b, _, h => by cases h; exact .bl b
  | .int i, _, h => by cases h; exact .int i
  | .str x, _, h => by cases h; exact .str x
  | .loc n, _, h => by
    cases h with
    | loc e => exact .loc (k.pre _ _ e)
  | .tup ds, _, h => by
    cases h with
    | tup s r => exact .tup (sqT_to s k.imm) (Reps.to k ds _ r)
  | .lst ds, _, h => by
    cases h with
    | lst s n1 n2 r =>
      rcases s with s | ⟨o, s⟩
      · obtain ⟨q1, q2, q3⟩ := k.fr _ _ s n1 n2
        exact .lst (.inl q1) q2 q3 (Reps.to k ds _ r)
      · obtain ⟨q1, q2, q3⟩ := k.fr _ _ s n1 n2
        exact .lst (.inr ⟨o, q1⟩) q2 q3 (Reps.to k ds _ r)
    | klst s r => exact .klst s (Reps.to k ds _ r)
theorem Reps.to {K : PySem.W.Frag} {w w' : Wd} {H H' : Hp} (k : Ok2 w H w' H') : ∀ (ds : List D) (vs : List V), Reps K w H vs ds → Reps K w' H' vs ds
  | [], _, h => by cases h; exact .nil
  | d :: ds, _, h => by
    cases h with
    | cons h1 h2 => exact .cons (Rep.to k d _ h1) (Reps.to k ds _ h2)
end

theorem Reps.length {K : PySem.W.Frag} {w : Wd} {H : Hp} : ∀ {vs : List V} {ds : List D}, Reps K w H vs ds → vs.length = ds.length
  | _, _, .nil => rfl
  | _, _, .cons _ t => by rw [List.length_cons, List.length_cons, Reps.length t]
theorem Reps.get {K : PySem.W.Frag} {w : Wd} {H : Hp} : ∀ {vs : List V} {ds : List D} {i : Nat} {d : D}, Reps K w H vs ds → ds[i]? = some d → ∃ v, vs[i]? = some v ∧ Rep K w H v d
  | _, _, _, _, .nil, e => by simp at e
  | _, _, 0, _, .cons r _, e => by simp at e; subst e; exact ⟨_, rfl, r⟩
  | _, _, i + 1, d, .cons _ t, e => by
    obtain ⟨u, h1, h2⟩ := Reps.get (i := i) (d := d) t (by simpa using e)
    exact ⟨u, by simpa using h1, h2⟩
theorem Reps.get' {K : PySem.W.Frag} {w : Wd} {H : Hp} : ∀ {vs : List V} {ds : List D} {i : Nat} {v : V}, Reps K w H vs ds → vs[i]? = some v → ∃ d, ds[i]? = some d ∧ Rep K w H v d
  | _, _, _, _, .nil, e => by simp at e
  | _, _, 0, _, .cons r _, e => by simp at e; subst e; exact ⟨_, rfl, r⟩
  | _, _, i + 1, d, .cons _ t, e => by
    obtain ⟨u, h1, h2⟩ := Reps.get' (i := i) t (by simpa using e)
    exact ⟨u, by simpa using h1, h2⟩
theorem Reps.append {K : PySem.W.Frag} {w : Wd} {H : Hp} : ∀ {xs ys : List V} {ds es : List D}, Reps K w H xs ds → Reps K w H ys es → Reps K w H (xs ++ ys) (ds ++ es)
  | _, _, _, _, .nil, s => s
  | _, _, _, _, .cons r t, s => .cons r (Reps.append t s)
theorem Reps.set {K : PySem.W.Frag} {w : Wd} {H : Hp} {x : V} {d : D} (r : Rep K w H x d) : ∀ {xs : List V} {ds : List D} (i : Nat), Reps K w H xs ds → Reps K w H (xs.set i x) (ds.set i d)
  | _, _, _, .nil => .nil
  | _, _, 0, .cons _ t => .cons r t
  | _, _, i + 1, .cons q t => .cons q (Reps.set r i t)
theorem Reps.take {K : PySem.W.Frag} {w : Wd} {H : Hp} : ∀ {xs : List V} {us : List D} (n : Nat), Reps K w H xs us → Reps K w H (xs.take n) (us.take n)
  | _, _, 0, _ => .nil
  | _, _, _ + 1, .nil => .nil
  | _, _, n + 1, .cons r t => .cons r (Reps.take n t)
theorem Reps.drop {K : PySem.W.Frag} {w : Wd} {H : Hp} : ∀ {xs : List V} {us : List D} (n : Nat), Reps K w H xs us → Reps K w H (xs.drop n) (us.drop n)
  | _, _, 0, r => r
  | _, _, _ + 1, .nil => .nil
  | _, _, n + 1, .cons _ t => Reps.drop n t
theorem Reps.reverse {K : PySem.W.Frag} {w : Wd} {H : Hp} : ∀ {xs : List V} {us : List D}, Reps K w H xs us → Reps K w H xs.reverse us.reverse
  | _, _, .nil => .nil
  | _, _, .cons r t => by
    rw [List.reverse_cons, List.reverse_cons]
    exact (Reps.reverse t).append (.cons r .nil)

/-! ### cells -/
inductive Cell where
  | lst (ds : List D) | dic (t : Bool) (kvs : List (D × D)) | ins (c : Str) (fs : List (Str × D))
abbrev Sto := List Cell

/-- the text's classes by name -/
structure Tb where
  K : PySem.W.Frag
  cls : Str → Option Addr

def Flds (K : PySem.W.Frag) (w : Wd) (H : Hp) (fv : List (Str × V)) (fd : List (Str × D)) : Prop :=
  fv.map (·.1) = fd.map (·.1) ∧ Reps K w H (fv.map (·.2)) (fd.map (·.2))

def keyD : Key → D
  | .inl i => .int i
  | .inr x => .str x

def CellOk (T : Tb) (w : Wd) (H : Hp) (a : Addr) : Cell → Prop
  | .lst ds => ∃ vs, H a = some (.lst vs) ∧ Reps T.K w H vs ds
  | .dic false kvs => ∃ ks : List (Key × V), H a = some (.dK ks) ∧ kvs.map (·.1) = ks.map (fun p => keyD p.1) ∧ Reps T.K w H (ks.map (·.2)) (kvs.map (·.2))
  | .dic true kvs => ∃ ks : List (List Key × V), H a = some (.dT ks) ∧ kvs.map (·.1) = ks.map (fun p => D.tup (p.1.map keyD)) ∧ Reps T.K w H (ks.map (·.2)) (kvs.map (·.2))
  | .ins c fs => ∃ (C dx : Addr) (fv : List (Str × V)), (T.cls c = some C ∧ Cls T.K C ∧ ∀ p ∈ fs, NoAttr T.K C p.1) ∧ H a = some (.ins C dx fv) ∧ Flds T.K w H fv fs

theorem CellOk.to {T : Tb} {w w' : Wd} {H H' : Hp} {a : Addr} {c : Cell} (h : CellOk T w H a c) (k : Ok2 w H w' H') (e : H' a = H a) : CellOk T w' H' a c := by
  cases c with
  | lst ds =>
    obtain ⟨vs, h1, h2⟩ := h
    exact ⟨vs, e.trans h1, Reps.to k _ _ h2⟩
  | dic t kvs =>
    cases t with
    | false => obtain ⟨ks, h1, h2, h3⟩ := h; exact ⟨ks, e.trans h1, h2, Reps.to k _ _ h3⟩
    | true => obtain ⟨ks, h1, h2, h3⟩ := h; exact ⟨ks, e.trans h1, h2, Reps.to k _ _ h3⟩
  | ins c fs =>
    obtain ⟨C, dx, fv, h0, h1, h2, h3⟩ := h
    exact ⟨C, dx, fv, h0, e.trans h1, h2, Reps.to k _ _ h3⟩
theorem CellOk.has {T : Tb} {w : Wd} {H : Hp} {a : Addr} {c : Cell} (h : CellOk T w H a c) : ∃ o, H a = some o ∧ ¬ Imm o := by
  cases c with
  | lst ds => obtain ⟨vs, h1, h2⟩ := h; exact ⟨_, h1, fun z => z⟩
  | dic t kvs =>
    cases t with
    | false => obtain ⟨ks, h1, h2, h3⟩ := h; exact ⟨_, h1, fun z => z⟩
    | true => obtain ⟨ks, h1, h2, h3⟩ := h; exact ⟨_, h1, fun z => z⟩
  | ins c fs => obtain ⟨C, dx, fv, h0, h1, h2⟩ := h; exact ⟨_, h1, fun z => z⟩

structure Stok (T : Tb) (w : Wd) (H : Hp) (st : Sto) : Prop where
  len : st.length = w.r.length
  nd : w.r.Nodup
  at_ : ∀ (i : Nat) c a, st[i]? = some c → w.r[i]? = some a → CellOk T w H a c
theorem Stok.has {T : Tb} {w : Wd} {H : Hp} {st : Sto} (s : Stok T w H st) {a : Addr} (h : a ∈ w.r) : ∃ o, H a = some o ∧ ¬ Imm o := by
  obtain ⟨i, hi, e⟩ := List.getElem_of_mem h
  have h2 : w.r[i]? = some a := by rw [List.getElem?_eq_getElem hi, e]
  have hi' : i < st.length := by rw [s.len]; exact hi
  exact (s.at_ i st[i] a (List.getElem?_eq_getElem hi') h2).has

/-- the world and the heap go on, seen from outside: what is not in the store stays -/
structure Le (w : Wd) (H : Hp) (w' : Wd) (H' : Hp) : Prop where
  pre : ∀ (n : Nat) a, w.r[n]? = some a → w'.r[n]? = some a
  fr : ∀ a o, H a = some o → a ∉ w.r → H' a = some o
  live : ∀ a o, H a = some o → ∃ o', H' a = some o'
  new : ∀ a ∈ w'.r, a ∈ w.r ∨ H a = none
  S : ∀ a, w'.S a → w.S a ∨ H a = none
  Sm : ∀ a, w.S a → w'.S a
theorem Le.refl (w : Wd) (H : Hp) : Le w H w H := ⟨fun _ _ e => e, fun _ _ e _ => e, fun _ o e => ⟨o, e⟩, fun _ h => .inl h, fun _ h => .inl h, fun _ h => h⟩
theorem Le.trans {w w1 w2 : Wd} {H H1 H2 : Hp} (a : Le w H w1 H1) (b : Le w1 H1 w2 H2) : Le w H w2 H2 := by
  refine ⟨fun n x e => b.pre n x (a.pre n x e), fun x o e n => ?_, fun x o e => ?_, fun x h => ?_, fun x h => ?_, fun x h => b.Sm x (a.Sm x h)⟩
  · have e1 := a.fr x o e n
    refine b.fr x o e1 fun z => ?_
    rcases a.new x z with z | z
    · exact n z
    · rw [e] at z; cases z
  · obtain ⟨o1, e1⟩ := a.live x o e
    exact b.live x o1 e1
  · rcases b.new x h with z | z
    · exact a.new x z
    · cases e : H x with
      | none => exact .inr rfl
      | some o => obtain ⟨o1, e1⟩ := a.live x o e; rw [e1] at z; cases z
  · rcases b.S x h with z | z
    · exact a.S x z
    · cases e : H x with
      | none => exact .inr rfl
      | some o => obtain ⟨o1, e1⟩ := a.live x o e; rw [e1] at z; cases z
theorem Le.ok2 {T : Tb} {w w' : Wd} {H H' : Hp} {st : Sto} (l : Le w H w' H') (s : Stok T w H st) : Ok2 w H w' H' := by
  refine ⟨l.pre, fun a o e i => ?_, fun a o e n1 n2 => ⟨l.fr a o e n2, fun z => ?_, fun z => ?_⟩⟩
  · refine l.fr a o e fun z => ?_
    obtain ⟨o', e', n⟩ := s.has z
    rw [e] at e'; cases e'
    exact n i
  · rcases l.S a z with z | z
    · exact n1 z
    · rw [e] at z; cases z
  · rcases l.new a z with z | z
    · exact n2 z
    · rw [e] at z; cases z

/-! ### slots -/
inductive Fl where
  | frz | own | bor | exc
  deriving DecidableEq
abbrev Slot := Option (Fl × D)
abbrev Ev := List Slot

/-- ex: the exception that is handled: its place, its class's name and value, its dict -/
structure Bs where
  w : Wd
  H : Hp
  pin : List (V × D)
  ex : Option (Addr × Str × Value × Addr)

/-- a list that is lent: it stood at the entry -/
def BorAt (K : PySem.W.Frag) (B : Bs) (w : Wd) (H : Hp) (a : Addr) (vs : List V) : Prop := (Rd H a (.lst vs) ∧ a ∉ w.r ∧ B.H a ≠ none) ∨ KLst K a vs
theorem BorAt.to {K : PySem.W.Frag} {B : Bs} {w w' : Wd} {H H' : Hp} {a : Addr} {vs : List V} (h : BorAt K B w H a vs) (hb : ∀ a u, H a = some u → a ∉ w.r → B.H a ≠ none → H' a = some u ∧ a ∉ w'.r) : BorAt K B w' H' a vs := by
  rcases h with ⟨h | ⟨o, h⟩, n, b⟩ | h
  · obtain ⟨q1, q2⟩ := hb a _ h n b
    exact .inl ⟨.inl q1, q2, b⟩
  · obtain ⟨q1, q2⟩ := hb a _ h n b
    exact .inl ⟨.inr ⟨o, q1⟩, q2, b⟩
  · exact .inr h
theorem BorAt.at_ {K : PySem.W.Frag} {B : Bs} {w : Wd} {H : Hp} {a : Addr} {vs : List V} (h : BorAt K B w H a vs) : LstAt K H a vs := by
  rcases h with ⟨h, _⟩ | h
  · exact .inl h
  · exact .inr h
/-- what is walked: it may be kept, or it is lent -/
def PinOk (K : PySem.W.Frag) (B : Bs) (w : Wd) (H : Hp) (p : V × D) : Prop := Rep K w H p.1 p.2 ∨ ∃ a vs ds, p.1 = .ref a ∧ p.2 = .lst ds ∧ Reps K w H vs ds ∧ BorAt K B w H a vs
theorem PinOk.to {K : PySem.W.Frag} {B : Bs} {w w' : Wd} {H H' : Hp} {p : V × D} (h : PinOk K B w H p) (k : Ok2 w H w' H') (hb : ∀ a u, H a = some u → a ∉ w.r → B.H a ≠ none → H' a = some u ∧ a ∉ w'.r) : PinOk K B w' H' p := by
  rcases h with h | ⟨a, vs, ds, e1, e2, r, b⟩
  · exact .inl (Rep.to k _ _ h)
  · exact .inr ⟨a, vs, ds, e1, e2, Reps.to k _ _ r, b.to hb⟩
def SlotOk (K : PySem.W.Frag) (B : Bs) (w : Wd) (H : Hp) (o : Option V) : Slot → Prop
  | none => True
  | some (.frz, d) => ∃ v, o = some v ∧ Rep K w H v d
  | some (.own, d) => ∃ a vs ds, o = some (.ref a) ∧ d = .lst ds ∧ H a = some (.lst vs) ∧ Reps K w H vs ds ∧ w.S a ∧ B.H a = none
  | some (.bor, d) => ∃ a vs ds, o = some (.ref a) ∧ d = .lst ds ∧ Reps K w H vs ds ∧ BorAt K B w H a vs
  | some (.exc, d) => ∃ a c cls dd f v0 e, B.ex = some (a, c, cls, dd) ∧ o = some (.ref a) ∧ d = .tup [.str c, .str f, e] ∧ H dd = some (.xd [(f, v0)]) ∧ ¬ w.S dd ∧ dd ∉ w.r ∧ Rep K w H v0 e

structure Sim (T : Tb) (B : Bs) (w : Wd) (env : Ev) (st : Sto) (σ : St) (H : Hp) : Prop where
  len : σ.length = env.length
  slot : ∀ (i : Nat) s, env[i]? = some s → SlotOk T.K B w H (σ[i]?).join s
  dist : ∀ (i j : Nat) d e a, env[i]? = some (some (.own, d)) → env[j]? = some (some (.own, e)) → (σ[i]?).join = some (.ref a) → (σ[j]?).join = some (.ref a) → i = j
  sto : Stok T w H st
  al : ∀ a, w.S a → H a ≠ none ∧ a ∉ w.r
  le : Le B.w B.H w H
  sub : ∀ a, B.w.S a → w.S a
  bal : ∀ a, B.w.S a → B.H a ≠ none
  pin : ∀ p ∈ B.pin, PinOk T.K B w H p

/-- a slot stays as it is, under what keeps its own list too -/
theorem SlotOk.to {K : PySem.W.Frag} {B : Bs} {w w' : Wd} {H H' : Hp} {o : Option V} {s : Slot} (h : SlotOk K B w H o s) (k : Ok2 w H w' H')
    (hS : ∀ a vs, w.S a → H a = some (.lst vs) → B.H a = none → o = some (.ref a) → H' a = some (.lst vs) ∧ w'.S a)
    (hb : ∀ a u, H a = some u → a ∉ w.r → B.H a ≠ none → H' a = some u ∧ a ∉ w'.r) : SlotOk K B w' H' o s := by
  match s, h with
  | none, _ => trivial
  | some (.frz, d), h => obtain ⟨v, e, r⟩ := h; exact ⟨v, e, Rep.to k _ _ r⟩
  | some (.own, d), h =>
    obtain ⟨a, vs, ds, e, e2, e3, r, s, b⟩ := h
    obtain ⟨q1, q2⟩ := hS a vs s e3 b e
    exact ⟨a, vs, ds, e, e2, q1, Reps.to k _ _ r, q2, b⟩
  | some (.bor, d), h =>
    obtain ⟨a, vs, ds, e, e2, r, b⟩ := h
    exact ⟨a, vs, ds, e, e2, Reps.to k _ _ r, b.to hb⟩
  | some (.exc, d), h =>
    obtain ⟨a, c, cls, dd, f, v0, e, e1, e2, e3, e4, e5, e6, r⟩ := h
    obtain ⟨q1, q2, q3⟩ := k.fr _ _ e4 e5 e6
    exact ⟨a, c, cls, dd, f, v0, e, e1, e2, e3, q1, q2, q3, Rep.to k _ _ r⟩

/-- on by Le, the own lists still own -/
theorem Sim.go {T : Tb} {B : Bs} {w w' : Wd} {env : Ev} {st st' : Sto} {σ : St} {H H' : Hp} (s : Sim T B w env st σ H) (l : Le w H w' H') (hS : ∀ a, w.S a → w'.S a) (hst : Stok T w' H' st') (al : ∀ a, w'.S a → H' a ≠ none ∧ a ∉ w'.r) :
    Sim T B w' env st' σ H' := by
  have k := l.ok2 s.sto
  refine ⟨s.len, fun i sl e => ?_, s.dist, hst, al, s.le.trans l, fun a z => hS a (s.sub a z), s.bal, fun p hp => (s.pin p hp).to k fun a u e3 n b => ⟨l.fr a _ e3 n, fun z => ?_⟩⟩
  · refine (s.slot i sl e).to k (fun a vs z e3 b eo => ⟨l.fr a _ e3 (s.al a z).2, hS a z⟩) fun a u e3 n b => ⟨l.fr a _ e3 n, fun z => ?_⟩
    rcases l.new a z with z | z
    · exact n z
    · rw [e3] at z; cases z
  · rcases l.new a z with z | z
    · exact n z
    · rw [e3] at z; cases z

/-- all cells stay -/
theorem Stok.to {T : Tb} {w w' : Wd} {H H' : Hp} {st : Sto} (s : Stok T w H st) (k : Ok2 w H w' H') (e : ∀ a ∈ w.r, H' a = H a) (er : w'.r = w.r) : Stok T w' H' st := by
  refine ⟨by rw [er]; exact s.len, by rw [er]; exact s.nd, fun i c a h1 h2 => ?_⟩
  rw [er] at h2
  exact (s.at_ i c a h1 h2).to k (e a (List.mem_of_getElem? h2))

/-- a new object that nobody knows -/
theorem Le.push {w : Wd} {H : Hp} {p : Addr} {o : HO} (hp : H p = none) : Le w H w (upd H p o) := by
  refine ⟨fun _ _ e => e, fun a u e _ => ?_, fun a u e => ⟨u, ?_⟩, fun _ h => .inl h, fun _ h => .inl h, fun _ h => h⟩
  · rw [upd_ne (ne_of_none e hp)]; exact e
  · rw [upd_ne (ne_of_none e hp)]; exact e
theorem Sim.push {T : Tb} {B : Bs} {w : Wd} {env : Ev} {st : Sto} {σ : St} {H : Hp} {p : Addr} {o : HO} (s : Sim T B w env st σ H) (hp : H p = none) : Sim T B w env st σ (upd H p o) := by
  have l : Le w H w (upd H p o) := Le.push hp
  refine s.go l (fun _ z => z) (s.sto.to (l.ok2 s.sto) (fun a ha => ?_) rfl) fun a z => ?_
  · obtain ⟨u, e, _⟩ := s.sto.has ha
    rw [upd_ne (ne_of_none e hp)]
  · obtain ⟨h1, h2⟩ := s.al a z
    refine ⟨?_, h2⟩
    cases e : H a with
    | none => exact absurd e h1
    | some u => rw [upd_ne (ne_of_none e hp), e]; exact fun z => nomatch z

/-- the world with one more list that is changed -/
def Wd.add (w : Wd) (p : Addr) : Wd := ⟨fun a => w.S a ∨ a = p, w.r⟩
def Wd.sub (w : Wd) (p : Addr) : Wd := ⟨fun a => w.S a ∧ a ≠ p, w.r⟩
theorem Le.add {w : Wd} {H H' : Hp} {p : Addr} (l : Le w H w H') (hp : H p = none) : Le w H (w.add p) H' :=
  ⟨l.pre, l.fr, l.live, l.new, fun a z => z.elim (fun z => .inl z) fun z => .inr (z ▸ hp), fun a z => .inl (l.Sm a z)⟩
/-- a new list, owned by nobody's name yet -/
theorem Sim.pushO {T : Tb} {B : Bs} {w : Wd} {env : Ev} {st : Sto} {σ : St} {H : Hp} {p : Addr} {o : HO} (s : Sim T B w env st σ H) (hp : H p = none) : Sim T B (w.add p) env st σ (upd H p o) := by
  have l : Le w H (w.add p) (upd H p o) := (Le.push hp).add hp
  have np : ∀ a ∈ w.r, a ≠ p := fun a ha => by
    obtain ⟨u, e, _⟩ := s.sto.has ha
    exact ne_of_none e hp
  refine s.go l (fun _ z => .inl z) (s.sto.to (l.ok2 s.sto) (fun a ha => ?_) rfl) fun a z => ?_
  · rw [upd_ne (np a ha)]
  · rcases z with z | z
    · obtain ⟨h1, h2⟩ := s.al a z
      refine ⟨?_, h2⟩
      cases e : H a with
      | none => exact absurd e h1
      | some u => rw [upd_ne (ne_of_none e hp), e]; exact fun z => nomatch z
    · subst z
      exact ⟨(by rw [upd_same]; intro z; cases z), fun z => np _ z rfl⟩
end NC

/-! ### results, judgements -/
namespace NC
open PySem L2

/-- a raised error: its class, its own attributes -/
structure Exn where
  c : Str
  fs : List (Str × D)
inductive R (α : Type) where
  | ok (a : α) (st : Sto) | exc (x : Exn) (st : Sto) | stuck
def R.bind {α β : Type} : R α → (α → Sto → R β) → R β
  | .ok a st, k => k a st
  | .exc x st, _ => .exc x st
  | .stuck, _ => .stuck
inductive Out where
  | next (env : Ev) (st : Sto) | ret (d : D) (st : Sto) | brk (env : Ev) (st : Sto) | cont (env : Ev) (st : Sto) | exc (x : Exn) (env : Ev) (st : Sto) | stuck
abbrev F := Ev → Sto → R D
abbrev FL := Ev → Sto → R (List D)
abbrev FB := Ev → Sto → R Bool
abbrev FS := Ev → Sto → Out

/-- esc: the value may be kept; rd: it is read alone; fr: a list is new -/
inductive Md where
  | esc | rd | fr
  deriving DecidableEq
abbrev Calls := Str → List (Md × D) → Sto → R D

structure Mo where
  P : Program
  w : World
  T : Tb
  mg : Str → Option Value
  base : Heap
  cl : Calls
  n : Nat
  hot : Bool

/-- the frame at its entry: the base, what is wished of an exception -/
structure Cf where
  T : Tb
  B : Bs
  W : WX

def RepR (K : PySem.W.Frag) (w : Wd) (H : Hp) (v : V) (d : D) : Prop := Rep K w H v d ∨ ∃ a vs ds, v = .ref a ∧ d = .lst ds ∧ (Rd H a (.lst vs) ∧ a ∉ w.r ∨ KLst K a vs) ∧ Reps K w H vs ds
def RepF (K : PySem.W.Frag) (H0 : Hp) (w : Wd) (H : Hp) (v : V) : D → Prop
  | .lst ds => ∃ a vs, v = .ref a ∧ H a = some (.lst vs) ∧ H0 a = none ∧ w.S a ∧ Reps K w H vs ds
  | d => Rep K w H v d
def RepM (K : PySem.W.Frag) (m : Md) (H0 : Hp) (w : Wd) (H : Hp) (v : V) (d : D) : Prop := match m with
  | .esc => Rep K w H v d
  | .rd => RepR K w H v d
  | .fr => RepF K H0 w H v d
theorem RepR.le {T : Tb} {w w' : Wd} {H H' : Hp} {v : V} {d : D} {st : Sto} (h : RepR T.K w H v d) (l : Le w H w' H') (s : Stok T w H st) : RepR T.K w' H' v d := by
  rcases h with h | ⟨a, vs, ds, e1, e2, e3, r⟩
  · exact .inl (Rep.to (l.ok2 s) _ _ h)
  · rcases e3 with ⟨e3, n⟩ | e3
    · have nn : ∀ u, H a = some u → a ∉ w'.r := fun u e z => by
        rcases l.new a z with z | z
        · exact n z
        · rw [e] at z; cases z
      rcases e3 with e3 | ⟨o, e3⟩
      · exact .inr ⟨a, vs, ds, e1, e2, .inl ⟨.inl (l.fr a _ e3 n), nn _ e3⟩, Reps.to (l.ok2 s) _ _ r⟩
      · exact .inr ⟨a, vs, ds, e1, e2, .inl ⟨.inr ⟨o, l.fr a _ e3 n⟩, nn _ e3⟩, Reps.to (l.ok2 s) _ _ r⟩
    · exact .inr ⟨a, vs, ds, e1, e2, .inr e3, Reps.to (l.ok2 s) _ _ r⟩
/-- a value that is read -/
theorem RepR.lst {K : PySem.W.Frag} {w : Wd} {H : Hp} {v : V} {ds : List D} (h : RepR K w H v (.lst ds)) : ∃ a vs, v = .ref a ∧ LstAt K H a vs ∧ True ∧ Reps K w H vs ds := by
  rcases h with h | ⟨a, vs, ds', e1, e2, e3, r⟩
  · cases h with
    | lst h1 h2 h3 h4 => exact ⟨_, _, rfl, .inl h1, trivial, h4⟩
    | klst h1 h4 => exact ⟨_, _, rfl, .inr h1, trivial, h4⟩
  · cases e2; exact ⟨a, vs, e1, e3.imp (fun z => z.1) fun z => z, trivial, r⟩
theorem RepR.tup {K : PySem.W.Frag} {w : Wd} {H : Hp} {v : V} {ds : List D} (h : RepR K w H v (.tup ds)) : ∃ a vs, v = .ref a ∧ SqT K H a vs ∧ Reps K w H vs ds := by
  rcases h with h | ⟨a, vs, ds', e1, e2, e3, r⟩
  · cases h with
    | tup h1 h2 => exact ⟨_, _, rfl, h1, h2⟩
  · cases e2
theorem RepR.non {K : PySem.W.Frag} {w : Wd} {H : Hp} {v : V} (h : RepR K w H v .non) : v = .non := by
  rcases h with h | ⟨a, vs, ds', e1, e2, _⟩
  · cases h; rfl
  · cases e2
theorem RepR.bl {K : PySem.W.Frag} {w : Wd} {H : Hp} {v : V} {b : Bool} (h : RepR K w H v (.bl b)) : v = .bl b := by
  rcases h with h | ⟨a, vs, ds', e1, e2, _⟩
  · cases h; rfl
  · cases e2
theorem RepR.int {K : PySem.W.Frag} {w : Wd} {H : Hp} {v : V} {b : Int} (h : RepR K w H v (.int b)) : v = .int b := by
  rcases h with h | ⟨a, vs, ds', e1, e2, _⟩
  · cases h; rfl
  · cases e2
theorem RepR.str {K : PySem.W.Frag} {w : Wd} {H : Hp} {v : V} {b : Str} (h : RepR K w H v (.str b)) : v = .str b := by
  rcases h with h | ⟨a, vs, ds', e1, e2, _⟩
  · cases h; rfl
  · cases e2
theorem RepR.loc {K : PySem.W.Frag} {w : Wd} {H : Hp} {v : V} {n : Nat} (h : RepR K w H v (.loc n)) : ∃ a, v = .ref a ∧ w.r[n]? = some a := by
  rcases h with h | ⟨a, vs, ds', e1, e2, _⟩
  · cases h with
    | loc e => exact ⟨_, rfl, e⟩
  · cases e2

def XRep (T : Tb) (w : Wd) (H : Hp) (x : Exn) (c : Value) (dx : Option Addr) : Prop :=
  ∃ C, T.cls x.c = some C ∧ c = .ref C ∧ (x.fs = [] ∨ ∃ d fv, dx = some d ∧ H d = some (.xd fv) ∧ Flds T.K w H fv x.fs ∧ ¬ w.S d ∧ d ∉ w.r)

def PostE (C : Cf) (m : Md) (env : Ev) (σ : St) (w : Wd) (H : Hp) (r : R D) (Q : VK) : Prop := match r with
  | .ok d st' => ∀ w' v H', Le w H w' H' → Sim C.T C.B w' env st' σ H' → RepM C.T.K m H w' H' v d → Q v H'
  | .exc x st' => ∀ w' H' c dx, Le w H w' H' → Sim C.T C.B w' env st' σ H' → XRep C.T w' H' x c dx → C.W c dx σ H'
  | .stuck => False
def PostT (C : Cf) (env : Ev) (σ : St) (w : Wd) (H : Hp) (r : R Bool) (Q : Bool → Hp → Prop) : Prop := match r with
  | .ok b st' => ∀ w' H', Le w H w' H' → Sim C.T C.B w' env st' σ H' → Q b H'
  | .exc x st' => ∀ w' H' c dx, Le w H w' H' → Sim C.T C.B w' env st' σ H' → XRep C.T w' H' x c dx → C.W c dx σ H'
  | .stuck => False
inductive RepL (K : PySem.W.Frag) (w : Wd) (H : Hp) : List Md → List V → List D → Prop where
  | nil : RepL K w H [] [] []
  | esc {ms vs ds v d} : Rep K w H v d → RepL K w H ms vs ds → RepL K w H (.esc :: ms) (v :: vs) (d :: ds)
  | rd {ms vs ds v d} : RepR K w H v d → RepL K w H ms vs ds → RepL K w H (.rd :: ms) (v :: vs) (d :: ds)
theorem RepL.le {T : Tb} {w w' : Wd} {H H' : Hp} {ms : List Md} {vs : List V} {ds : List D} {st : Sto} (l : Le w H w' H') (s : Stok T w H st) (h : RepL T.K w H ms vs ds) : RepL T.K w' H' ms vs ds := by
  induction h with
  | nil => exact .nil
  | esc h _ ih => exact .esc (Rep.to (l.ok2 s) _ _ h) ih
  | rd h _ ih => exact .rd (h.le l s) ih
def PostL (C : Cf) (ms : List Md) (env : Ev) (σ : St) (w : Wd) (H : Hp) (r : R (List D)) (Q : List V → Hp → Prop) : Prop := match r with
  | .ok ds st' => ∀ w' vs H', Le w H w' H' → Sim C.T C.B w' env st' σ H' → RepL C.T.K w' H' ms vs ds → Q vs H'
  | .exc x st' => ∀ w' H' c dx, Le w H w' H' → Sim C.T C.B w' env st' σ H' → XRep C.T w' H' x c dx → C.W c dx σ H'
  | .stuck => False
/-- what a def hands back -/
def RetOk (T : Tb) (B : Bs) (st : Sto) (H : Hp) (v : V) (d : D) : Prop := ∃ r, Le B.w B.H ⟨B.w.S, r⟩ H ∧ Stok T ⟨B.w.S, r⟩ H st ∧ Rep T.K ⟨B.w.S, r⟩ H v d
def PostS (C : Cf) (E : Ends) (o : Out) : Prop := match o with
  | .next env st => ∀ w σ H, Sim C.T C.B w env st σ H → E.nx σ H
  | .brk env st => ∀ w σ H, Sim C.T C.B w env st σ H → E.bk σ H
  | .cont env st => ∀ w σ H, Sim C.T C.B w env st σ H → E.ct σ H
  | .ret d st => ∀ v H, RetOk C.T C.B st H v d → E.rt v H
  | .exc x env st => ∀ w σ H c dx, Sim C.T C.B w env st σ H → XRep C.T w H x c dx → C.W c dx σ H
  | .stuck => False

def tE (C : Cf) (m : Md) (f : F) : TE := fun σ H Q => ∃ w env st, Sim C.T C.B w env st σ H ∧ PostE C m env σ w H (f env st) Q
def tT (C : Cf) (f : FB) : TT := fun σ H Q => ∃ w env st, Sim C.T C.B w env st σ H ∧ PostT C env σ w H (f env st) Q
def tL (C : Cf) (ms : List Md) (f : FL) : TA := fun σ H Q => ∃ w env st, Sim C.T C.B w env st σ H ∧ PostL C ms env σ w H (f env st) Q
def tS (C : Cf) (f : FS) : TS := fun E σ H => ∃ w env st, Sim C.T C.B w env st σ H ∧ PostS C E (f env st)

/-- a frame's names: by slot; its scope; of a comprehension's block its own scope -/
structure Ct where
  N : List Str
  sc : Scope
  bk : Option Scope

structure Gd (G : Ct) (M : Mo) (X : Cx) (C : Cf) : Prop where
  p : X.prog = M.P
  w : X.w = M.w
  K : X.K = M.T.K
  T : C.T = M.T
  mg : X.mg = M.mg
  base : X.base = M.base
  N : X.N = G.N
  sc : X.env.scope = G.sc
  nd : X.N.Nodup
  cold : M.hot = false → X.calm = true ∧ Room M.n X.A ∧ C.B.ex = none
  frm : G.bk = none → X.stack = X.env :: X.outer ∧ X.env.frame = some X.env.locals
  hotr : M.hot = true → L2H.RoomH M.n X.A ∧ L2H.HotC X
  exk : ∀ a c cls dd, C.B.ex = some (a, c, cls, dd) → ∃ X0 oe pn, X = L2.Cx.suite X0 a ((a, oe) :: pn) ∧ Zc cls (some dd) oe ∧ (∃ vs, oe.data = .fields vs) ∧ ∃ C0, C.T.cls c = some C0 ∧ cls = .ref C0
  fn : X.fn = match G.bk with | none => fun _ => true | some s => fun x => s.names.lookup x == some .cell
  pown : PassesOwn (model X.prog X.w) X.A X.env X.xe
  tk : L2N.Takes X C.W

theorem Gd.un {G : Ct} {M : Mo} {X : Cx} {C : Cf} (gd : Gd G M X C) : X.A.units + 16 * M.n + 200 < cLine := by
  cases h : M.hot with
  | false => exact (gd.cold h).2.1.un
  | true => exact (gd.hotr h).1.un
theorem Gd.units {G : Ct} {M : Mo} {X : Cx} {C : Cf} (gd : Gd G M X C) : X.A.units + 64 < cLine := by have := gd.un; omega
def SndE (G : Ct) (M : Mo) (m : Md) (e : Expr) (f : F) : Prop := ∀ X C, Gd G M X C → PE X e (tE C m f)
def SndT (G : Ct) (M : Mo) (e : Expr) (f : FB) : Prop := ∀ X C, Gd G M X C → PT X e (tT C f)
def SndL (G : Ct) (M : Mo) (ms : List Md) (es : List Expr) (f : FL) : Prop := ∀ X C, Gd G M X C → PA X es (tL C ms f)
def SndS (G : Ct) (M : Mo) (s : Stmt) (f : FS) : Prop := ∀ X C, Gd G M X C → PS X s (tS C f)
def SndB (G : Ct) (M : Mo) (s : List Stmt) (f : FS) : Prop := ∀ X C, Gd G M X C → PSs X s (tS C f)

theorem _root_.L2.PE.imp {X : Cx} {e : Expr} {t t' : TE} (h : PE X e t) (k : ∀ σ H Q, t' σ H Q → t σ H Q) : PE X e t' := ⟨fun pins s σ H Q I q => h.run pins s σ H Q I (k _ _ _ q)⟩
theorem _root_.L2.PT.imp {X : Cx} {e : Expr} {t t' : TT} (h : PT X e t) (k : ∀ σ H Q, t' σ H Q → t σ H Q) : PT X e t' := ⟨fun pins s σ H Q I q => h.run pins s σ H Q I (k _ _ _ q)⟩
theorem _root_.L2.PA.imp {X : Cx} {e : List Expr} {t t' : TA} (h : PA X e t) (k : ∀ σ H Q, t' σ H Q → t σ H Q) : PA X e t' := ⟨fun pos pins s σ H Q I q => h.run pos pins s σ H Q I (k _ _ _ q)⟩
theorem _root_.L2.PS.imp {X : Cx} {e : Stmt} {t t' : TS} (h : PS X e t) (k : ∀ D σ H, t' D σ H → t D σ H) : PS X e t' := ⟨fun pins s σ H Q I q => h.run pins s σ H Q I (k _ _ _ q)⟩
theorem _root_.L2.PSs.imp {X : Cx} {e : List Stmt} {t t' : TS} (h : PSs X e t) (k : ∀ D σ H, t' D σ H → t D σ H) : PSs X e t' := ⟨fun pins s σ H Q I q => h.run pins s σ H Q I (k _ _ _ q)⟩

section
variable {C : Cf} {m m1 : Md} {env : Ev} {σ : St} {w w1 : Wd} {H H1 : Hp} {st : Sto} {Q : VK}

theorem RepM.shift {K : PySem.W.Frag} {H0 H1 : Hp} {v : V} {d : D} (h : RepM K m H1 w H v d) (k : ∀ a, H1 a = none → H0 a = none) : RepM K m H0 w H v d := by
  cases m with
  | esc => exact h
  | rd => exact h
  | fr =>
    cases d with
    | lst ds =>
      obtain ⟨a, vs, e1, e2, e3, e4, e5⟩ := h
      exact ⟨a, vs, e1, e2, k a e3, e4, e5⟩
    | _ => exact h
theorem Le.back {w w' : Wd} {H H' : Hp} (l : Le w H w' H') {a : Addr} (h : H' a = none) : H a = none := by
  cases e : H a with
  | none => rfl
  | some o => obtain ⟨o', e'⟩ := l.live a o e; rw [h] at e'; cases e'
theorem PostE.le {r : R D} (h : PostE C m env σ w H r Q) (l : Le w H w1 H1) : PostE C m env σ w1 H1 r Q := by
  cases r with
  | ok d st' => exact fun w' v H' l' s rep => h w' v H' (l.trans l') s (rep.shift fun a e => l.back e)
  | exc x st' => exact fun w' H' c dx l' s xr => h w' H' c dx (l.trans l') s xr
  | stuck => exact h
/-- first one operand -/
theorem PostE.bind {r : R D} {k : D → Sto → R D} {R' : VK} (h : PostE C m env σ w H (r.bind k) Q)
    (f : ∀ d st1 w1 v1 H1, Le w H w1 H1 → Sim C.T C.B w1 env st1 σ H1 → RepM C.T.K m1 H w1 H1 v1 d → PostE C m env σ w1 H1 (k d st1) Q → R' v1 H1) : PostE C m1 env σ w H r R' := by
  cases r with
  | ok d st' => exact fun w' v H' l' s rep => f d st' w' v H' l' s rep (PostE.le (r := k d st') h l')
  | exc x st' => exact h
  | stuck => exact h
theorem PostE.done {d : D} {v : V} (h : PostE C m env σ w H (.ok d st) Q) (s : Sim C.T C.B w env st σ H) (r : RepM C.T.K m H w H v d) : Q v H := h w v H (.refl _ _) s r
/-- plain results, in any mode -/
theorem RepM.non {K : PySem.W.Frag} {H0 : Hp} : RepM K m H0 w H .non .non := by cases m <;> first | exact .non | exact .inl .non
theorem RepM.bl {K : PySem.W.Frag} {H0 : Hp} (b : Bool) : RepM K m H0 w H (.bl b) (.bl b) := by cases m <;> first | exact .bl b | exact .inl (.bl b)
theorem RepM.int {K : PySem.W.Frag} {H0 : Hp} (b : Int) : RepM K m H0 w H (.int b) (.int b) := by cases m <;> first | exact .int b | exact .inl (.int b)
theorem RepM.str {K : PySem.W.Frag} {H0 : Hp} (b : Str) : RepM K m H0 w H (.str b) (.str b) := by cases m <;> first | exact .str b | exact .inl (.str b)
theorem RepM.tup {K : PySem.W.Frag} {H0 : Hp} {v : V} {ds : List D} (h : Rep K w H v (.tup ds)) : RepM K m H0 w H v (.tup ds) := by cases m <;> first | exact h | exact .inl h
/-- a new tuple -/
theorem PostE.tup {p : Addr} {vs : List V} {ds : List D} (h : PostE C m env σ w H (.ok (.tup ds) st) Q) (s : Sim C.T C.B w env st σ H) (r : Reps C.T.K w H vs ds) (hp : H p = none) : Q (.ref p) (upd H p (.tup vs)) := by
  have l : Le w H w (upd H p (.tup vs)) := Le.push hp
  exact h w (.ref p) _ l (s.push hp) (RepM.tup (.tup (SqT.of upd_same) (Reps.to (l.ok2 s.sto) _ _ r)))
/-- a new list -/
theorem PostE.lst {p : Addr} {vs : List V} {ds : List D} (h : PostE C .fr env σ w H (.ok (.lst ds) st) Q) (s : Sim C.T C.B w env st σ H) (r : Reps C.T.K w H vs ds) (hp : H p = none) : Q (.ref p) (upd H p (.lst vs)) := by
  have l : Le w H (w.add p) (upd H p (.lst vs)) := (Le.push hp).add hp
  exact h (w.add p) (.ref p) _ l (s.pushO hp) ⟨p, vs, rfl, upd_same, hp, .inr rfl, Reps.to (l.ok2 s.sto) _ _ r⟩
/-- a new list may be kept -/
theorem PostE.ofFr {r : R D} (h : PostE C .esc env σ w H r Q) (s0 : Sim C.T C.B w env st σ H) : PostE C .fr env σ w H r Q := by
  cases r with
  | stuck => exact h
  | exc x st' => exact h
  | ok d st' =>
    intro w' v H' l s rep
    cases d with
    | lst ds =>
      obtain ⟨a, vs, e1, e2, e3, e4, e5⟩ := rep
      have nb : ∀ b, H b ≠ none → b ≠ a := fun b hb z => hb (z ▸ e3)
      have ok : Ok2 w' H' (w'.sub a) H' := ⟨fun _ _ e => e, fun _ _ e _ => e, fun b u e n1 n2 => ⟨e, fun z => n1 z.1, n2⟩⟩
      have s' : Sim C.T C.B (w'.sub a) env st' σ H' := by
        have nB : ∀ b, C.B.w.S b → b ≠ a := fun b z => by
          refine nb b ?_
          have q := s.bal b z
          cases q1 : C.B.H b with
          | none => exact absurd q1 q
          | some o => obtain ⟨o', e'⟩ := s0.le.live b o q1; rw [e']; intro z; cases z
        refine ⟨s.len, fun i sl e => ?_, s.dist, s.sto.to ok (fun _ _ => rfl) rfl, fun b z => s.al b z.1, ⟨s.le.pre, s.le.fr, s.le.live, s.le.new, fun b z => s.le.S b z.1, fun b z => ⟨s.sub b z, nB b z⟩⟩, fun b z => ⟨s.sub b z, nB b z⟩, s.bal, fun p hp => (s.pin p hp).to ok fun a u e n _ => ⟨e, n⟩⟩
        · have q := s.slot i sl e
          have q0 := s0.slot i sl e
          match sl, q, q0 with
          | none, _, _ => trivial
          | some (.frz, d), ⟨v, e, r⟩, _ => exact ⟨v, e, Rep.to ok _ _ r⟩
          | some (.own, d), ⟨b, us, ds, f1, f2, f3, r, f4, f5⟩, ⟨b', us', ds', g1, g2, g3, _⟩ =>
            rw [g1] at f1; cases f1
            exact ⟨_, us, ds, g1, f2, f3, Reps.to ok _ _ r, ⟨f4, nb _ (by rw [g3]; intro z; cases z)⟩, f5⟩
          | some (.bor, d), ⟨b, us, ds, f1, f2, r, f4⟩, _ => exact ⟨b, us, ds, f1, f2, Reps.to ok _ _ r, f4.to fun a u e n _ => ⟨e, n⟩⟩
          | some (.exc, d), ⟨b, c, cls, dd, f, v0, ee, g1, g2, g3, g4, g5, g6, r⟩, _ => exact ⟨b, c, cls, dd, f, v0, ee, g1, g2, g3, g4, fun z => g5 z.1, g6, Rep.to ok _ _ r⟩
      refine h (w'.sub a) v H' ⟨l.pre, l.fr, l.live, l.new, fun b z => l.S b z.1, fun b z => ⟨l.Sm b z, nb b (s0.al b z).1⟩⟩ s' ?_
      subst e1
      exact .lst (.inl e2) (fun z => z.2 rfl) (s.al a e4).2 (Reps.to ok _ _ e5)
    | _ => exact h w' v H' l s rep
end

section
variable {G : Ct} {M : Mo} {m : Md} {e : Expr} {f : F}
theorem SndE.keep (h : SndE G M .fr e f) : SndE G M .esc e f := fun X C g => (h X C g).imp fun σ H Q ⟨w, env, st, s, p⟩ => ⟨w, env, st, s, p.ofFr s⟩
theorem SndE.read (h : SndE G M .esc e f) : SndE G M .rd e f := fun X C g => (h X C g).imp fun σ H Q ⟨w, env, st, s, p⟩ => ⟨w, env, st, s, by
  cases q : f env st with
  | ok d st' => rw [q] at p; exact fun w' v H' l s r => p w' v H' l s (.inl r)
  | exc x st' => rw [q] at p; exact p
  | stuck => rw [q] at p; exact p⟩
end
end NC

/-! ### expressions: names, constants, operators, comparisons, tests -/
namespace NC
open PySem L2

/-! names and constants -/
def bVar (i : Nat) : F := fun env st => match env[i]? with
  | some (some (.frz, d)) => .ok d st
  | _ => .stuck
def bVarR (i : Nat) : F := fun env st => match env[i]? with
  | some (some (.exc, _)) => .stuck
  | some (some (_, d)) => .ok d st
  | _ => .stuck
def bC (d : D) : F := fun _ st => .ok d st
section
variable {G : Ct} {M : Mo} {m : Md} {X : Cx} {C : Cf}

theorem join_some {α : Type} {o : Option (Option α)} {v : α} (h : o.join = some v) : o = some (some v) := by
  cases o with
  | none => cases h
  | some o => exact congrArg some h
theorem sn_var {i : Nat} {x : Str} {pos : Pos} (hN : G.N[i]? = some x) (hv : Vis G.sc x) (hd : (x == ("__debug__" : Str)) = false := by decide) (hcd : (x == ("__classdict__" : Str)) = false := by decide) : SndE G M .esc (.Name x pos) (bVar i) := by
  intro X C g
  refine (pe_var (i := i) (x := x) (by rw [g.N]; exact hN) (by rw [g.sc]; exact hv) hd hcd).imp fun σ H Q ⟨w, env, st, s, p⟩ => ?_
  unfold bVar at p
  cases e : env[i]? with
  | none => rw [e] at p; exact p.elim
  | some sl =>
    rw [e] at p
    match sl, e, p with
    | none, _, p => exact p.elim
    | some (.own, _), _, p => exact p.elim
    | some (.bor, _), _, p => exact p.elim
    | some (.exc, _), _, p => exact p.elim
    | some (.frz, d), e, p =>
      obtain ⟨v, e1, r⟩ := s.slot i _ e
      exact ⟨v, join_some e1, p.done s r⟩
theorem sn_varR {i : Nat} {x : Str} {pos : Pos} (hN : G.N[i]? = some x) (hv : Vis G.sc x) (hd : (x == ("__debug__" : Str)) = false := by decide) (hcd : (x == ("__classdict__" : Str)) = false := by decide) : SndE G M .rd (.Name x pos) (bVarR i) := by
  intro X C g
  refine (pe_var (i := i) (x := x) (by rw [g.N]; exact hN) (by rw [g.sc]; exact hv) hd hcd).imp fun σ H Q ⟨w, env, st, s, p⟩ => ?_
  unfold bVarR at p
  cases e : env[i]? with
  | none => rw [e] at p; exact p.elim
  | some sl =>
    rw [e] at p
    match sl, e, p with
    | none, _, p => exact p.elim
    | some (.own, d), e, p =>
      obtain ⟨a, vs, ds, e1, rfl, e3, r, f4, f5⟩ := s.slot i _ e
      exact ⟨_, join_some e1, p.done s (.inr ⟨a, vs, ds, rfl, rfl, .inl ⟨.inl e3, (s.al a f4).2⟩, r⟩)⟩
    | some (.bor, d), e, p =>
      obtain ⟨a, vs, ds, e1, rfl, r, f4⟩ := s.slot i _ e
      exact ⟨_, join_some e1, p.done s (.inr ⟨a, vs, ds, rfl, rfl, f4.imp (fun z => ⟨z.1, z.2.1⟩) fun z => z, r⟩)⟩
    | some (.exc, _), _, p => exact p.elim
    | some (.frz, d), e, p =>
      obtain ⟨v, e1, r⟩ := s.slot i _ e
      exact ⟨v, join_some e1, p.done s (.inl r)⟩
theorem sn_int {i : Int} {j pos} : SndE G M m (.Constant (.int i) j pos) (bC (.int i)) := fun X C g => pe_int.imp fun σ H Q ⟨w, env, st, s, p⟩ => PostE.done p s (RepM.int i)
theorem sn_str {i : Str} {j pos} : SndE G M m (.Constant (.str i) j pos) (bC (.str i)) := fun X C g => pe_str.imp fun σ H Q ⟨w, env, st, s, p⟩ => PostE.done p s (RepM.str i)
theorem sn_bl {i : Bool} {j pos} : SndE G M m (.Constant (.bool i) j pos) (bC (.bl i)) := fun X C g => pe_bl.imp fun σ H Q ⟨w, env, st, s, p⟩ => PostE.done p s (RepM.bl i)
theorem sn_non {j pos} : SndE G M m (.Constant .none j pos) (bC .non) := fun X C g => pe_non.imp fun σ H Q ⟨w, env, st, s, p⟩ => PostE.done p s RepM.non
/-- a constant of the module -/
structure GlobOk (M : Mo) (x : Str) (d : D) : Prop where
  ex : ∃ (v : V) (u : Value), M.mg x = some u ∧ RelV v u ∧ ∀ w H, Rep M.T.K w H v d
theorem sn_glob {x : Str} {d : D} {pos : Pos} (h : GlobOk M x d) (hg : G.sc.names.lookup x = some .globalImplicit) (hd : (x == ("__debug__" : Str)) = false := by decide) : SndE G M .esc (.Name x pos) (bC d) := by
  obtain ⟨v, u, h1, h2, h3⟩ := h.ex
  intro X C g
  refine (pe_glob (v := v) (by show X.env.scope.names.lookup x = _; rw [g.sc]; exact hg) (by rw [g.mg]; exact h1) h2 hd).imp fun σ H Q ⟨w, env, st, s, p⟩ => ?_
  refine PostE.done p s ?_
  rw [show C.T = M.T from g.T]
  exact h3 w H
end

/-! two operands -/
def bBin (k : D → D → Sto → R D) (f g : F) : F := fun env st => (f env st).bind fun a st1 => (g env st1).bind fun b st2 => k a b st2
/-- what an operation of two values does -/
def OpS (G : Ct) (M : Mo) (m : Md) (op : Value → Value → Sem Value) (k : D → D → Sto → R D) : Prop := ∀ X C, Gd G M X C → ∃ r, OpR X op r ∧
  ∀ env σ w H st d1 d2 v1 v2 Q, Sim C.T C.B w env st σ H → RepR C.T.K w H v1 d1 → RepR C.T.K w H v2 d2 → PostE C m env σ w H (k d1 d2 st) Q → r v1 v2 H Q
section
variable {G : Ct} {M : Mo} {m : Md} {X : Cx} {C : Cf} {a b c : Expr} {f g h : F} {k k' : D → D → Sto → R D} {pos : Pos}
theorem bin_post (r : R2) (gd : Gd G M X C) (ha : SndE G M .rd a f) (hb : SndE G M .rd b g)
    (hr : ∀ env σ w H st d1 d2 v1 v2 Q, Sim C.T C.B w env st σ H → RepR C.T.K w H v1 d1 → RepR C.T.K w H v2 d2 → PostE C m env σ w H (k d1 d2 st) Q → r v1 v2 H Q) :
    ∀ σ H Q, tE C m (bBin k f g) σ H Q → tOp r (tE C .rd f) (tE C .rd g) σ H Q := fun σ H Q ⟨w, env, st, s, p⟩ => by
  refine ⟨w, env, st, s, p.bind fun d st1 w1 v1 H1 l1 s1 r1 p1 => ⟨w1, env, st1, s1, p1.bind fun d2 st2 w2 v2 H2 l2 s2 r2 p2 => ?_⟩⟩
  exact hr env σ w2 H2 st2 d d2 v1 v2 Q s2 (RepR.le r1 l2 s1.sto) r2 p2
theorem sn_bin {op : Operator} (ha : SndE G M .rd a f) (hb : SndE G M .rd b g) (ho : OpS G M m (binaryOp op) k) : SndE G M m (.BinOp a op b pos) (bBin k f g) := by
  intro X C gd
  obtain ⟨r, h1, h2⟩ := ho X C gd
  exact (pe_op h1 (ha X C gd) (hb X C gd)).imp (bin_post r gd ha hb h2)
theorem sn_cmp {op : CmpOp} (ha : SndE G M .rd a f) (hb : SndE G M .rd b g) (ho : OpS G M m (compareOp op) k) (hm : behindInMarks op b = false) : SndE G M m (.Compare a [op] [b] pos) (bBin k f g) := by
  intro X C gd
  obtain ⟨r, h1, h2⟩ := ho X C gd
  exact (pe_cmpR h1 (ha X C gd) (hb X C gd) hm).imp (bin_post r gd ha hb h2)
end

/-! the operations -/
def kAdd : D → D → Sto → R D
  | .int i, .int j, st => .ok (.int (i + j)) st
  | .str i, .str j, st => if i.length + j.length ≤ sizeLine then .ok (.str (i ++ j)) st else .stuck
  | .lst xs, .lst ys, st => if xs.length + ys.length ≤ sizeLine then .ok (.lst (xs ++ ys)) st else .stuck
  | .tup xs, .tup ys, st => if xs.length + ys.length ≤ sizeLine then .ok (.tup (xs ++ ys)) st else .stuck
  | _, _, _ => .stuck
def kSub : D → D → Sto → R D
  | .int i, .int j, st => .ok (.int (i - j)) st
  | _, _, _ => .stuck
def kMul : D → D → Sto → R D
  | .int i, .int j, st => if (-(2 ^ 64) < i ∧ i < 2 ^ 64) ∨ (-(2 ^ 64) < j ∧ j < 2 ^ 64) then .ok (.int (i * j)) st else .stuck
  | _, _, _ => .stuck
def kFdiv : D → D → Sto → R D
  | .int i, .int j, st => if 0 < j ∧ j < 1073741824 then .ok (.int (i / j)) st else .stuck
  | _, _, _ => .stuck
def kMod : D → D → Sto → R D
  | .int i, .int j, st => if 0 < j then .ok (.int (i % j)) st else .stuck
  | _, _, _ => .stuck
def kPow : D → D → Sto → R D
  | .int i, .int j, st => if 0 ≤ j ∧ j ≤ 1000000 ∧ i.natAbs < 2 ^ 64 then .ok (.int (i ^ j.toNat)) st else .stuck
  | _, _, _ => .stuck
def kCmp (p : Int → Int → Bool) : D → D → Sto → R D
  | .int i, .int j, st => .ok (.bl (p i j)) st
  | _, _, _ => .stuck
abbrev kLt := kCmp fun i j => decide (i < j)
abbrev kLe := kCmp fun i j => decide (i ≤ j)
abbrev kGt := kCmp fun i j => decide (j < i)
abbrev kGe := kCmp fun i j => decide (j ≤ i)

theorem _root_.L2.Inv.lstR {X : Cx} {pins : List (Addr × Obj)} {σ : St} {H : Hp} {s : Shared} {l : Addr} {xs : List V} (I : Inv X pins σ H s) (h : LstAt X.K H l xs) :
    xs.length ≤ sizeLine ∧ ∃ its n, Vals xs its ∧ xs.length = its.length ∧ s.heap.get? l = some { cls := Value.type "list", data := Data.seq its.toArray n } := by
  rcases h with h | ⟨its, n, e, hz, r⟩
  · obtain ⟨z, its, n, r, e⟩ := h.ok I.hok
    exact ⟨z, its, n, r, r.length, e⟩
  · exact ⟨hz, its, n, r, r.length, I.kIn l _ e⟩
def rCatR (K : PySem.W.Frag) : R2 := fun x y H Q => ∃ l b xs zs, x = .ref l ∧ y = .ref b ∧ LstAt K H l xs ∧ LstAt K H b zs ∧ xs.length + zs.length ≤ sizeLine ∧ ∀ p, H p = none → Q (.ref p) (upd H p (.lst (xs ++ zs)))
theorem op_catR {X : Cx} : OpR X (binaryOp .Add) (rCatR X.K) := by
  intro pins s σ H x y v u Q I rx ry h
  obtain ⟨l, b, xs, zs, rfl, rfl, hH, hB, hz, q⟩ := h
  cases rx
  cases ry
  obtain ⟨z, its, n, r, hl, e⟩ := I.lstR hH
  obtain ⟨z2, its2, n2, r2, hl2, e2⟩ := I.lstR hB
  refine PySem.P.add_list e e2 ?_ (by rw [List.size_toArray, List.size_toArray]; omega)
  have ea : its.toArray ++ its2.toArray = (its ++ its2).toArray := by simp
  rw [ea]
  exact ⟨.ref _, _, I.lnew (t' := s.toks) (r.append r2) (by rw [List.length_append]; omega), rfl, q _ I.fresh⟩

section
variable {G : Ct} {M : Mo} {m : Md} {X : Cx} {C : Cf}
theorem os_add : OpS G M .fr (binaryOp .Add) kAdd := by
  intro X C g
  refine ⟨_, op_add.or (op_add_str.or (op_catR.or op_catA)), fun env σ w H st d1 d2 v1 v2 Q s r1 r2 p => ?_⟩
  unfold kAdd at p
  rw [show X.K = C.T.K from g.K.trans (by rw [g.T])]
  split at p
  · cases r1.int; cases r2.int
    exact .inl ⟨_, _, rfl, rfl, p.done s (RepM.int _)⟩
  · split at p
    · cases r1.str; cases r2.str
      exact .inr (.inl ⟨_, _, rfl, rfl, by assumption, p.done s (RepM.str _)⟩)
    · exact p.elim
  · split at p
    · obtain ⟨a, vs, rfl, e1, n1, q1⟩ := r1.lst
      obtain ⟨b, us, rfl, e2, n2, q2⟩ := r2.lst
      refine .inr (.inr (.inl ⟨a, b, vs, us, rfl, rfl, e1, e2, by rw [q1.length, q2.length]; assumption, fun pp hp => p.lst s (q1.append q2) hp⟩))
    · exact p.elim
  · rename_i xs ys
    split at p
    · obtain ⟨a, vs, rfl, e1, q1⟩ := r1.tup
      obtain ⟨b, us, rfl, e2, q2⟩ := r2.tup
      refine .inr (.inr (.inr ⟨a, b, vs, us, rfl, rfl, e1, e2, by rw [q1.length, q2.length]; assumption, ?_⟩))
      have fin : ∀ z, Rep C.T.K w H z (.tup (xs ++ ys)) → Q z H := fun z hz => p.done s hz
      refine ⟨fun e => fin _ ?_, fun h1 h2 => fin _ ?_, fun h1 h2 pp hp => p.tup s (q1.append q2) hp⟩
      · have := q1.append q2
        rw [e] at this q1
        cases q1
        exact .tup e2 this
      · have := q1.append q2
        rw [h2] at q2
        cases q2
        rw [List.append_nil] at this ⊢
        exact .tup e1 q1
    · exact p.elim
  · exact p.elim
theorem os_int {op : Value → Value → Sem Value} {c : Int → Int → Prop} {gf : Int → Int → Int} {k : D → D → Sto → R D} (ho : ∀ X : Cx, OpR X op (rI c fun i j => .int (gf i j)))
    (hk : ∀ d1 d2 st, k d1 d2 st = .stuck ∨ ∃ i j, d1 = .int i ∧ d2 = .int j ∧ c i j ∧ k d1 d2 st = .ok (.int (gf i j)) st) : OpS G M m op k := by
  intro X C g
  refine ⟨_, ho X, fun env σ w H st d1 d2 v1 v2 Q s r1 r2 p => ?_⟩
  rcases hk d1 d2 st with e | ⟨i, j, rfl, rfl, hc, e⟩
  · rw [e] at p; exact p.elim
  · rw [e] at p
    cases r1.int; cases r2.int
    exact ⟨i, j, rfl, rfl, hc, p.done s (RepM.int _)⟩
theorem os_sub : OpS G M m (binaryOp .Sub) kSub := by
  refine os_int (c := fun _ _ => True) (gf := fun i j => i - j) (fun X => ?_) fun d1 d2 st => ?_
  · intro pins s σ H x y v u Q I rx ry ⟨i, j, e1, e2, _, q⟩
    exact op_sub pins s σ H x y v u Q I rx ry ⟨i, j, e1, e2, q⟩
  · unfold kSub
    split
    · exact .inr ⟨_, _, rfl, rfl, trivial, rfl⟩
    · exact .inl rfl
theorem os_mul : OpS G M m (binaryOp .Mult) kMul := by
  refine os_int (c := CMul) (gf := fun i j => i * j) (fun X => op_mul) fun d1 d2 st => ?_
  unfold kMul
  split
  · split
    · exact .inr ⟨_, _, rfl, rfl, by assumption, rfl⟩
    · exact .inl rfl
  · exact .inl rfl
theorem os_fdiv : OpS G M m (binaryOp .FloorDiv) kFdiv := by
  refine os_int (c := CDiv) (gf := fun i j => i / j) (fun X => op_fdiv) fun d1 d2 st => ?_
  unfold kFdiv
  split
  · split
    · exact .inr ⟨_, _, rfl, rfl, by assumption, rfl⟩
    · exact .inl rfl
  · exact .inl rfl
theorem os_mod : OpS G M m (binaryOp .Mod) kMod := by
  refine os_int (c := fun _ j => 0 < j) (gf := fun i j => i % j) (fun X => op_mod) fun d1 d2 st => ?_
  unfold kMod
  split
  · split
    · exact .inr ⟨_, _, rfl, rfl, by assumption, rfl⟩
    · exact .inl rfl
  · exact .inl rfl
theorem os_pow : OpS G M m (binaryOp .Pow) kPow := by
  refine os_int (c := CPow) (gf := fun i j => i ^ j.toNat) (fun X => op_pow) fun d1 d2 st => ?_
  unfold kPow
  split
  · split
    · exact .inr ⟨_, _, rfl, rfl, by assumption, rfl⟩
    · exact .inl rfl
  · exact .inl rfl
theorem os_cmp {op : CmpOp} {q : Int → Int → Bool} (ho : ∀ X : Cx, OpR X (compareOp op) (rI0 fun i j => .bl (q i j))) : OpS G M m (compareOp op) (kCmp q) := by
  intro X C g
  refine ⟨_, ho X, fun env σ w H st d1 d2 v1 v2 Q s r1 r2 p => ?_⟩
  unfold kCmp at p
  split at p
  · cases r1.int; cases r2.int
    exact ⟨_, _, rfl, rfl, p.done s (RepM.bl _)⟩
  · exact p.elim
theorem os_lt : OpS G M m (compareOp .Lt) kLt := os_cmp fun X => op_lt
theorem os_le : OpS G M m (compareOp .LtE) kLe := os_cmp fun X => op_le
theorem os_gt : OpS G M m (compareOp .Gt) kGt := os_cmp fun X => op_gt
theorem os_ge : OpS G M m (compareOp .GtE) kGe := os_cmp fun X => op_ge
end

/-! == and != of data -/
mutual
def D.py : D → PyData
  | .non => .none
  | .bl b => .bool b
  | .int i => .int i
  | .str x => .str x
  | .tup xs => .tuple (D.pys xs)
  | .lst xs => .list (D.pys xs)
  | .loc _ => .dict []
def D.pys : List D → List PyData
  | [] => []
  | d :: ds => d.py :: D.pys ds
end
theorem D.pys_map : ∀ ds : List D, D.pys ds = ds.map D.py
  | [] => rfl
  | d :: ds => by rw [D.pys, D.pys_map ds]; rfl
mutual
/-- no object within -/
def D.flat : D → Bool
  | .loc _ => false
  | .tup xs => D.flats xs
  | .lst xs => D.flats xs
  | _ => true
def D.flats : List D → Bool
  | [] => true
  | d :: ds => d.flat && D.flats ds
end
mutual
theorem Rep.dp {K : PySem.W.Frag} {w : Wd} {H : Hp} : ∀ (d : D) (v : V), d.py.canLay0 = true → Rep K w H v d → Dp K H v d.py
  | .non, _, _, h => by cases h; exact .non
  | .bl b, _, _, h => by cases h; exact .bl b
  | .int i, _, _, h => by cases h; exact .int i
  | .str x, _, _, h => by cases h; exact .str x
  | .loc n, _, q, h => by
    have : (D.loc n).py.canLay0 = false := by simp [D.py, PyData.canLay0]
    rw [this] at q; cases q
  | .tup ds, _, q, h => by
    cases h with
    | tup s r =>
      rw [D.py, PyData.canLay0] at q
      exact .tup s (Reps.dp ds _ q r)
  | .lst ds, _, q, h => by
    cases h with
    | lst s n1 n2 r =>
      rw [D.py, PyData.canLay0] at q
      exact .lst (.inl s) (Reps.dp ds _ q r)
    | klst s r =>
      rw [D.py, PyData.canLay0] at q
      exact .lst (LstAt.sq (H := H) (.inr s)) (Reps.dp ds _ q r)
theorem Reps.dp {K : PySem.W.Frag} {w : Wd} {H : Hp} : ∀ (ds : List D) (vs : List V), PyData.canLayAll0 (D.pys ds) = true → Reps K w H vs ds → DpAll K H vs (D.pys ds)
  | [], _, _, h => by cases h; exact .nil
  | d :: ds, _, q, h => by
    cases h with
    | cons h1 h2 =>
      rw [D.pys, PyData.canLayAll0, Bool.and_eq_true] at q
      exact .cons (Rep.dp d _ q.1 h1) (Reps.dp ds _ q.2 h2)
end
theorem RepR.dp {K : PySem.W.Frag} {w : Wd} {H : Hp} {d : D} {v : V} (q : SeqAt.shaped d.py = true) (h : RepR K w H v d) : Dp K H v d.py := by
  have q' := SeqAt.canLay_of_shaped q
  rcases h with h | ⟨a, vs, ds, rfl, rfl, e3, r⟩
  · exact Rep.dp _ _ q' h
  · rw [D.py, PyData.canLay0] at q'
    exact .lst (LstAt.sq (e3.imp (fun z => z.1) fun z => z)) (Reps.dp ds _ q' r)
/-- == of two values -/
def eqv : D → D → Option Bool
  | .int i, .int j => some (decide (i = j))
  | .str i, .str j => some (decide (i = j))
  | .bl i, .bl j => some (decide (i = j))
  | .non, .int _ => some false
  | .int _, .non => some false
  | .non, .str _ => some false
  | .str _, .non => some false
  | .non, .bl _ => some false
  | .bl _, .non => some false
  | .non, .non => some true
  | .int _, .str _ => some false
  | .str _, .int _ => some false
  | .bl _, .str _ => some false
  | .str _, .bl _ => some false
  | d, e => if SeqAt.shaped d.py = true ∧ SeqAt.shaped e.py = true then some (PyData.eqv d.py e.py) else none
def kEq : D → D → Sto → R D := fun d e st => match eqv d e with
  | some b => .ok (.bl b) st
  | none => .stuck
def kNe : D → D → Sto → R D := fun d e st => match eqv d e with
  | some b => .ok (.bl (!b)) st
  | none => .stuck
theorem eqv_cases (d e : D) (b : Bool) (h : eqv d e = some b) : (∃ x y : V, (∀ K w H v, RepR K w H v d → v = x) ∧ (∀ K w H v, RepR K w H v e → v = y) ∧ scal x y = true ∧ decide (x = y) = b) ∨ (SeqAt.shaped d.py = true ∧ SeqAt.shaped e.py = true ∧ PyData.eqv d.py e.py = b) := by
  unfold eqv at h
  split at h
  all_goals first
    | (cases h; refine .inl ⟨_, _, fun K w H v r => r.int, fun K w H v r => r.int, rfl, ?_⟩; simp; done)
    | (cases h; refine .inl ⟨_, _, fun K w H v r => r.str, fun K w H v r => r.str, rfl, ?_⟩; simp; done)
    | (cases h; refine .inl ⟨_, _, fun K w H v r => r.bl, fun K w H v r => r.bl, rfl, ?_⟩; simp; done)
    | (cases h; refine .inl ⟨_, _, fun K w H v r => r.non, fun K w H v r => r.int, rfl, ?_⟩; simp; done)
    | (cases h; refine .inl ⟨_, _, fun K w H v r => r.int, fun K w H v r => r.non, rfl, ?_⟩; simp; done)
    | (cases h; refine .inl ⟨_, _, fun K w H v r => r.non, fun K w H v r => r.str, rfl, ?_⟩; simp; done)
    | (cases h; refine .inl ⟨_, _, fun K w H v r => r.str, fun K w H v r => r.non, rfl, ?_⟩; simp; done)
    | (cases h; refine .inl ⟨_, _, fun K w H v r => r.non, fun K w H v r => r.bl, rfl, ?_⟩; simp; done)
    | (cases h; refine .inl ⟨_, _, fun K w H v r => r.bl, fun K w H v r => r.non, rfl, ?_⟩; simp; done)
    | (cases h; refine .inl ⟨_, _, fun K w H v r => r.non, fun K w H v r => r.non, rfl, ?_⟩; simp; done)
    | (cases h; refine .inl ⟨_, _, fun K w H v r => r.int, fun K w H v r => r.str, rfl, ?_⟩; simp; done)
    | (cases h; refine .inl ⟨_, _, fun K w H v r => r.str, fun K w H v r => r.int, rfl, ?_⟩; simp; done)
    | (cases h; refine .inl ⟨_, _, fun K w H v r => r.bl, fun K w H v r => r.str, rfl, ?_⟩; simp; done)
    | (cases h; refine .inl ⟨_, _, fun K w H v r => r.str, fun K w H v r => r.bl, rfl, ?_⟩; simp; done)
    | (split at h
       · rename_i hc
         exact .inr ⟨hc.1, hc.2, Option.some.inj h⟩
       · cases h)
section
variable {G : Ct} {M : Mo} {m : Md} {X : Cx} {C : Cf}
theorem os_eq : OpS G M m (compareOp .Eq) kEq := by
  intro X C g
  refine ⟨_, op_eq.or (op_eqD g.units), fun env σ w H st d1 d2 v1 v2 Q s r1 r2 p => ?_⟩
  rw [show X.K = C.T.K from g.K.trans (by rw [g.T])]
  unfold kEq at p
  cases e : eqv d1 d2 with
  | none => rw [e] at p; exact p.elim
  | some b =>
    rw [e] at p
    have fin : Q (.bl b) H := PostE.done p s (RepM.bl _)
    rcases eqv_cases _ _ _ e with ⟨x, y, h1, h2, h3, h4⟩ | ⟨h1, h2, h3⟩
    · rw [h1 _ _ _ _ r1, h2 _ _ _ _ r2]
      exact .inl ⟨h3, by rw [h4]; exact fin⟩
    · exact .inr ⟨_, _, r1.dp h1, r2.dp h2, h1, h2, by rw [h3]; exact fin⟩
theorem os_ne : OpS G M m (compareOp .NotEq) kNe := by
  intro X C g
  refine ⟨_, op_ne.or (op_neD g.units), fun env σ w H st d1 d2 v1 v2 Q s r1 r2 p => ?_⟩
  rw [show X.K = C.T.K from g.K.trans (by rw [g.T])]
  unfold kNe at p
  cases e : eqv d1 d2 with
  | none => rw [e] at p; exact p.elim
  | some b =>
    rw [e] at p
    have fin : Q (.bl (!b)) H := PostE.done p s (RepM.bl _)
    rcases eqv_cases _ _ _ e with ⟨x, y, h1, h2, h3, h4⟩ | ⟨h1, h2, h3⟩
    · rw [h1 _ _ _ _ r1, h2 _ _ _ _ r2]
      exact .inl ⟨h3, by rw [h4]; exact fin⟩
    · exact .inr ⟨_, _, r1.dp h1, r2.dp h2, h1, h2, by rw [h3]; exact fin⟩
end
end NC

/-! ### chains, tests, in, subscripts, displays, argument lists -/
namespace NC
open PySem L2

/-! in -/
def D.atom : D → Bool
  | .non => true | .bl _ => true | .int _ => true | .str _ => true
  | _ => false
def eqA : D → D → Bool
  | .non, .non => true
  | .bl a, .bl b => a == b
  | .bl a, .int b => (if a then 1 else 0) == b
  | .int a, .bl b => a == (if b then 1 else 0)
  | .int a, .int b => a == b
  | .str a, .str b => a == b
  | _, _ => false
def inD : D → D → Option Bool
  | d, .lst ds => if d.atom = true ∧ ds.all D.atom = true then some (ds.any fun y => eqA y d)
      else if SeqAt.shaped d.py = true ∧ SeqAt.shaped (D.lst ds).py = true then some (ds.any fun z => PyData.eqv z.py d.py) else none
  | d, .tup ds => if d.atom = true ∧ ds.all D.atom = true then some (ds.any fun y => eqA y d) else none
  | .str c, .str z => if c.cps.size = 1 then some (decide (c.cps.getD 0 0 ∈ z.cps.toList)) else none
  | _, _ => none
def kIn : D → D → Sto → R D := fun d e st => match inD d e with
  | some b => .ok (.bl b) st
  | none => .stuck
def kNotIn : D → D → Sto → R D := fun d e st => match inD d e with
  | some b => .ok (.bl (!b)) st
  | none => .stuck
theorem atom_v {K : PySem.W.Frag} {w : Wd} {H : Hp} {d : D} {v : V} (a : d.atom = true) (r : RepR K w H v d) : flatV v = true := by
  cases d with
  | non => rw [r.non]; rfl
  | bl b => rw [r.bl]; rfl
  | int b => rw [r.int]; rfl
  | str b => rw [r.str]; rfl
  | _ => cases a
theorem atoms_v {K : PySem.W.Frag} {w : Wd} {H : Hp} : ∀ {ds : List D} {vs : List V}, ds.all D.atom = true → Reps K w H vs ds → vs.all flatV = true
  | _, _, _, .nil => rfl
  | d :: ds, _, a, .cons r t => by
    rw [List.all_cons, Bool.and_eq_true] at a ⊢
    exact ⟨atom_v a.1 (.inl r), atoms_v a.2 t⟩
theorem eqA_v {K : PySem.W.Frag} {w : Wd} {H : Hp} {d e : D} {v u : V} (a : d.atom = true) (b : e.atom = true) (r : RepR K w H v d) (q : RepR K w H u e) : eqV v u = eqA d e := by
  cases d with
  | non => rw [r.non]; cases e with
    | non => rw [q.non]; rfl
    | bl b => rw [q.bl]; rfl
    | int b => rw [q.int]; rfl
    | str b => rw [q.str]; rfl
    | _ => cases b
  | bl b => rw [r.bl]; cases e with
    | non => rw [q.non]; rfl
    | bl b => rw [q.bl]; rfl
    | int b => rw [q.int]; rfl
    | str b => rw [q.str]; rfl
    | _ => cases b
  | int b => rw [r.int]; cases e with
    | non => rw [q.non]; rfl
    | bl b => rw [q.bl]; rfl
    | int b => rw [q.int]; rfl
    | str b => rw [q.str]; rfl
    | _ => cases b
  | str b => rw [r.str]; cases e with
    | non => rw [q.non]; rfl
    | bl b => rw [q.bl]; rfl
    | int b => rw [q.int]; rfl
    | str b => rw [q.str]; rfl
    | _ => cases b
  | _ => cases a
theorem any_v {K : PySem.W.Frag} {w : Wd} {H : Hp} {d : D} {v : V} (a : d.atom = true) (r : RepR K w H v d) : ∀ {ds : List D} {vs : List V}, ds.all D.atom = true → Reps K w H vs ds → (vs.any fun y => eqV y v) = ds.any fun y => eqA y d
  | _, _, _, .nil => rfl
  | e :: ds, _, b, .cons q t => by
    rw [List.all_cons, Bool.and_eq_true] at b
    rw [List.any_cons, List.any_cons, eqA_v b.1 a (.inl q) r, any_v a r b.2 t]
section
variable {G : Ct} {M : Mo} {m : Md} {X : Cx} {C : Cf}
theorem in_cases {K : PySem.W.Frag} {w : Wd} {H : Hp} {d e : D} {v u : V} {b : Bool} (h : inD d e = some b) (r : RepR K w H v d) (q : RepR K w H u e) :
    (∃ p xs, u = .ref p ∧ (SqL K H p xs ∨ SqT K H p xs) ∧ flatV v = true ∧ xs.all flatV = true ∧ inV v xs = b) ∨
    (∃ d ds, Dp K H v d ∧ Dp K H u (.list ds) ∧ SeqAt.shaped d = true ∧ SeqAt.shaped (.list ds) = true ∧ (ds.any fun z => PyData.eqv z d) = b) ∨
    (∃ (c : Nat) (z : Str), v = .str ⟨#[c]⟩ ∧ u = .str z ∧ decide (c ∈ z.cps.toList) = b) := by
  unfold inD at h
  split at h
  · rename_i d ds
    obtain ⟨a, vs, e1, e3, n, rs⟩ := q.lst
    subst e1
    split at h
    · rename_i hc
      exact .inl ⟨a, vs, rfl, .inl e3.sq, atom_v hc.1 r, atoms_v hc.2 rs, by unfold inV; rw [any_v hc.1 r hc.2 rs]; exact Option.some.inj h⟩
    · split at h
      · rename_i hc
        refine .inr (.inl ⟨_, _, r.dp hc.1, q.dp hc.2, hc.1, hc.2, ?_⟩)
        rw [D.pys_map, List.any_map]
        exact Option.some.inj h
      · cases h
  · rename_i d ds
    obtain ⟨a, vs, e1, e3, rs⟩ := q.tup
    subst e1
    split at h
    · rename_i hc
      exact .inl ⟨a, vs, rfl, .inr e3, atom_v hc.1 r, atoms_v hc.2 rs, by unfold inV; rw [any_v hc.1 r hc.2 rs]; exact Option.some.inj h⟩
    · cases h
  · rename_i c z
    split at h
    · rename_i hc
      refine .inr (.inr ⟨c.cps.getD 0 0, z, ?_, q.str, Option.some.inj h⟩)
      rw [r.str]
      congr 1
      cases c with
      | mk a =>
        cases a with
        | mk l =>
          match l, hc with
          | [x], _ => rfl
    · cases h
  · cases h
theorem os_in : OpS G M m (compareOp .In) kIn := by
  intro X C g
  refine ⟨_, op_in_seq.or ((op_inD (by have := g.un; omega)).or op_in_sign), fun env σ w H st d1 d2 v1 v2 Q s r1 r2 p => ?_⟩
  rw [show X.K = C.T.K from g.K.trans (by rw [g.T])]
  unfold kIn at p
  cases e : inD d1 d2 with
  | none => rw [e] at p; exact p.elim
  | some b =>
    rw [e] at p
    have fin : Q (.bl b) H := PostE.done p s (RepM.bl _)
    rcases in_cases e r1 r2 with ⟨a, xs, h1, h2, h3, h4, h5⟩ | ⟨d, ds, h1, h2, h3, h4, h5⟩ | ⟨c, z, h1, h2, h3⟩
    · exact .inl ⟨a, xs, h1, h2, h3, h4, by rw [h5]; exact fin⟩
    · exact .inr (.inl ⟨d, ds, h1, h2, h3, h4, by rw [h5]; exact fin⟩)
    · exact .inr (.inr ⟨c, z, h1, h2, by rw [h3]; exact fin⟩)
theorem os_notIn : OpS G M m (compareOp .NotIn) kNotIn := by
  intro X C g
  refine ⟨_, op_notIn_seq.or ((op_notInD (by have := g.un; omega)).or op_notIn_sign), fun env σ w H st d1 d2 v1 v2 Q s r1 r2 p => ?_⟩
  rw [show X.K = C.T.K from g.K.trans (by rw [g.T])]
  unfold kNotIn at p
  cases e : inD d1 d2 with
  | none => rw [e] at p; exact p.elim
  | some b =>
    rw [e] at p
    have fin : Q (.bl (!b)) H := PostE.done p s (RepM.bl _)
    rcases in_cases e r1 r2 with ⟨a, xs, h1, h2, h3, h4, h5⟩ | ⟨d, ds, h1, h2, h3, h4, h5⟩ | ⟨c, z, h1, h2, h3⟩
    · exact .inl ⟨a, xs, h1, h2, h3, h4, by rw [h5]; exact fin⟩
    · exact .inr (.inl ⟨d, ds, h1, h2, h3, h4, by rw [h5]; exact fin⟩)
    · exact .inr (.inr ⟨c, z, h1, h2, by rw [h3]; exact fin⟩)
end

/-! truth, tests -/
def truD : D → Sto → Option Bool
  | .non, _ => some false
  | .bl b, _ => some b
  | .int i, _ => some (i != 0)
  | .str y, _ => if y.length ≤ sizeLine then some ((y.length : Int) != 0) else none
  | .lst ds, _ => some (!ds.isEmpty)
  | .tup ds, _ => some (!ds.isEmpty)
  | .loc n, st => match st[n]? with
    | some (.lst ds) => some (!ds.isEmpty)
    | _ => none
theorem isEmpty_r {K : PySem.W.Frag} {w : Wd} {H : Hp} {vs : List V} {ds : List D} (r : Reps K w H vs ds) : vs.isEmpty = ds.isEmpty := by cases r <;> rfl
theorem tru_v {T : Tb} {w : Wd} {H : Hp} {v : V} {d : D} {b : Bool} {st : Sto} (h : truD d st = some b) (r : RepR T.K w H v d) (s : Stok T w H st) : TruV T.K v H b := by
  cases d with
  | non => rw [r.non]; exact (Option.some.inj h).symm
  | bl b => rw [r.bl]; exact (Option.some.inj h).symm
  | int b => rw [r.int]; exact (Option.some.inj h).symm
  | str b =>
    rw [r.str]
    unfold truD at h
    simp only at h
    split at h
    · exact ⟨by assumption, (Option.some.inj h).symm⟩
    · cases h
  | lst ds =>
    obtain ⟨a, vs, e1, e3, n, rs⟩ := r.lst
    rw [e1]
    exact .inl ⟨vs, e3.sq, by rw [isEmpty_r rs]; exact (Option.some.inj h).symm⟩
  | tup ds =>
    obtain ⟨a, vs, e1, e3, rs⟩ := r.tup
    rw [e1]
    exact .inr (.inl ⟨vs, e3, by rw [isEmpty_r rs]; exact (Option.some.inj h).symm⟩)
  | loc n =>
    obtain ⟨a, e1, e2⟩ := r.loc
    rw [e1]
    unfold truD at h
    simp only at h
    cases q : st[n]? with
    | none => rw [q] at h; cases h
    | some c =>
      rw [q] at h
      cases c with
      | lst ds =>
        obtain ⟨vs, h1, h2⟩ := s.at_ _ _ _ q e2
        exact .inl ⟨vs, SqL.of h1, by rw [isEmpty_r h2]; exact (Option.some.inj h).symm⟩
      | _ => cases h
def rTru (r : R D) : R Bool := r.bind fun d st => match truD d st with
  | some b => .ok b st
  | none => .stuck
/-- an expression as a test -/
def bTru (f : F) : FB := fun env st => rTru (f env st)
/-- what gives a bool, as a test -/
def rBl (r : R D) : R Bool := r.bind fun d st => match d with
  | .bl b => .ok b st
  | _ => .stuck
def bTst (f : F) : FB := fun env st => rBl (f env st)
def bNotT (f : FB) : FB := fun env st => (f env st).bind fun b st1 => .ok (!b) st1
def bAndT (f g : FB) : FB := fun env st => (f env st).bind fun b st1 => if b = true then g env st1 else .ok false st1
def bOrT (f g : FB) : FB := fun env st => (f env st).bind fun b st1 => if b = true then .ok true st1 else g env st1
section
variable {C : Cf} {m m1 : Md} {env : Ev} {σ : St} {w w1 : Wd} {H H1 : Hp} {st : Sto} {Q : VK}
theorem PostT.le {r : R Bool} {Q : Bool → Hp → Prop} (h : PostT C env σ w H r Q) (l : Le w H w1 H1) : PostT C env σ w1 H1 r Q := by
  cases r with
  | ok d st' => exact fun w' H' l' s => h w' H' (l.trans l') s
  | exc x st' => exact fun w' H' c dx l' s xr => h w' H' c dx (l.trans l') s xr
  | stuck => exact h
theorem PostL.le {r : R (List D)} {ms : List Md} {Q : List V → Hp → Prop} (h : PostL C ms env σ w H r Q) (l : Le w H w1 H1) : PostL C ms env σ w1 H1 r Q := by
  cases r with
  | ok d st' => exact fun w' vs H' l' s rep => h w' vs H' (l.trans l') s rep
  | exc x st' => exact fun w' H' c dx l' s xr => h w' H' c dx (l.trans l') s xr
  | stuck => exact h
/-- first an operand, then a test -/
theorem PostT.bindE {r : R D} {k : D → Sto → R Bool} {Q : Bool → Hp → Prop} {R' : VK} (h : PostT C env σ w H (r.bind k) Q)
    (f : ∀ d st1 w1 v1 H1, Le w H w1 H1 → Sim C.T C.B w1 env st1 σ H1 → RepM C.T.K m1 H w1 H1 v1 d → PostT C env σ w1 H1 (k d st1) Q → R' v1 H1) : PostE C m1 env σ w H r R' := by
  cases r with
  | ok d st' => exact fun w' v H' l' s rep => f d st' w' v H' l' s rep (PostT.le (r := k d st') h l')
  | exc x st' => exact h
  | stuck => exact h
theorem PostT.bindT {r : R Bool} {k : Bool → Sto → R Bool} {Q R' : Bool → Hp → Prop} (h : PostT C env σ w H (r.bind k) Q)
    (f : ∀ d st1 w1 H1, Le w H w1 H1 → Sim C.T C.B w1 env st1 σ H1 → PostT C env σ w1 H1 (k d st1) Q → R' d H1) : PostT C env σ w H r R' := by
  cases r with
  | ok d st' => exact fun w' H' l' s => f d st' w' H' l' s (PostT.le (r := k d st') h l')
  | exc x st' => exact h
  | stuck => exact h
theorem PostE.bindT {r : R Bool} {k : Bool → Sto → R D} {R' : Bool → Hp → Prop} (h : PostE C m env σ w H (r.bind k) Q)
    (f : ∀ d st1 w1 H1, Le w H w1 H1 → Sim C.T C.B w1 env st1 σ H1 → PostE C m env σ w1 H1 (k d st1) Q → R' d H1) : PostT C env σ w H r R' := by
  cases r with
  | ok d st' => exact fun w' H' l' s => f d st' w' H' l' s (PostE.le (r := k d st') h l')
  | exc x st' => exact h
  | stuck => exact h
theorem PostE.bindL {r : R (List D)} {ms : List Md} {k : List D → Sto → R D} {R' : List V → Hp → Prop} (h : PostE C m env σ w H (r.bind k) Q)
    (f : ∀ d st1 w1 vs H1, Le w H w1 H1 → Sim C.T C.B w1 env st1 σ H1 → RepL C.T.K w1 H1 ms vs d → PostE C m env σ w1 H1 (k d st1) Q → R' vs H1) : PostL C ms env σ w H r R' := by
  cases r with
  | ok d st' => exact fun w' vs H' l' s rl => f d st' w' vs H' l' s rl (PostE.le (r := k d st') h l')
  | exc x st' => exact h
  | stuck => exact h
theorem PostL.bindE {r : R D} {ms : List Md} {k : D → Sto → R (List D)} {Q : List V → Hp → Prop} {R' : VK} (h : PostL C ms env σ w H (r.bind k) Q)
    (f : ∀ d st1 w1 v1 H1, Le w H w1 H1 → Sim C.T C.B w1 env st1 σ H1 → RepM C.T.K m1 H w1 H1 v1 d → PostL C ms env σ w1 H1 (k d st1) Q → R' v1 H1) : PostE C m1 env σ w H r R' := by
  cases r with
  | ok d st' => exact fun w' v H' l' s rep => f d st' w' v H' l' s rep (PostL.le (r := k d st') h l')
  | exc x st' => exact h
  | stuck => exact h
theorem PostL.bindL {r : R (List D)} {ms ms' : List Md} {k : List D → Sto → R (List D)} {Q R' : List V → Hp → Prop} (h : PostL C ms env σ w H (r.bind k) Q)
    (f : ∀ d st1 w1 vs H1, Le w H w1 H1 → Sim C.T C.B w1 env st1 σ H1 → RepL C.T.K w1 H1 ms' vs d → PostL C ms env σ w1 H1 (k d st1) Q → R' vs H1) : PostL C ms' env σ w H r R' := by
  cases r with
  | ok d st' => exact fun w' vs H' l' s rl => f d st' w' vs H' l' s rl (PostL.le (r := k d st') h l')
  | exc x st' => exact h
  | stuck => exact h
theorem PostT.done {b : Bool} {Q : Bool → Hp → Prop} (h : PostT C env σ w H (.ok b st) Q) (s : Sim C.T C.B w env st σ H) : Q b H := h w H (.refl _ _) s
theorem PostL.done {ms : List Md} {ds : List D} {vs : List V} {Q : List V → Hp → Prop} (h : PostL C ms env σ w H (.ok ds st) Q) (s : Sim C.T C.B w env st σ H) (r : RepL C.T.K w H ms vs ds) : Q vs H := h w vs H (.refl _ _) s r
end
section
variable {G : Ct} {M : Mo} {m : Md} {X : Cx} {C : Cf} {a b c e : Expr} {f g h : F} {k k' : D → D → Sto → R D} {pos : Pos} {p q : FB} {rest : List Expr}
/-- a value of any kind as a test -/
theorem sn_tru (ha : SndE G M .rd a f) (he : ∀ env whole, isTrue a env whole = (do let v ← whole; standAt a.pos; holding [v] (truthy v)) := by intro _ _; rfl) : SndT G M a (bTru f) := by
  intro X C gd
  refine (pt_truth (ha X C gd) (he _)).imp fun σ H Q ⟨w, env, st, s, p⟩ => ⟨w, env, st, s, ?_⟩
  refine PostT.bindE p fun d st1 w1 v1 H1 l1 s1 r1 p1 => ?_
  cases e : truD d st1 with
  | none => rw [e] at p1; exact p1.elim
  | some b =>
    rw [e] at p1
    exact ⟨b, by rw [show X.K = C.T.K from gd.K.trans (by rw [gd.T])]; exact tru_v e r1 s1.sto, PostT.done p1 s1⟩
theorem sn_tcmp {op : CmpOp} (ha : SndE G M .rd a f) (hb : SndE G M .rd b g) (ho : OpS G M .rd (compareOp op) k) (hm : behindInMarks op b = false) : SndT G M (.Compare a [op] [b] pos) (bTst (bBin k f g)) := by
  intro X C gd
  obtain ⟨r, h1, h2⟩ := ho X C gd
  refine (pt_cmpR h1 (ha X C gd) (hb X C gd) hm).imp fun σ H Q ⟨w, env, st, s, p⟩ => ?_
  refine bin_post r gd ha hb h2 σ H _ ⟨w, env, st, s, PostT.bindE (k := fun d st => match d with | .bl b => .ok b st | _ => .stuck) p fun d st1 w1 v1 H1 l1 s1 r1 p1 => ?_⟩
  cases d with
  | bl b => exact ⟨b, RepR.bl r1, PostT.done p1 s1⟩
  | _ => exact p1.elim
def bChain (k k' : D → D → Sto → R D) (f g h : F) : F := fun env st => (f env st).bind fun a st1 => (g env st1).bind fun b st2 => (k a b st2).bind fun d st3 => match d with
  | .bl true => (h env st3).bind fun c st4 => k' b c st4
  | .bl false => .ok (.bl false) st3
  | _ => .stuck
theorem chain_post (r r' : R2) (gd : Gd G M X C) (ha : SndE G M .rd a f) (hb : SndE G M .rd b g) (hc : SndE G M .rd c h)
    (hr : ∀ env σ w H st d1 d2 v1 v2 Q, Sim C.T C.B w env st σ H → RepR C.T.K w H v1 d1 → RepR C.T.K w H v2 d2 → PostE C .rd env σ w H (k d1 d2 st) Q → r v1 v2 H Q)
    (hr' : ∀ env σ w H st d1 d2 v1 v2 Q, Sim C.T C.B w env st σ H → RepR C.T.K w H v1 d1 → RepR C.T.K w H v2 d2 → PostE C .rd env σ w H (k' d1 d2 st) Q → r' v1 v2 H Q) :
    ∀ σ H Q, tE C .rd (bChain k k' f g h) σ H Q → tChain r r' (tE C .rd f) (tE C .rd g) (tE C .rd h) σ H Q := fun σ H Q ⟨w, env, st, s, p⟩ => by
  refine ⟨w, env, st, s, p.bind fun d st1 w1 v1 H1 l1 s1 r1 p1 => ⟨w1, env, st1, s1, p1.bind fun d2 st2 w2 v2 H2 l2 s2 r2 p2 => ?_⟩⟩
  refine hr env σ w2 H2 st2 d d2 v1 v2 _ s2 (RepR.le r1 l2 s1.sto) r2 (p2.bind fun d3 st3 w3 v3 H3 l3 s3 r3 p3 => ?_)
  match d3, r3, p3 with
  | .bl true, r3, p3 =>
    refine ⟨true, RepR.bl r3, ?_⟩
    rw [if_pos rfl]
    exact ⟨w3, env, st3, s3, p3.bind fun d4 st4 w4 v4 H4 l4 s4 r4 p4 => hr' env σ w4 H4 st4 d2 d4 v2 v4 Q s4 (RepR.le (RepR.le r2 l3 s2.sto) l4 s3.sto) r4 p4⟩
  | .bl false, r3, p3 =>
    refine ⟨false, RepR.bl r3, ?_⟩
    rw [if_neg Bool.false_ne_true]
    exact PostE.done p3 s3 (.inl (.bl _))
  | .non, _, p3 => exact p3.elim
  | .int _, _, p3 => exact p3.elim
  | .str _, _, p3 => exact p3.elim
  | .lst _, _, p3 => exact p3.elim
  | .tup _, _, p3 => exact p3.elim
  | .loc _, _, p3 => exact p3.elim
theorem sn_chain {op op' : CmpOp} (ha : SndE G M .rd a f) (hb : SndE G M .rd b g) (hc : SndE G M .rd c h) (ho : OpS G M .rd (compareOp op) k) (ho' : OpS G M .rd (compareOp op') k')
    (hm : lastMarks [op, op'] [b, c] = false := by with_unfolding_all rfl) : SndE G M .rd (.Compare a [op, op'] [b, c] pos) (bChain k k' f g h) := by
  intro X C gd
  obtain ⟨r, h1, h2⟩ := ho X C gd
  obtain ⟨r', h1', h2'⟩ := ho' X C gd
  exact (pe_chain h1 h1' (ha X C gd) (hb X C gd) (hc X C gd) hm).imp (chain_post r r' gd ha hb hc h2 h2')
theorem sn_tchain {op op' : CmpOp} (ha : SndE G M .rd a f) (hb : SndE G M .rd b g) (hc : SndE G M .rd c h) (ho : OpS G M .rd (compareOp op) k) (ho' : OpS G M .rd (compareOp op') k')
    (hm : lastMarks [op, op'] [b, c] = false := by with_unfolding_all rfl) : SndT G M (.Compare a [op, op'] [b, c] pos) (bTst (bChain k k' f g h)) := by
  intro X C gd
  obtain ⟨r, h1, h2⟩ := ho X C gd
  obtain ⟨r', h1', h2'⟩ := ho' X C gd
  refine (pt_chain h1 h1' (ha X C gd) (hb X C gd) (hc X C gd) hm).imp fun σ H Q ⟨w, env, st, s, p⟩ => ?_
  refine chain_post r r' gd ha hb hc h2 h2' σ H _ ⟨w, env, st, s, PostT.bindE (k := fun d st => match d with | .bl b => .ok b st | _ => .stuck) p fun d st1 w1 v1 H1 l1 s1 r1 p1 => ?_⟩
  cases d with
  | bl b => exact ⟨b, RepR.bl r1, PostT.done p1 s1⟩
  | _ => exact p1.elim
/-- a bool is a bool in any mode -/
theorem sn_tnot (ha : SndT G M a p) : SndT G M (.UnaryOp .Not a pos) (bNotT p) := by
  intro X C gd
  exact (pt_not (ha X C gd)).imp fun σ H Q ⟨w, env, st, s, p⟩ => ⟨w, env, st, s, PostT.bindT p fun d st1 w1 H1 l1 s1 p1 => PostT.done p1 s1⟩
/-- and, or: a chain of tests -/
def SndW (G : Ct) (M : Mo) (e : Expr) (f : FB) : Prop := ∀ X C, Gd G M X C → PW X e (tT C f)
theorem _root_.L2.PW.imp {X : Cx} {e : Expr} {t t' : TT} (h : PW X e t) (k : ∀ σ H Q, t' σ H Q → t σ H Q) : PW X e t' := ⟨fun wh pins s σ H Q I q => h.run wh pins s σ H Q I (k _ _ _ q)⟩
theorem sw_and1 (ha : SndT G M a p) : SndW G M (.BoolOp .And [a] pos) p := fun X C gd => pw_and1 (ha X C gd)
theorem sw_or1 (ha : SndT G M a p) : SndW G M (.BoolOp .Or [a] pos) p := fun X C gd => pw_or1 (ha X C gd)
theorem sw_and (ha : SndT G M a p) (hb : SndW G M (.BoolOp .And (b :: rest) pos) q) : SndW G M (.BoolOp .And (a :: b :: rest) pos) (bAndT p q) := fun X C gd =>
  (pw_and (ha X C gd) (hb X C gd)).imp fun σ H Q ⟨w, env, st, s, p⟩ => ⟨w, env, st, s, PostT.bindT p fun d st1 w1 H1 l1 s1 p1 => by
    cases d with
    | true => rw [if_pos rfl] at p1 ⊢; exact ⟨w1, env, st1, s1, p1⟩
    | false => rw [if_neg Bool.false_ne_true] at p1 ⊢; exact PostT.done p1 s1⟩
theorem sw_or (ha : SndT G M a p) (hb : SndW G M (.BoolOp .Or (b :: rest) pos) q) : SndW G M (.BoolOp .Or (a :: b :: rest) pos) (bOrT p q) := fun X C gd =>
  (pw_or (ha X C gd) (hb X C gd)).imp fun σ H Q ⟨w, env, st, s, p⟩ => ⟨w, env, st, s, PostT.bindT p fun d st1 w1 H1 l1 s1 p1 => by
    cases d with
    | true => rw [if_pos rfl] at p1 ⊢; exact PostT.done p1 s1
    | false => rw [if_neg Bool.false_ne_true] at p1 ⊢; exact ⟨w1, env, st1, s1, p1⟩⟩
theorem sn_tw (h : SndW G M a p) : SndT G M a p := fun X C gd => (h X C gd).pt
/-- and, or, not as values: of bools -/
def bAndV (f g : F) : F := fun env st => (f env st).bind fun d st1 => match d with
  | .bl true => g env st1
  | .bl false => .ok (.bl false) st1
  | _ => .stuck
def bOrV (f g : F) : F := fun env st => (f env st).bind fun d st1 => match d with
  | .bl true => .ok (.bl true) st1
  | .bl false => g env st1
  | _ => .stuck
def bNotV (f : F) : F := fun env st => (f env st).bind fun d st1 => match d with
  | .bl b => .ok (.bl (!b)) st1
  | _ => .stuck
theorem sn_one {op} (ha : SndE G M m a f) : SndE G M m (.BoolOp op [a] pos) f := fun X C gd => pe_one (ha X C gd)
theorem sn_and (ha : SndE G M .rd a f) (hb : SndE G M m (.BoolOp .And (b :: rest) pos) g) : SndE G M m (.BoolOp .And (a :: b :: rest) pos) (bAndV f g) := fun X C gd =>
  (pe_and (ha X C gd) (hb X C gd)).imp fun σ H Q ⟨w, env, st, s, p⟩ => ⟨w, env, st, s, p.bind fun d st1 w1 v1 H1 l1 s1 r1 p1 => by
    match d, r1, p1 with
    | .bl true, r1, p1 => exact ⟨true, RepR.bl r1, by rw [if_pos rfl]; exact ⟨w1, env, st1, s1, p1⟩⟩
    | .bl false, r1, p1 => exact ⟨false, RepR.bl r1, by rw [if_neg Bool.false_ne_true]; exact PostE.done p1 s1 (RepM.bl _)⟩
    | .non, _, p3 => exact p3.elim
    | .int _, _, p3 => exact p3.elim
    | .str _, _, p3 => exact p3.elim
    | .lst _, _, p3 => exact p3.elim
    | .tup _, _, p3 => exact p3.elim
    | .loc _, _, p3 => exact p3.elim⟩
theorem sn_or (ha : SndE G M .rd a f) (hb : SndE G M m (.BoolOp .Or (b :: rest) pos) g) : SndE G M m (.BoolOp .Or (a :: b :: rest) pos) (bOrV f g) := fun X C gd =>
  (pe_or (ha X C gd) (hb X C gd)).imp fun σ H Q ⟨w, env, st, s, p⟩ => ⟨w, env, st, s, p.bind fun d st1 w1 v1 H1 l1 s1 r1 p1 => by
    match d, r1, p1 with
    | .bl true, r1, p1 => exact ⟨true, RepR.bl r1, by rw [if_pos rfl]; exact PostE.done p1 s1 (RepM.bl _)⟩
    | .bl false, r1, p1 => exact ⟨false, RepR.bl r1, by rw [if_neg Bool.false_ne_true]; exact ⟨w1, env, st1, s1, p1⟩⟩
    | .non, _, p3 => exact p3.elim
    | .int _, _, p3 => exact p3.elim
    | .str _, _, p3 => exact p3.elim
    | .lst _, _, p3 => exact p3.elim
    | .tup _, _, p3 => exact p3.elim
    | .loc _, _, p3 => exact p3.elim⟩
theorem sn_not (ha : SndE G M .rd a f) : SndE G M m (.UnaryOp .Not a pos) (bNotV f) := fun X C gd =>
  (pe_not (ha X C gd)).imp fun σ H Q ⟨w, env, st, s, p⟩ => ⟨w, env, st, s, p.bind fun d st1 w1 v1 H1 l1 s1 r1 p1 => by
    cases d with
    | bl b => exact ⟨b, RepR.bl r1, PostE.done p1 s1 (RepM.bl _)⟩
    | _ => exact p1.elim⟩
def bNeg (f : F) : F := fun env st => (f env st).bind fun d st1 => match d with
  | .int i => .ok (.int (-i)) st1
  | _ => .stuck
theorem sn_neg (ha : SndE G M .rd a f) : SndE G M m (.UnaryOp .USub a pos) (bNeg f) := fun X C gd =>
  (pe_un un_neg (ha X C gd)).imp fun σ H Q ⟨w, env, st, s, p⟩ => ⟨w, env, st, s, p.bind fun d st1 w1 v1 H1 l1 s1 r1 p1 => by
    cases d with
    | int b => exact ⟨b, RepR.int r1, PostE.done p1 s1 (RepM.int _)⟩
    | _ => exact p1.elim⟩
/-- a if c else b -/
def bIfE (c : FB) (f g : F) : F := fun env st => (c env st).bind fun b st1 => if b = true then f env st1 else g env st1
theorem sn_ifE (hc : SndT G M c p) (ha : SndE G M m a f) (hb : SndE G M m b g) : SndE G M m (.IfExp c a b pos) (bIfE p f g) := fun X C gd =>
  (pe_ifExp (hc X C gd) (ha X C gd) (hb X C gd)).imp fun σ H Q ⟨w, env, st, s, p⟩ => ⟨w, env, st, s, p.bindT fun d st1 w1 H1 l1 s1 p1 => by
    cases d with
    | true => rw [if_pos rfl] at p1 ⊢; exact ⟨w1, env, st1, s1, p1⟩
    | false => rw [if_neg Bool.false_ne_true] at p1 ⊢; exact ⟨w1, env, st1, s1, p1⟩⟩
/-- argument lists -/
def lNil : FL := fun _ st => .ok [] st
def lCons (f : F) (g : FL) : FL := fun env st => (f env st).bind fun d st1 => (g env st1).bind fun ds st2 => .ok (d :: ds) st2
theorem sl_nil : SndL G M [] [] lNil := fun X C gd => pa_nil.imp fun σ H Q ⟨w, env, st, s, p⟩ => PostL.done p s .nil
theorem sl_esc {es : List Expr} {fl : FL} {ms : List Md} (ha : SndE G M .esc e f) (hb : SndL G M ms es fl) (hs : ∀ env, starEach (e :: es) env = (false, eval e env) :: starEach es env := by intro _; rfl) : SndL G M (.esc :: ms) (e :: es) (lCons f fl) := fun X C gd =>
  (pa_cons (ha X C gd) (hb X C gd) (hs _)).imp fun σ H Q ⟨w, env, st, s, p⟩ => ⟨w, env, st, s, p.bindE fun d st1 w1 v1 H1 l1 s1 r1 p1 =>
    ⟨w1, env, st1, s1, p1.bindL fun ds st2 w2 vs H2 l2 s2 r2 p2 => PostL.done p2 s2 (.esc (Rep.to (l2.ok2 s1.sto) _ _ r1) r2)⟩⟩
theorem sl_rd {es : List Expr} {fl : FL} {ms : List Md} (ha : SndE G M .rd e f) (hb : SndL G M ms es fl) (hs : ∀ env, starEach (e :: es) env = (false, eval e env) :: starEach es env := by intro _; rfl) : SndL G M (.rd :: ms) (e :: es) (lCons f fl) := fun X C gd =>
  (pa_cons (ha X C gd) (hb X C gd) (hs _)).imp fun σ H Q ⟨w, env, st, s, p⟩ => ⟨w, env, st, s, p.bindE fun d st1 w1 v1 H1 l1 s1 r1 p1 =>
    ⟨w1, env, st1, s1, p1.bindL fun ds st2 w2 vs H2 l2 s2 r2 p2 => PostL.done p2 s2 (.rd (RepR.le r1 l2 s1.sto) r2)⟩⟩
theorem RepL.reps {K : PySem.W.Frag} {w : Wd} {H : Hp} : ∀ {n : Nat} {vs : List V} {ds : List D}, RepL K w H (List.replicate n .esc) vs ds → Reps K w H vs ds
  | 0, _, _, h => by cases h; exact .nil
  | n + 1, _, _, h => by
    rw [List.replicate_succ] at h
    cases h with
    | esc r t => exact .cons r t.reps
/-- displays -/
def bTup (g : FL) : F := fun env st => (g env st).bind fun ds st1 => .ok (.tup ds) st1
def bLst (g : FL) : F := fun env st => (g env st).bind fun ds st1 => .ok (.lst ds) st1
theorem RepL.len {K : PySem.W.Frag} {w : Wd} {H : Hp} {ms : List Md} {vs : List V} {ds : List D} (h : RepL K w H ms vs ds) : vs.length = ms.length := by
  induction h with
  | nil => rfl
  | esc _ _ ih => rw [List.length_cons, List.length_cons, ih]
  | rd _ _ ih => rw [List.length_cons, List.length_cons, ih]
theorem sn_tup {n : Nat} {es : List Expr} {fl : FL} {x1} (h : SndL G M (List.replicate n .esc) es fl) (hn : n ≤ 1000 := by decide) : SndE G M m (.Tuple es x1 pos) (bTup fl) := fun X C gd =>
  (pe_tup (h X C gd)).imp fun σ H Q ⟨w, env, st, s, p⟩ => ⟨w, env, st, s, PostE.bindL p fun ds st1 w1 vs H1 l1 s1 r1 p1 =>
    ⟨Nat.le_of_lt (small1000 (by rw [r1.len, List.length_replicate]; exact hn)), fun pp hp => p1.tup s1 r1.reps hp⟩⟩
theorem sn_lst {n : Nat} {es : List Expr} {fl : FL} (h : SndL G M (List.replicate n .esc) es fl) (hn : n ≤ 1000 := by decide) : SndE G M .fr (.List es pos) (bLst fl) := fun X C gd =>
  (pe_lst (h X C gd)).imp fun σ H Q ⟨w, env, st, s, p⟩ => ⟨w, env, st, s, PostE.bindL p fun ds st1 w1 vs H1 l1 s1 r1 p1 =>
    ⟨Nat.le_of_lt (small1000 (by rw [r1.len, List.length_replicate]; exact hn)), fun pp hp => p1.lst s1 r1.reps hp⟩⟩
end

/-! subscripts -/
def cutD (xs : List D) (lo hi : Option Int) : List D := (xs.drop (HT.sIx xs.length 0 lo)).take (HT.sIx xs.length xs.length hi - HT.sIx xs.length 0 lo)
def kIx : D → D → Sto → R D
  | .lst ds, .int i, st => match atI ds i with
    | some d => .ok d st
    | none => .stuck
  | .tup ds, .int i, st => match atI ds i with
    | some d => .ok d st
    | none => .stuck
  | .str z, .int i, st => if z.length ≤ sizeLine then match atI z.cps.toList i with
      | some c => .ok (.str ⟨#[c]⟩) st
      | none => .stuck
    else .stuck
  | .loc n, .int i, st => match st[n]? with
    | some (.lst ds) => match atI ds i with
      | some d => .ok d st
      | none => .stuck
    | _ => .stuck
  | _, _, _ => .stuck
theorem atI_rep {K : PySem.W.Frag} {w : Wd} {H : Hp} {vs : List V} {ds : List D} {i : Int} {d : D} (r : Reps K w H vs ds) (h : atI ds i = some d) : ∃ v, atI vs i = some v ∧ Rep K w H v d := by
  unfold atI at h ⊢
  rw [r.length]
  cases e : ixN ds.length i with
  | none => rw [e] at h; cases h
  | some j =>
    rw [e] at h
    obtain ⟨v, h1, h2⟩ := r.get h
    exact ⟨v, h1, h2⟩
section
variable {G : Ct} {M : Mo} {m : Md} {X : Cx} {C : Cf} {a b c e : Expr} {f g h : F} {pos : Pos}
theorem ix_post {env : Ev} {σ : St} {w : Wd} {H : Hp} {st : Sto} {d1 d2 : D} {v1 v2 : V} {Q : VK} (s : Sim C.T C.B w env st σ H) (r1 : RepR C.T.K w H v1 d1) (r2 : RepR C.T.K w H v2 d2)
    (p : PostE C .esc env σ w H (kIx d1 d2 st) Q) : rIx C.T.K v1 v2 H Q := by
  unfold kIx at p
  split at p
  · obtain ⟨a, vs, rfl, e3, n, rs⟩ := r1.lst
    rename_i ds i
    cases e : atI ds i with
    | none => rw [e] at p; exact p.elim
    | some d =>
      rw [e] at p
      obtain ⟨v, h1, h2⟩ := atI_rep rs e
      exact .inl ⟨a, vs, i, v, rfl, r2.int, e3.sq, h1, p.done s h2⟩
  · obtain ⟨a, vs, rfl, e3, rs⟩ := r1.tup
    rename_i ds i
    cases e : atI ds i with
    | none => rw [e] at p; exact p.elim
    | some d =>
      rw [e] at p
      obtain ⟨v, h1, h2⟩ := atI_rep rs e
      exact .inr (.inl ⟨a, vs, i, v, rfl, r2.int, e3, h1, p.done s h2⟩)
  · rename_i z i
    split at p
    · cases e : atI z.cps.toList i with
      | none => rw [e] at p; exact p.elim
      | some c =>
        rw [e] at p
        exact .inr (.inr ⟨z, i, c, r1.str, r2.int, by assumption, e, p.done s (RepM.str _)⟩)
    · exact p.elim
  · rename_i n i
    obtain ⟨a, rfl, ea⟩ := r1.loc
    cases q : st[n]? with
    | none => rw [q] at p; exact p.elim
    | some c =>
      rw [q] at p
      cases c with
      | lst ds =>
        obtain ⟨vs, h1, h2⟩ := s.sto.at_ _ _ _ q ea
        simp only at p
        cases e : atI ds i with
        | none => rw [e] at p; exact p.elim
        | some d =>
          rw [e] at p
          obtain ⟨v, h3, h4⟩ := atI_rep h2 e
          exact .inl ⟨a, vs, i, v, rfl, r2.int, SqL.of h1, h3, p.done s h4⟩
      | _ => exact p.elim
  · exact p.elim
theorem sn_ix (ha : SndE G M .rd a f) (hb : SndE G M .rd b g) (hs : PlainIx b := by intro _ _; rfl) : SndE G M .esc (.Subscript a b pos) (bBin kIx f g) := by
  intro X C gd
  refine (pe_ix ix_seq (ha X C gd) (hb X C gd) hs).imp fun σ H Q hq => ?_
  refine bin_post (rIx X.K) gd ha hb (fun env σ w H st d1 d2 v1 v2 Q s r1 r2 p => ?_) σ H Q hq
  rw [show X.K = C.T.K from gd.K.trans (by rw [gd.T])]
  exact ix_post s r1 r2 p
/-- slices -/
abbrev FO := Ev → Sto → R (Option Int)
def oNone : FO := fun _ st => .ok none st
def oSome (f : F) : FO := fun env st => (f env st).bind fun d st1 => match d with
  | .int i => .ok (some i) st1
  | _ => .stuck
def kSl : D → Option Int → Option Int → Sto → R D
  | .lst ds, lo, hi, st => .ok (.lst (cutD ds lo hi)) st
  | .tup ds, lo, hi, st => .ok (.tup (cutD ds lo hi)) st
  | .str z, lo, hi, st => if z.length ≤ sizeLine then .ok (.str (cutS z lo hi)) st else .stuck
  | .loc n, lo, hi, st => match st[n]? with
    | some (.lst ds) => .ok (.lst (cutD ds lo hi)) st
    | _ => .stuck
  | _, _, _, _ => .stuck
def bSl (f : F) (l u : FO) : F := fun env st => (f env st).bind fun d st1 => (l env st1).bind fun lo st2 => (u env st2).bind fun hi st3 => kSl d lo hi st3
def PostO (C : Cf) (env : Ev) (σ : St) (w : Wd) (H : Hp) (r : R (Option Int)) (Q : Option Int → Hp → Prop) : Prop := match r with
  | .ok b st' => ∀ w' H', Le w H w' H' → Sim C.T C.B w' env st' σ H' → Q b H'
  | .exc x st' => ∀ w' H' c dx, Le w H w' H' → Sim C.T C.B w' env st' σ H' → XRep C.T w' H' x c dx → C.W c dx σ H'
  | .stuck => False
def tO (C : Cf) (f : FO) : TO := fun σ H Q => ∃ w env st, Sim C.T C.B w env st σ H ∧ PostO C env σ w H (f env st) Q
def SndO (G : Ct) (M : Mo) (e : Option Expr) (f : FO) : Prop := ∀ X C, Gd G M X C → PO X e (tO C f)
theorem _root_.L2.PO.imp {X : Cx} {e : Option Expr} {t t' : TO} (h : PO X e t) (k : ∀ σ H Q, t' σ H Q → t σ H Q) : PO X e t' := ⟨fun pins s σ H Q I q => h.run pins s σ H Q I (k _ _ _ q)⟩
theorem so_none : SndO G M none oNone := fun X C gd => po_none.imp fun σ H Q ⟨w, env, st, s, p⟩ => p w H (.refl _ _) s
theorem so_some (ha : SndE G M .rd a f) : SndO G M (some a) (oSome f) := fun X C gd => (po_some (ha X C gd)).imp fun σ H Q ⟨w, env, st, s, p⟩ => ⟨w, env, st, s, by
  unfold oSome at p
  cases e : f env st with
  | stuck => rw [e] at p; exact p
  | exc x st' => rw [e] at p; exact p
  | ok d st' =>
    rw [e] at p
    intro w' v H' l s' r
    cases d with
    | int i => exact ⟨i, RepR.int r, p w' H' l s'⟩
    | _ => exact p.elim⟩
theorem cut_rep {K : PySem.W.Frag} {w : Wd} {H : Hp} {vs : List V} {ds : List D} (r : Reps K w H vs ds) (lo hi : Option Int) : Reps K w H (cutV vs lo hi) (cutD ds lo hi) := by
  unfold cutV cutD
  rw [r.length]
  exact (r.drop _).take _
theorem cut_all {K : PySem.W.Frag} {w : Wd} {H : Hp} {vs : List V} {ds : List D} (r : Reps K w H vs ds) {lo hi : Option Int} (h : HT.sIx vs.length 0 lo = 0 ∧ HT.sIx vs.length vs.length hi = vs.length) : cutD ds lo hi = ds := by
  unfold cutD
  rw [← r.length, h.1, h.2, List.drop_zero, Nat.sub_zero, r.length, List.take_length]
theorem sn_sl {lo hi : Option Expr} {l u : FO} {p2 : Pos} (ha : SndE G M .rd a f) (hl : SndO G M lo l) (hu : SndO G M hi u) : SndE G M .fr (.Subscript a (.Slice lo hi none p2) pos) (bSl f l u) := by
  intro X C gd
  refine (pe_slice (sl_list.or (sl_tupA.or sl_str)) (ha X C gd) (hl X C gd) (hu X C gd)).imp fun σ H Q ⟨w, env, st, s, p⟩ => ⟨w, env, st, s, ?_⟩
  rw [show X.K = C.T.K from gd.K.trans (by rw [gd.T])]
  refine p.bind fun d st1 w1 v1 H1 l1 s1 r1 p1 => ⟨w1, env, st1, s1, ?_⟩
  cases e1 : l env st1 with
  | stuck => rw [e1] at p1; exact p1
  | exc x st' => rw [e1] at p1; exact p1
  | ok lo' st2 =>
    rw [e1] at p1
    intro w2 H2 l2 s2
    have p2 := PostE.le p1 l2
    refine ⟨w2, env, st2, s2, ?_⟩
    change PostE C .fr env σ w2 H2 ((u env st2).bind fun hi st3 => kSl d lo' hi st3) Q at p2
    cases e2 : u env st2 with
    | stuck => rw [e2] at p2; exact p2
    | exc x st' => rw [e2] at p2; exact p2
    | ok hi' st3 =>
      rw [e2] at p2
      intro w3 H3 l3 s3
      have p3 : PostE C .fr env σ w3 H3 (kSl d lo' hi' st3) Q := PostE.le p2 l3
      have r3 : RepR C.T.K w3 H3 v1 d := RepR.le (RepR.le r1 l2 s1.sto) l3 s2.sto
      unfold kSl at p3
      split at p3
      · obtain ⟨a, vs, rfl, e3, n, rs⟩ := r3.lst
        exact .inl ⟨a, vs, rfl, e3.sq, fun pp hp => p3.lst s3 (cut_rep rs _ _) hp⟩
      · obtain ⟨a, vs, rfl, e3, rs⟩ := r3.tup
        refine .inr (.inl ⟨a, vs, rfl, e3, fun hw => ?_, fun hw pp hp => p3.tup s3 (cut_rep rs _ _) hp⟩)
        have fin : ∀ z, Rep C.T.K w3 H3 z (.tup (cutD _ lo' hi')) → Q z H3 := fun z hz => p3.done s3 hz
        refine fin _ ?_
        rw [cut_all rs hw]
        exact .tup e3 rs
      · split at p3
        · exact .inr (.inr ⟨_, r3.str, by assumption, p3.done s3 (RepM.str _)⟩)
        · exact p3.elim
      · rename_i n
        obtain ⟨a, rfl, ea⟩ := r3.loc
        cases q : st3[n]? with
        | none => rw [q] at p3; exact p3.elim
        | some c =>
          rw [q] at p3
          cases c with
          | lst ds =>
            obtain ⟨vs, h1, h2⟩ := s3.sto.at_ _ _ _ q ea
            exact .inl ⟨a, vs, rfl, SqL.of h1, fun pp hp => PostE.lst (ds := cutD ds lo' hi') p3 s3 (cut_rep h2 _ _) hp⟩
          | _ => exact p3.elim
      · exact p3.elim
end
end NC

/-! ### statements -/
namespace NC
open PySem L2

/-- what a target does with a value -/
abbrev Tg := D → Ev → Option Ev
def tgName (i : Nat) : Tg := fun d env => if i < env.length then some (env.set i (some (.frz, d))) else none
def tgNil : List D → Ev → Option Ev
  | [], env => some env
  | _, _ => none
def tgCons (t : Tg) (u : List D → Ev → Option Ev) : List D → Ev → Option Ev
  | d :: ds, env => (t d env).bind (u ds)
  | _, _ => none
def tgTup (u : List D → Ev → Option Ev) : Tg
  | .tup ds, env => u ds env
  | _, _ => none

section
variable {T : Tb} {B : Bs} {w : Wd} {env : Ev} {st : Sto} {σ : St} {H : Hp}
theorem get_set {α : Type} {l : List α} {i j : Nat} {a s : α} (h : (l.set i a)[j]? = some s) : (j = i ∧ s = a) ∨ (j ≠ i ∧ l[j]? = some s) := by
  rw [List.getElem?_set] at h
  split at h
  · rename_i e
    split at h
    · exact .inl ⟨e.symm, (Option.some.inj h).symm⟩
    · cases h
  · rename_i e
    exact .inr ⟨fun z => e z.symm, h⟩
/-- a name is stored -/
theorem Sim.set {i : Nat} {v : V} {s : Slot} (h : Sim T B w env st σ H) (hi : i < env.length) (hs : SlotOk T.K B w H (some v) s)
    (hd : ∀ d, s = some (.own, d) → ∀ j e, j ≠ i → env[j]? = some (some (.own, e)) → (σ[j]?).join ≠ some v) : Sim T B w (env.set i s) st (σ.set i (some v)) H := by
  have hi' : i < σ.length := by rw [h.len]; exact hi
  have sj : ∀ j, j ≠ i → ((σ.set i (some v))[j]?).join = (σ[j]?).join := fun j z => by rw [List.getElem?_set_ne (Ne.symm z)]
  have si : ((σ.set i (some v))[i]?).join = some v := by rw [List.getElem?_set_self hi']; rfl
  refine ⟨by rw [List.length_set, List.length_set]; exact h.len, fun j sl e => ?_, fun j k d e a h1 h2 h3 h4 => ?_, h.sto, h.al, h.le, h.sub, h.bal, h.pin⟩
  · rcases get_set e with ⟨e1, e2⟩ | ⟨e1, e2⟩
    · subst e1 e2
      rw [si]
      exact hs
    · rw [sj j e1]
      exact h.slot j sl e2
  · rcases get_set h1 with ⟨e1, e2⟩ | ⟨e1, e2⟩
    · rcases get_set h2 with ⟨f1, f2⟩ | ⟨f1, f2⟩
      · rw [e1, f1]
      · subst e1
        rw [si] at h3
        rw [sj k f1] at h4
        exact absurd (h4.trans h3.symm) (hd _ e2.symm k e f1 f2)
    · rcases get_set h2 with ⟨f1, f2⟩ | ⟨f1, f2⟩
      · subst f1
        rw [si] at h4
        rw [sj j e1] at h3
        exact absurd (h3.trans h4.symm) (hd _ f2.symm j d e1 e2)
      · rw [sj j e1] at h3
        rw [sj k f1] at h4
        exact h.dist j k d e a e2 f2 h3 h4
theorem Sim.setFrz {i : Nat} {v : V} {d : D} (h : Sim T B w env st σ H) (hi : i < env.length) (r : Rep T.K w H v d) : Sim T B w (env.set i (some (.frz, d))) st (σ.set i (some v)) H :=
  h.set hi ⟨v, rfl, r⟩ fun d' e => by cases e
end

/-- the slots outside are as they were -/
def Keep (is : List Nat) (σ σ' : St) : Prop := σ'.length = σ.length ∧ ∀ j, j ∉ is → σ'[j]? = σ[j]?
def tG (C : Cf) (is : List Nat) (t : Tg) : TG := fun v σ H Q => ∃ w env st d, Sim C.T C.B w env st σ H ∧ Rep C.T.K w H v d ∧ match t d env with
  | some env' => ∀ σ' : St, Sim C.T C.B w env' st σ' H → Keep is σ σ' → Q σ' H
  | none => False
def tGs (C : Cf) (is : List Nat) (u : List D → Ev → Option Ev) : TGs := fun vs σ H Q => ∃ w env st ds, Sim C.T C.B w env st σ H ∧ Reps C.T.K w H vs ds ∧ match u ds env with
  | some env' => ∀ σ' : St, Sim C.T C.B w env' st σ' H → Keep is σ σ' → Q σ' H
  | none => False
def SndG (G : Ct) (M : Mo) (tg : Expr) (is : List Nat) (t : Tg) : Prop := ∀ X C, Gd G M X C → PG X tg (tG C is t)
def SndGs (G : Ct) (M : Mo) (tgs : List Expr) (is : List Nat) (t : List D → Ev → Option Ev) : Prop := ∀ X C, Gd G M X C → PGs X tgs (tGs C is t)
theorem _root_.L2.PG.imp {X : Cx} {e : Expr} {t t' : TG} (h : PG X e t) (k : ∀ v σ H Q, t' v σ H Q → t v σ H Q) : PG X e t' := ⟨fun pins s σ H v u Q I r q => h.run pins s σ H v u Q I r (k _ _ _ _ q)⟩
theorem _root_.L2.PGs.imp {X : Cx} {e : List Expr} {t t' : TGs} (h : PGs X e t) (k : ∀ v σ H Q, t' v σ H Q → t v σ H Q) : PGs X e t' := ⟨fun pins s σ H v u Q I r q => h.run pins s σ H v u Q I r (k _ _ _ _ q)⟩

/-- a target's name may be stored in this frame -/
def TgOk (G : Ct) (x : Str) : Prop := (match G.bk with | none => true | some s => s.names.lookup x == some .cell) = true ∨ G.sc.names.lookup x = some .local
section
variable {G : Ct} {M : Mo} {m : Md} {X : Cx} {C : Cf} {a b c e : Expr} {f g h : F} {p q : FB} {s1 s2 : FS} {pos : Pos} {i : Nat} {x : Str}
theorem Gd.fnOk (gd : Gd G M X C) (h : TgOk G x) : X.fn x = true ∨ X.env.scope.names.lookup x = some .local := by
  rw [gd.sc]
  refine h.imp (fun z => ?_) fun z => z
  rw [gd.fn]
  cases e : G.bk with
  | none => rfl
  | some s => rw [e] at z; exact z
theorem sg_name (hN : G.N[i]? = some x) (hx : Loc G.sc x) (ht : TgOk G x) : SndG G M (.Name x pos) [i] (tgName i) := by
  intro X C gd
  refine (pg_name (i := i) gd.nd (by rw [gd.N]; exact hN) (by rw [gd.sc]; exact hx) (gd.fnOk ht)).imp fun v σ H Q ⟨w, env, st, d, s, r, h⟩ => ?_
  unfold tgName at h
  split at h
  · rename_i e
    split at e
    · cases e
      exact h _ (s.setFrz (by assumption) r) ⟨List.length_set .., fun j hj => List.getElem?_set_ne (fun z => hj (by rw [z]; exact List.mem_singleton_self _))⟩
    · cases e
  · exact h.elim
theorem sgs_nil : SndGs G M [] [] tgNil := by
  intro X C gd
  refine pgs_nil.imp fun v σ H Q ⟨w, env, st, ds, s, r, h⟩ => ?_
  cases r with
  | nil => exact ⟨rfl, h σ s ⟨rfl, fun _ _ => rfl⟩⟩
  | cons r1 r2 => exact h.elim
theorem sgs_cons {es : List Expr} {is js : List Nat} {t : Tg} {u : List D → Ev → Option Ev} (h1 : SndG G M e is t) (h2 : SndGs G M es js u)
    (hs : ∀ env, (assignEach (e :: es) env).map (·.2) = assign e env :: (assignEach es env).map (·.2) := by intro _; rfl) : SndGs G M (e :: es) (is ++ js) (tgCons t u) := by
  intro X C gd
  refine (pgs_cons (h1 X C gd) (h2 X C gd) (hs _)).imp fun v σ H Q ⟨w, env, st, ds, s, r, h⟩ => ?_
  cases r with
  | nil => exact h.elim
  | cons r1 r2 =>
    rename_i vv d0 vvs ds0
    refine ⟨_, _, rfl, w, env, st, _, s, r1, ?_⟩
    unfold tgCons at h
    split
    · rename_i env1 q
      simp only [q, Option.bind_some] at h
      refine fun σ' s' hk => ⟨w, env1, st, _, s', r2, ?_⟩
      split
      · rename_i env2 q2
        rw [q2] at h
        exact fun σ2 s2 hk2 => h σ2 s2 ⟨hk2.1.trans hk.1, fun j hj => (hk2.2 j fun z => hj (List.mem_append_right _ z)).trans (hk.2 j fun z => hj (List.mem_append_left _ z))⟩
      · rename_i q2
        rw [q2] at h
        exact h
    · rename_i q
      simp only [q, Option.bind_none] at h
theorem sg_tup {es : List Expr} {is : List Nat} {k : Nat} {u : List D → Ev → Option Ev} (hm : M.hot = false) (h : SndGs G M es is u) (hn : ∀ ds env env', u ds env = some env' → ds.length = es.length)
    (hl : ∀ env, (assignEach es env).length = es.length := by intro _; rfl) (hst : ∀ env, (assignEach es env).findIdx? (·.1) = none := by intro _; rfl) : SndG G M (.Tuple es k pos) is (tgTup u) := by
  intro X C gd
  refine (pg_tup (gd.cold hm).1 (h X C gd) (hl _) (hst _)).imp fun v σ H Q ⟨w, env, st, d, s, r, hh⟩ => ?_
  rw [show X.K = C.T.K from gd.K.trans (by rw [gd.T])]
  cases d with
  | tup ds =>
    cases r with
    | tup hs rs =>
      refine ⟨_, _, rfl, hs, ?_, w, env, st, ds, s, rs, hh⟩
      have hh' : (match u ds env with | some env' => ∀ σ' : St, Sim C.T C.B w env' st σ' H → Keep is σ σ' → Q σ' H | none => False) := hh
      rw [rs.length]
      cases q : u ds env with
      | none => rw [q] at hh'; exact hh'.elim
      | some env' => exact hn _ _ _ q
  | _ => exact hh.elim
theorem tgCons_len {t : Tg} {u : List D → Ev → Option Ev} {n : Nat} (h : ∀ ds env env', u ds env = some env' → ds.length = n) : ∀ ds env env', tgCons t u ds env = some env' → ds.length = n + 1 := by
  intro ds env env' e
  cases ds with
  | nil => cases e
  | cons d ds =>
    unfold tgCons at e
    cases q : t d env with
    | none => simp only [q, Option.bind_none] at e; cases e
    | some env1 =>
      simp only [q, Option.bind_some] at e
      rw [List.length_cons, h _ _ _ e]
theorem tgNil_len : ∀ ds env env', tgNil ds env = some env' → ds.length = 0 := by
  intro ds env env' e
  cases ds with
  | nil => rfl
  | cons d ds => cases e

/-! blocks -/
def sNil : FS := fun env st => .next env st
def sCons (f g : FS) : FS := fun env st => match f env st with
  | .next env' st' => g env' st'
  | o => o
theorem sb_nil : SndB G M [] sNil := fun X C gd => pss_nil.imp fun E σ H ⟨w, env, st, s, p⟩ => p w σ H s
theorem sb_cons {s : Stmt} {ss : List Stmt} (h1 : SndS G M s s1) (h2 : SndB G M ss s2) : SndB G M (s :: ss) (sCons s1 s2) := fun X C gd =>
  (pss_cons (h1 X C gd) (h2 X C gd)).imp fun E σ H ⟨w, env, st, s, p⟩ => ⟨w, env, st, s, by
    unfold sCons at p
    cases e : s1 env st with
    | next env' st' => rw [e] at p; exact fun w' σ' H' s' => ⟨w', env', st', s', p⟩
    | ret d st' => rw [e] at p; exact p
    | brk env' st' => rw [e] at p; exact p
    | cont env' st' => rw [e] at p; exact p
    | exc x env' st' => rw [e] at p; exact p
    | stuck => rw [e] at p; exact p⟩
theorem sb_one {s : Stmt} (h1 : SndS G M s s1) : SndB G M [s] s1 := fun X C gd => (pss_one (h1 X C gd)).imp fun E σ H h => h
def sPass : FS := fun env st => .next env st
theorem ss_pass : SndS G M (.Pass pos) sPass := fun X C gd => ps_pass.imp fun E σ H ⟨w, env, st, s, p⟩ => p w σ H s
def sBrk : FS := fun env st => .brk env st
theorem ss_brk : SndS G M (.Break pos) sBrk := fun X C gd => ps_break.imp fun E σ H ⟨w, env, st, s, p⟩ => p w σ H s
def sCont : FS := fun env st => .cont env st
theorem ss_cont : SndS G M (.Continue pos) sCont := fun X C gd => ps_continue.imp fun E σ H ⟨w, env, st, s, p⟩ => p w σ H s
def sNever : FS := fun _ _ => .stuck
theorem ss_never {s : Stmt} : SndS G M s sNever := fun X C gd => ps_never.imp fun E σ H ⟨w, env, st, s, p⟩ => p.elim
theorem sb_never {s : List Stmt} : SndB G M s sNever := fun X C gd => pss_never.imp fun E σ H ⟨w, env, st, s, p⟩ => p.elim

def R.out (r : R D) (env : Ev) (k : D → Sto → Out) : Out := match r with
  | .ok d st => k d st
  | .exc x st => .exc x env st
  | .stuck => .stuck
def R.outB (r : R Bool) (env : Ev) (k : Bool → Sto → Out) : Out := match r with
  | .ok d st => k d st
  | .exc x st => .exc x env st
  | .stuck => .stuck
theorem PostS.bind {E : Ends} {env : Ev} {σ : St} {w : Wd} {H : Hp} {r : R D} {k : D → Sto → Out} {R' : VK} (h : PostS C E (r.out env k))
    (f : ∀ d st1 w1 v1 H1, Le w H w1 H1 → Sim C.T C.B w1 env st1 σ H1 → RepM C.T.K m H w1 H1 v1 d → PostS C E (k d st1) → R' v1 H1) : PostE C m env σ w H r R' := by
  cases r with
  | ok d st' => exact fun w' v H' l' s rep => f d st' w' v H' l' s rep h
  | exc x st' => exact fun w' H' c dx l s xr => h w' σ H' c dx s xr
  | stuck => exact h
theorem PostS.bindT {E : Ends} {env : Ev} {σ : St} {w : Wd} {H : Hp} {r : R Bool} {k : Bool → Sto → Out} {R' : Bool → Hp → Prop} (h : PostS C E (r.outB env k))
    (f : ∀ d st1 w1 H1, Le w H w1 H1 → Sim C.T C.B w1 env st1 σ H1 → PostS C E (k d st1) → R' d H1) : PostT C env σ w H r R' := by
  cases r with
  | ok d st' => exact fun w' H' l' s => f d st' w' H' l' s h
  | exc x st' => exact fun w' H' c dx l s xr => h w' σ H' c dx s xr
  | stuck => exact h

def sIf (c : FB) (f g : FS) : FS := fun env st => (c env st).outB env fun b st1 => if b = true then f env st1 else g env st1
theorem ss_if {ss ts : List Stmt} (hc : SndT G M c p) (h1 : SndB G M ss s1) (h2 : SndB G M ts s2) : SndS G M (.If c ss ts pos) (sIf p s1 s2) := fun X C gd =>
  (ps_if (hc X C gd) (h1 X C gd) (h2 X C gd)).imp fun E σ H ⟨w, env, st, s, p⟩ => ⟨w, env, st, s, PostS.bindT p fun d st1 w1 H1 l1 s1 p1 => by
    cases d with
    | true => rw [if_pos rfl] at p1 ⊢; exact ⟨w1, env, st1, s1, p1⟩
    | false => rw [if_neg Bool.false_ne_true] at p1 ⊢; exact ⟨w1, env, st1, s1, p1⟩⟩
def sExpr (f : F) : FS := fun env st => (f env st).out env fun _ st1 => .next env st1
theorem ss_expr (ha : SndE G M m e f) (hs : ∀ env, swapsWith e none pos.line env = pure false := by intro _; rfl) : SndS G M (.Expr e pos) (sExpr f) := fun X C gd => (ps_expr (ha X C gd) (hs _)).imp fun E σ H ⟨w, env, st, s, p⟩ => ⟨w, env, st, s, PostS.bind p fun d st1 w1 v1 H1 l1 s1 r1 p1 => p1 w1 σ H1 s1⟩
theorem Sim.ret {T : Tb} {B : Bs} {w : Wd} {env : Ev} {st : Sto} {σ : St} {H : Hp} {v : V} {d : D} (s : Sim T B w env st σ H) (r : Rep T.K w H v d) : RetOk T B st H v d := by
  have ok : Ok2 w H ⟨B.w.S, w.r⟩ H := ⟨fun _ _ e => e, fun _ _ e _ => e, fun a o e n1 n2 => ⟨e, fun z => n1 (s.sub a z), n2⟩⟩
  exact ⟨w.r, ⟨s.le.pre, s.le.fr, s.le.live, s.le.new, fun a z => .inl z, fun a z => z⟩, s.sto.to ok (fun _ _ => rfl) rfl, Rep.to ok _ _ r⟩
/-- a list that the frame owns is handed back -/
theorem Sim.retO {T : Tb} {B : Bs} {w : Wd} {env : Ev} {st : Sto} {σ : St} {H : Hp} {a : Addr} {vs : List V} {ds : List D} (s : Sim T B w env st σ H) (h1 : H a = some (.lst vs)) (h2 : B.H a = none) (h3 : a ∉ w.r) (r : Reps T.K w H vs ds) : RetOk T B st H (.ref a) (.lst ds) := by
  have ok : Ok2 w H ⟨B.w.S, w.r⟩ H := ⟨fun _ _ e => e, fun _ _ e _ => e, fun a o e n1 n2 => ⟨e, fun z => n1 (s.sub a z), n2⟩⟩
  exact ⟨w.r, ⟨s.le.pre, s.le.fr, s.le.live, s.le.new, fun a z => .inl z, fun a z => z⟩, s.sto.to ok (fun _ _ => rfl) rfl, .lst (.inl h1) (fun z => s.bal a z h2) h3 (Reps.to ok _ _ r)⟩
def sRet (f : F) : FS := fun env st => (f env st).out env fun d st1 => .ret d st1
theorem ss_ret (ha : SndE G M .esc e f) : SndS G M (.Return (some e) pos) (sRet f) := fun X C gd => (ps_ret (ha X C gd)).imp fun E σ H ⟨w, env, st, s, p⟩ => ⟨w, env, st, s, PostS.bind p fun d st1 w1 v1 H1 l1 s1 r1 p1 => p1 v1 H1 (s1.ret r1)⟩
def sRetN : FS := fun _ st => .ret .non st
theorem ss_retN : SndS G M (.Return none pos) sRetN := fun X C gd => ps_retN.imp fun E σ H ⟨w, env, st, s, p⟩ => p .non H (s.ret .non)
/-- return x, x the frame's own list -/
def sRetV (i : Nat) : FS := fun env st => match env[i]? with
  | some (some (.frz, d)) => .ret d st
  | some (some (.own, d)) => .ret d st
  | _ => .stuck
theorem ss_retV (hN : G.N[i]? = some x) (hv : Vis G.sc x) {p2 : Pos} (hd : (x == ("__debug__" : Str)) = false := by decide) (hcd : (x == ("__classdict__" : Str)) = false := by decide) : SndS G M (.Return (some (.Name x p2)) pos) (sRetV i) := by
  intro X C g
  refine (ps_ret (pe_var (i := i) (x := x) (by rw [g.N]; exact hN) (by rw [g.sc]; exact hv) hd hcd)).imp fun E σ H ⟨w, env, st, s, p⟩ => ?_
  unfold sRetV at p
  cases e : env[i]? with
  | none => rw [e] at p; exact p.elim
  | some sl =>
    rw [e] at p
    match sl, e, p with
    | none, _, p => exact p.elim
    | some (.own, d), e, p =>
      obtain ⟨a, vs, ds, e1, rfl, e3, r, f4, f5⟩ := s.slot i _ e
      exact ⟨_, join_some e1, p _ _ (s.retO e3 f5 (s.al a f4).2 r)⟩
    | some (.bor, d), e, p => exact p.elim
    | some (.exc, d), e, p => exact p.elim
    | some (.frz, d), e, p =>
      obtain ⟨v, e1, r⟩ := s.slot i _ e
      exact ⟨v, join_some e1, p _ _ (s.ret r)⟩

/-! stores to names -/
def sAsg (t : Tg) (f : F) : FS := fun env st => (f env st).out env fun d st1 => match t d env with
  | some env' => .next env' st1
  | none => .stuck
theorem ss_asg {tg : Expr} {is : List Nat} {t : Tg} (he : SndE G M .esc e f) (hg : SndG G M tg is t) (hs : ∀ env, swapsWithSole [tg] e pos.line env = pure false := by intro _; rfl) (hw : ∀ env, swappedStores [tg] e env = pure none := by intro _; rfl)
    (h1 : ∀ env, (assignEach [tg] env).map (·.2) = [assign tg env] := by intro _; rfl) : SndS G M (.Assign [tg] e pos) (sAsg t f) := fun X C gd =>
  (ps_asg (he X C gd) (hg X C gd) (hs _) (hw _) (h1 _)).imp fun E σ H ⟨w, env, st, s, p⟩ => ⟨w, env, st, s, PostS.bind p fun d st1 w1 v1 H1 l1 s1 r1 p1 => ⟨w1, env, st1, d, s1, r1, by
    cases q : t d env with
    | none => rw [q] at p1; exact p1
    | some env' => rw [q] at p1; exact fun σ' s' _ => p1 w1 σ' H1 s'⟩⟩
/-- x = e, a new list is the name's own -/
def slotOf (d : D) : Slot := match d with
  | .lst _ => some (.own, d)
  | _ => some (.frz, d)
def sSet (i : Nat) (f : F) : FS := fun env st => (f env st).out env fun d st1 => if i < env.length then .next (env.set i (slotOf d)) st1 else .stuck
theorem Sim.setF {T : Tb} {B : Bs} {w w1 : Wd} {env : Ev} {st st1 : Sto} {σ : St} {H H1 : Hp} {v : V} {d : D} (s0 : Sim T B w env st σ H) (s : Sim T B w1 env st1 σ H1) (hi : i < env.length) (r : RepF T.K H w1 H1 v d) : Sim T B w1 (env.set i (slotOf d)) st1 (σ.set i (some v)) H1 := by
  cases d with
  | lst ds =>
    obtain ⟨a, vs, rfl, e2, e3, e4, e5⟩ := r
    refine s.set hi ⟨a, vs, ds, rfl, rfl, e2, e5, e4, s0.le.back e3⟩ fun d' hd' j e hj he hq => ?_
    obtain ⟨a', vs', ds', g1, g2, g3, _⟩ := s0.slot j _ he
    rw [g1] at hq
    cases hq
    rw [e3] at g3
    cases g3
  | _ => exact s.setFrz hi r
theorem ss_set {p2 : Pos} (hN : G.N[i]? = some x) (hx : Loc G.sc x) (ht : TgOk G x) (he : SndE G M .fr e f) (hs : ∀ env, swapsWith e (some (.Name x p2)) pos.line env = pure false := by intro _; rfl) : SndS G M (.Assign [.Name x p2] e pos) (sSet i f) := fun X C gd =>
  (ps_set (i := i) gd.nd (by rw [gd.N]; exact hN) (by rw [gd.sc]; exact hx) (he X C gd) (hs _) (gd.fnOk ht)).imp fun E σ H ⟨w, env, st, s, p⟩ => ⟨w, env, st, s, PostS.bind p fun d st1 w1 v1 H1 l1 s1 r1 p1 => by
    split at p1
    · exact p1 w1 _ H1 (s.setF s1 (by assumption) r1)
    · exact p1.elim⟩
theorem ss_setE {p2 : Pos} (hN : G.N[i]? = some x) (hx : Loc G.sc x) (ht : TgOk G x) (he : SndE G M .esc e f) (hs : ∀ env, swapsWith e (some (.Name x p2)) pos.line env = pure false := by intro _; rfl) : SndS G M (.Assign [.Name x p2] e pos) (sAsg (tgName i) f) := fun X C gd =>
  (ps_set (i := i) gd.nd (by rw [gd.N]; exact hN) (by rw [gd.sc]; exact hx) (he X C gd) (hs _) (gd.fnOk ht)).imp fun E σ H ⟨w, env, st, s, p⟩ => ⟨w, env, st, s, PostS.bind p fun d st1 w1 v1 H1 l1 s1 r1 p1 => by
    unfold tgName at p1
    split at p1
    · rename_i env' e
      split at e
      · cases e
        exact p1 w1 _ H1 (s1.setFrz (by assumption) r1)
      · cases e
    · exact p1.elim⟩
/-- lists that may be changed no more: they may be kept -/
def frzE : List Nat → Ev → Ev
  | [], env => env
  | i :: is, env => match env[i]? with
    | some (some (.own, d)) => frzE is (env.set i (some (.frz, d)))
    | _ => frzE is env
def sFrz (is : List Nat) (f : FS) : FS := fun env st => f (frzE is env) st
theorem Sim.frz {T : Tb} {B : Bs} : ∀ {is : List Nat} {w : Wd} {env : Ev} {st : Sto} {σ : St} {H : Hp}, Sim T B w env st σ H → ∃ w', Sim T B w' (frzE is env) st σ H
  | [], w, _, _, _, _, s => ⟨w, s⟩
  | i :: is, w, env, st, σ, H, s => by
    unfold frzE
    split
    · rename_i d e
      obtain ⟨a, vs, ds, e1, rfl, e3, r, f4, f5⟩ := s.slot i _ e
      have hi : i < env.length := (List.getElem?_eq_some_iff.mp e).1
      have ok : Ok2 w H (w.sub a) H := ⟨fun _ _ e => e, fun _ _ e _ => e, fun b u e n1 n2 => ⟨e, fun z => n1 z.1, n2⟩⟩
      have s' : Sim T B (w.sub a) (env.set i (some (.frz, .lst ds))) st σ H := by
        refine ⟨by rw [List.length_set]; exact s.len, fun j sl ej => ?_, fun j k d e a' h1 h2 h3 h4 => ?_, s.sto.to ok (fun _ _ => rfl) rfl, fun b z => s.al b z.1, ⟨s.le.pre, s.le.fr, s.le.live, s.le.new, fun b z => s.le.S b z.1, fun b z => ⟨s.sub b z, fun z2 => s.bal b z (z2 ▸ f5)⟩⟩, fun b z => ⟨s.sub b z, fun z2 => s.bal b z (z2 ▸ f5)⟩, s.bal, fun p hp => (s.pin p hp).to ok fun a u e n _ => ⟨e, n⟩⟩
        · rcases get_set ej with ⟨z1, z2⟩ | ⟨z1, z2⟩
          · subst z1 z2
            exact ⟨_, e1, .lst (.inl e3) (fun z => z.2 rfl) (s.al a f4).2 (Reps.to ok _ _ r)⟩
          · have q := s.slot j sl z2
            match sl, q, z2 with
            | none, _, _ => trivial
            | some (.frz, d), ⟨v, e, r⟩, _ => exact ⟨v, e, Rep.to ok _ _ r⟩
            | some (.own, d), ⟨b, us, es, g1, g2, g3, rr, g4, g5⟩, z2 =>
              refine ⟨b, us, es, g1, g2, g3, Reps.to ok _ _ rr, ⟨g4, fun z => ?_⟩, g5⟩
              exact z1 (s.dist j i d _ b z2 e g1 (by rw [z]; exact e1))
            | some (.bor, d), ⟨b, us, es, g1, g2, rr, g4⟩, _ => exact ⟨b, us, es, g1, g2, Reps.to ok _ _ rr, g4.to fun a u e n _ => ⟨e, n⟩⟩
            | some (.exc, d), ⟨b, c, cls, dd, f, v0, ee, g1, g2, g3, g4, g5, g6, r⟩, _ => exact ⟨b, c, cls, dd, f, v0, ee, g1, g2, g3, g4, fun z => g5 z.1, g6, Rep.to ok _ _ r⟩
        · rcases get_set h1 with ⟨z1, z2⟩ | ⟨z1, z2⟩
          · cases z2
          · rcases get_set h2 with ⟨z3, z4⟩ | ⟨z3, z4⟩
            · cases z4
            · exact s.dist j k d e a' z2 z4 h3 h4
      exact s'.frz
    · exact s.frz
theorem ss_frz {is : List Nat} {s : Stmt} (h : SndS G M s s1) : SndS G M s (sFrz is s1) := fun X C gd => (h X C gd).imp fun E σ H ⟨w, env, st, s, p⟩ => by
  obtain ⟨w', s'⟩ := s.frz (is := is)
  exact ⟨w', _, st, s', p⟩
end
end NC

/-! ### loops, own lists changed -/
namespace NC
open PySem L2

/-- the iterator J yields ds, as long as the pins hold -/
def ItOk (C : Cf) (pin : List (V × D)) (J : It) (ds : List D) : Prop :=
  ∀ (B' : Bs), B'.w = C.B.w → B'.H = C.B.H → (∀ p ∈ pin, p ∈ B'.pin) → ∀ w env st σ H, Sim C.T B' w env st σ H → ∀ i : Nat,
    (∀ d, ds[i]? = some d → J.go i H ∧ ∀ x H', J.yld i H x H' → ∃ w', Le w H w' H' ∧ Sim C.T B' w' env st σ H' ∧ Rep C.T.K w' H' x d) ∧ (ds.length ≤ i → J.stop i H)
def PostI (C : Cf) (env : Ev) (σ : St) (w : Wd) (H : Hp) (r : R (List D)) (Q : It → Hp → Prop) : Prop := match r with
  | .ok ds st' => ∀ w' H' J pin, Le w H w' H' → Sim C.T C.B w' env st' σ H' → (∀ p ∈ pin, PinOk C.T.K C.B w' H' p) → ItOk C pin J ds → ds.length ≤ sizeLine → Q J H'
  | .exc x st' => ∀ w' H' c dx, Le w H w' H' → Sim C.T C.B w' env st' σ H' → XRep C.T w' H' x c dx → C.W c dx σ H'
  | .stuck => False
def tI (C : Cf) (f : FL) : TI := fun σ H Q => ∃ w env st, Sim C.T C.B w env st σ H ∧ PostI C env σ w H (f env st) Q
def SndI (G : Ct) (M : Mo) (tg e : Expr) (f : FL) : Prop := ∀ X C, Gd G M X C → PI X tg e (tI C f)
theorem _root_.L2.PI.imp {X : Cx} {tg e : Expr} {t t' : TI} (h : PI X tg e t) (k : ∀ σ H Q, t' σ H Q → t σ H Q) : PI X tg e t' := ⟨fun pins s σ H Q I q => h.run pins s σ H Q I (k _ _ _ q)⟩
theorem _root_.L2.PI.or {X : Cx} {tg e : Expr} {t t' : TI} (h : PI X tg e t) (h' : PI X tg e t') : PI X tg e (fun σ H Q => t σ H Q ∨ t' σ H Q) := ⟨fun pins s σ H Q I q => q.elim (h.run pins s σ H Q I) (h'.run pins s σ H Q I)⟩

/-- pi_list, pi_tup with the length's bound -/
theorem pi_listB {X : Cx} {tg l : Expr} {tl : TE} (hl : PE X l tl) : PI X tg l (fun σ H R => tl σ H fun x H1 => ∃ a, x = .ref a ∧ ∃ xs, SqL X.K H1 a xs ∧ (xs.length ≤ sizeLine → R (Itl X.K a) H1)) := by
  refine ⟨fun pins s σ H R I h => ?_⟩
  refine thn (hl.run pins s σ H _ I h) fun v s1 ⟨x, H1, I1, r1, q1⟩ => ?_
  obtain ⟨a, e, xs, hq, q⟩ := q1
  subst e
  cases r1
  obtain ⟨its, rv, p, hz⟩ := I1.list hq
  refine wpAny_pyIter_list p.isList ?_
  refine ⟨s1.heap.objs.size, [s1.heap.objs.size], _, _, H1, rfl, I1.kept (t' := s1.toks) fun b o e => Heap.get?_push_of_some _ e, turn_list a _, ⟨_, Heap.get?_push_size _ rfl, rfl, rfl⟩, fun b hb => ?_, q hz⟩
  have e : b = s1.heap.objs.size := by simpa using hb
  subst e
  exact I1.fpOk (Nat.le_refl _) (I1.hok.fresh (Nat.le_refl _))
theorem pi_tupB {X : Cx} {tg l : Expr} {tl : TE} (hl : PE X l tl) : PI X tg l (fun σ H R => tl σ H fun x H1 => ∃ a, x = .ref a ∧ ∃ xs, SqT X.K H1 a xs ∧ (xs.length ≤ sizeLine → R (Itt X.K a) H1)) := by
  refine ⟨fun pins s σ H R I h => ?_⟩
  refine thn (hl.run pins s σ H _ I h) fun v s1 ⟨x, H1, I1, r1, q1⟩ => ?_
  obtain ⟨a, e, xs, hq, q⟩ := q1
  subst e
  cases r1
  obtain ⟨its, rv, p, hz⟩ := I1.tuple hq
  refine wpAny_pyIter_tuple (show s1.heap.IsTuple a its.toArray from p) ?_
  refine ⟨s1.heap.objs.size, [s1.heap.objs.size], _, _, H1, rfl, I1.kept (t' := s1.toks) fun b o e => Heap.get?_push_of_some _ e, turn_tuple a _, ⟨_, Heap.get?_push_size _ rfl, rfl, rfl⟩, fun b hb => ?_, q hz⟩
  have e : b = s1.heap.objs.size := by simpa using hb
  subst e
  exact I1.fpOk (Nat.le_refl _) (I1.hok.fresh (Nat.le_refl _))

theorem PinOk.lst {K : PySem.W.Frag} {B : Bs} {w : Wd} {H : Hp} {v : V} {ds : List D} (h : PinOk K B w H (v, .lst ds)) : ∃ a vs, v = .ref a ∧ LstAt K H a vs ∧ True ∧ Reps K w H vs ds := by
  rcases h with h | ⟨a, vs, es, e1, e2, r, b⟩
  · exact RepR.lst (.inl h)
  · cases e2; exact ⟨a, vs, e1, b.at_, trivial, r⟩
section
variable {G : Ct} {M : Mo} {m : Md} {X : Cx} {C : Cf} {a b c e tg : Expr} {f g h : F} {p q : FB} {s1 s2 : FS} {pos : Pos} {i : Nat} {x : Str}
/-- a text's signs -/
def chrs (z : Str) : List D := z.cps.toList.map fun c => D.str ⟨#[c]⟩
theorem chrs_len (z : Str) : (chrs z).length = z.length := by unfold chrs; rw [List.length_map]; exact Array.length_toList
theorem str_it {C : Cf} {z : Str} : ItOk C [] (Its z) (chrs z) := by
  intro B' _ _ hp w env st σ H s i
  refine ⟨fun d hd => ?_, fun hi' => by rw [chrs_len] at hi'; exact hi'⟩
  have hi' : i < z.cps.size := by
    have := (List.getElem?_eq_some_iff.mp hd).1
    rw [chrs_len] at this
    exact this
  refine ⟨hi', fun x H' hy => ?_⟩
  obtain ⟨rfl, c, hc, rfl⟩ := hy
  unfold chrs at hd
  rw [List.getElem?_map, Array.getElem?_toList, hc] at hd
  cases hd
  exact ⟨w, .refl _ _, s, .str _⟩
/-- a list, a tuple or a text that is walked -/
def iSeq (f : F) : FL := fun env st => (f env st).bind fun d st1 => match d with
  | .lst ds => .ok ds st1
  | .tup ds => .ok ds st1
  | .str z => if z.length ≤ sizeLine then .ok (chrs z) st1 else .stuck
  | _ => .stuck
theorem si_seq (he : SndE G M .esc e f) : SndI G M tg e (iSeq f) := by
  intro X C gd
  refine ((pi_listB (he X C gd)).or ((pi_tupB (he X C gd)).or (pi_str (he X C gd)))).imp fun σ H Q ⟨w, env, st, s, p⟩ => ?_
  rw [show X.K = C.T.K from gd.K.trans (by rw [gd.T])]
  unfold iSeq at p
  cases e1 : f env st with
  | stuck => rw [e1] at p; exact p.elim
  | exc x st' => rw [e1] at p; exact .inl ⟨w, env, st, s, by rw [e1]; exact p⟩
  | ok d st' =>
    rw [e1] at p
    cases d with
    | lst ds =>
      refine .inl ⟨w, env, st, s, ?_⟩
      rw [e1]
      intro w' v H' l s' r
      have r' : Rep C.T.K w' H' v (.lst ds) := r
      obtain ⟨aa, vs, rfl, h1, _, h4⟩ := RepR.lst (.inl r')
      refine ⟨_, rfl, _, h1.sq, fun hz => p w' H' _ [(.ref aa, .lst ds)] l s' (fun q hq => ?_) ?_ (by rw [← h4.length]; exact hz)⟩
      · have : q = (.ref aa, .lst ds) := by simpa using hq
        subst this; exact .inl r'
      · intro B' _ _ hp w2 env2 st2 σ2 H2 s2 i
        obtain ⟨_, us, e0, k1, _, k4⟩ := PinOk.lst (s2.pin _ (hp (.ref aa, .lst ds) (by simp)))
        cases e0
        refine ⟨fun d hd => ?_, fun hi => ⟨_, k1.sq, by rw [k4.length]; exact hi⟩⟩
        obtain ⟨v, hv, rv⟩ := k4.get hd
        refine ⟨⟨_, v, k1.sq, hv⟩, fun x H' hy => ?_⟩
        obtain ⟨rfl, hy⟩ := hy
        have := hy _ k1.sq
        rw [hv] at this
        cases this
        exact ⟨w2, .refl _ _, s2, rv⟩
    | str z =>
      refine .inr (.inr ⟨w, env, st, s, ?_⟩)
      rw [e1]
      intro w' v H' l s' r
      have p' : PostI C env σ w H (if z.length ≤ sizeLine then .ok (chrs z) st' else .stuck) Q := p
      split at p'
      · exact ⟨z, RepR.str (.inl r), p' w' H' _ [] l s' (fun q hq => by cases hq) str_it (by rw [chrs_len]; assumption)⟩
      · exact p'.elim
    | tup ds =>
      refine .inr (.inl ⟨w, env, st, s, ?_⟩)
      rw [e1]
      intro w' v H' l s' r
      have r' : Rep C.T.K w' H' v (.tup ds) := r
      cases r with
      | tup h1 h4 =>
        rename_i aa vs
        refine ⟨_, rfl, _, h1, fun hz => p w' H' _ [(.ref aa, .tup ds)] l s' (fun q hq => ?_) ?_ (by rw [← h4.length]; exact hz)⟩
        · have : q = (.ref aa, .tup ds) := by simpa using hq
          subst this; exact .inl r'
        · intro B' _ _ hp w2 env2 st2 σ2 H2 s2 i
          have r2 : Rep C.T.K w2 H2 (.ref aa) (.tup ds) := by
            rcases s2.pin _ (hp (.ref aa, .tup ds) (by simp)) with z | ⟨_, _, _, _, z, _⟩
            · exact z
            · cases z
          cases r2 with
          | tup k1 k4 =>
            refine ⟨fun d hd => ?_, fun hi => ⟨_, k1, by rw [k4.length]; exact hi⟩⟩
            obtain ⟨v, hv, rv⟩ := k4.get hd
            refine ⟨⟨_, v, k1, hv⟩, fun x H' hy => ?_⟩
            obtain ⟨rfl, hy⟩ := hy
            have := hy _ k1
            rw [hv] at this
            cases this
            exact ⟨w2, .refl _ _, s2, rv⟩
    | _ => exact p.elim
/-- a name's list or tuple, walked by a for: kept or lent -/
def iVar (i : Nat) : FL := fun env st => match env[i]? with
  | some (some (.frz, .lst ds)) => .ok ds st
  | some (some (.frz, .tup ds)) => .ok ds st
  | some (some (.bor, .lst ds)) => .ok ds st
  | some (some (.frz, .str z)) => if z.length ≤ sizeLine then .ok (chrs z) st else .stuck
  | _ => .stuck
theorem lst_it {C : Cf} {aa : Addr} {ds : List D} : ItOk C [(.ref aa, .lst ds)] (Itl C.T.K aa) ds := by
  intro B' _ _ hp w2 env2 st2 σ2 H2 s2 i
  obtain ⟨_, us, e0, k1, _, k4⟩ := PinOk.lst (s2.pin _ (hp (.ref aa, .lst ds) (by simp)))
  cases e0
  refine ⟨fun d hd => ?_, fun hi => ⟨_, k1.sq, by rw [k4.length]; exact hi⟩⟩
  obtain ⟨v, hv, rv⟩ := k4.get hd
  refine ⟨⟨_, v, k1.sq, hv⟩, fun x H' hy => ?_⟩
  obtain ⟨rfl, hy⟩ := hy
  have := hy _ k1.sq
  rw [hv] at this
  cases this
  exact ⟨w2, .refl _ _, s2, rv⟩
theorem tup_it {C : Cf} {aa : Addr} {ds : List D} : ItOk C [(.ref aa, .tup ds)] (Itt C.T.K aa) ds := by
  intro B' _ _ hp w2 env2 st2 σ2 H2 s2 i
  have r2 : Rep C.T.K w2 H2 (.ref aa) (.tup ds) := by
    rcases s2.pin _ (hp (.ref aa, .tup ds) (by simp)) with z | ⟨_, _, _, _, z, _⟩
    · exact z
    · cases z
  cases r2 with
  | tup k1 k4 =>
    refine ⟨fun d hd => ?_, fun hi => ⟨_, k1, by rw [k4.length]; exact hi⟩⟩
    obtain ⟨v, hv, rv⟩ := k4.get hd
    refine ⟨⟨_, v, k1, hv⟩, fun x H' hy => ?_⟩
    obtain ⟨rfl, hy⟩ := hy
    have := hy _ k1
    rw [hv] at this
    cases this
    exact ⟨w2, .refl _ _, s2, rv⟩
theorem si_var (hN : G.N[i]? = some x) (hv : Vis G.sc x) (hd : (x == ("__debug__" : Str)) = false := by decide) (hcd : (x == ("__classdict__" : Str)) = false := by decide) : SndI G M tg (.Name x pos) (iVar i) := by
  intro X C gd
  have pv := pe_var (X := X) (pos := pos) (i := i) (x := x) (by rw [gd.N]; exact hN) (by rw [gd.sc]; exact hv) hd hcd
  refine ((pi_listB pv).or ((pi_tupB pv).or (pi_str pv))).imp fun σ H Q ⟨w, env, st, s, p⟩ => ?_
  rw [show X.K = C.T.K from gd.K.trans (by rw [gd.T])]
  unfold iVar at p
  split at p
  · rename_i ds hi
    obtain ⟨v, e1, r⟩ := s.slot i _ hi
    obtain ⟨aa, vs, rfl, h1, _, h4⟩ := RepR.lst (.inl r)
    exact .inl ⟨_, join_some e1, _, rfl, _, h1.sq, fun hz => p w H _ _ (.refl _ _) s (fun q hq => by
      have : q = (.ref aa, .lst ds) := by simpa using hq
      subst this; exact .inl r) lst_it (by rw [← h4.length]; exact hz)⟩
  · rename_i ds hi
    obtain ⟨v, e1, r⟩ := s.slot i _ hi
    obtain ⟨aa, vs, rfl, h1, h4⟩ := RepR.tup (.inl r)
    exact .inr (.inl ⟨_, join_some e1, _, rfl, _, h1, fun hz => p w H _ _ (.refl _ _) s (fun q hq => by
      have : q = (.ref aa, .tup ds) := by simpa using hq
      subst this; exact .inl r) tup_it (by rw [← h4.length]; exact hz)⟩)
  · rename_i ds hi
    obtain ⟨a, vs, ds', e1, e2, r, b⟩ := s.slot i _ hi
    cases e2
    exact .inl ⟨_, join_some e1, _, rfl, _, b.at_.sq, fun hz => p w H _ _ (.refl _ _) s (fun q hq => by
      have : q = (.ref a, .lst ds) := by simpa using hq
      subst this; exact .inr ⟨a, vs, ds, rfl, rfl, r, b⟩) lst_it (by rw [← r.length]; exact hz)⟩
  · rename_i z hi
    obtain ⟨v, e1, r⟩ := s.slot i _ hi
    split at p
    · exact .inr (.inr ⟨_, join_some e1, z, RepR.str (.inl r), p w H _ [] (.refl _ _) s (fun q hq => by cases hq) str_it (by rw [chrs_len]; assumption)⟩)
    · exact p.elim
  · exact p.elim
/-- range -/
def rngD (lo hi : Int) : List D := (List.range (hi - lo).toNat).map fun (i : Nat) => D.int (lo + i)
def iRng1D (f : F) : FL := fun env st => (f env st).bind fun d st1 => match d with
  | .int n => if n ≤ sizeLine ∧ -(2 ^ 62) ≤ n then .ok (rngD 0 n) st1 else .stuck
  | _ => .stuck
def iRng2D (f g : F) : FL := fun env st => (f env st).bind fun d st1 => (g env st1).bind fun d2 st2 => match d, d2 with
  | .int lo, .int hi => if hi - lo ≤ sizeLine ∧ (-(2 ^ 62) ≤ lo ∧ lo < 2 ^ 62 ∧ -(2 ^ 62) ≤ hi ∧ hi < 2 ^ 62) then .ok (rngD lo hi) st2 else .stuck
  | _, _ => .stuck
theorem rngD_len (lo hi : Int) : (rngD lo hi).length = (hi - lo).toNat := by unfold rngD; rw [List.length_map, List.length_range]
theorem itr_ok (lo hi : Int) : ItOk C [] (Itr lo (hi - lo).toNat) (rngD lo hi) := by
  intro B' _ _ hp w env st σ H s i
  refine ⟨fun d hd => ?_, fun hi' => by rw [rngD_len] at hi'; exact hi'⟩
  have hi' : i < (hi - lo).toNat := by rw [← rngD_len]; exact (List.getElem?_eq_some_iff.mp hd).1
  refine ⟨hi', fun x H' hy => ?_⟩
  obtain ⟨rfl, rfl⟩ := hy
  unfold rngD at hd
  rw [List.getElem?_map, List.getElem?_range hi'] at hd
  cases hd
  exact ⟨w, .refl _ _, s, .int _⟩
theorem si_rng1 {p1 pos : Pos} (hg : G.sc.names.lookup ("range" : Str) = some .globalImplicit) (hm : M.mg ("range" : Str) = none) (he : SndE G M .rd e f) (hs : ∀ env, starEach [e] env = [(false, eval e env)] := by intro _; rfl) : SndI G M tg (.Call (.Name "range" p1) [e] [] pos) (iRng1D f) := by
  intro X C gd
  refine (pi_range1 (by show X.env.scope.names.lookup _ = _; rw [gd.sc]; exact hg) (by rw [gd.mg]; exact hm) (pa_cons (he X C gd) pa_nil (hs _)) (hs _)).imp fun σ H Q ⟨w, env, st, s, p⟩ => ⟨w, env, st, s, ?_⟩
  unfold iRng1D at p
  cases e1 : f env st with
  | stuck => rw [e1] at p; exact p.elim
  | exc x st' => rw [e1] at p; exact p
  | ok d st' =>
    rw [e1] at p
    intro w' v H' l s' r
    cases d with
    | int n =>
      have p' : PostI C env σ w H (if n ≤ sizeLine ∧ -(2 ^ 62) ≤ n then .ok (rngD 0 n) st' else .stuck) Q := p
      split at p'
      · rename_i hc
        have hz : (sizeLine : Int) < 2 ^ 62 := by rw [sizeLine_eq]; decide
        refine ⟨n, by rw [RepR.int r], hc.2, by omega, ?_⟩
        have := p' w' H' (Itr 0 (n - 0).toNat) [] l s' (fun q hq => by cases hq) (itr_ok 0 n) (by rw [rngD_len]; omega)
        rw [Int.sub_zero] at this
        exact this
      · exact p'.elim
    | _ => exact p.elim
theorem si_rng2 {p1 pos : Pos} (hg : G.sc.names.lookup ("range" : Str) = some .globalImplicit) (hm : M.mg ("range" : Str) = none) (ha : SndE G M .rd a f) (hb : SndE G M .rd b g) (hs : ∀ env, starEach [a, b] env = [(false, eval a env), (false, eval b env)] := by intro _; rfl)
    (hs2 : ∀ env, starEach [b] env = [(false, eval b env)] := by intro _; rfl) : SndI G M tg (.Call (.Name "range" p1) [a, b] [] pos) (iRng2D f g) := by
  intro X C gd
  refine (pi_range2 (by show X.env.scope.names.lookup _ = _; rw [gd.sc]; exact hg) (by rw [gd.mg]; exact hm) (pa_cons (ha X C gd) (pa_cons (hb X C gd) pa_nil (hs2 _)) (by rw [hs, hs2])) (hs _) (hs2 _)).imp fun σ H Q ⟨w, env, st, s, p⟩ => ⟨w, env, st, s, ?_⟩
  unfold iRng2D at p
  cases e1 : f env st with
  | stuck => rw [e1] at p; exact p.elim
  | exc x st' => rw [e1] at p; exact p
  | ok d st' =>
    rw [e1] at p
    intro w' v H' l s' r
    refine ⟨w', env, st', s', ?_⟩
    change PostI C env σ w H ((g env st').bind _) Q at p
    cases e2 : g env st' with
    | stuck => rw [e2] at p; exact p.elim
    | exc x st2 => rw [e2] at p; exact fun w2 H2 c dx l2 => p w2 H2 c dx (l.trans l2)
    | ok d2 st2 =>
      rw [e2] at p
      intro w2 v2 H2 l2 s2 r2
      match d, d2, r, r2, p with
      | .int lo, .int hi, r, r2, p =>
        have p' : PostI C env σ w H (if hi - lo ≤ sizeLine ∧ (-(2 ^ 62) ≤ lo ∧ lo < 2 ^ 62 ∧ -(2 ^ 62) ≤ hi ∧ hi < 2 ^ 62) then .ok (rngD lo hi) st2 else .stuck) Q := p
        split at p'
        · rename_i hc
          exact ⟨lo, hi, by rw [RepR.int r, RepR.int r2], hc.2, p' w2 H2 _ [] (l.trans l2) s2 (fun q hq => by cases hq) (itr_ok lo hi) (by rw [rngD_len]; omega)⟩
        · exact p'.elim
      | .non, _, _, _, p => exact p.elim
      | .bl _, _, _, _, p => exact p.elim
      | .str _, _, _, _, p => exact p.elim
      | .lst _, _, _, _, p => exact p.elim
      | .tup _, _, _, _, p => exact p.elim
      | .loc _, _, _, _, p => exact p.elim
      | .int _, .non, _, _, p => exact p.elim
      | .int _, .bl _, _, _, p => exact p.elim
      | .int _, .str _, _, _, p => exact p.elim
      | .int _, .lst _, _, _, p => exact p.elim
      | .int _, .tup _, _, _, p => exact p.elim
      | .int _, .loc _, _, _, p => exact p.elim

/-! for -/
def forL (t : Tg) (body : FS) : List D → Ev → Sto → Out
  | [], env, st => .next env st
  | d :: ds, env, st => match t d env with
    | none => .stuck
    | some env1 => match body env1 st with
      | .next env2 st2 => forL t body ds env2 st2
      | .cont env2 st2 => forL t body ds env2 st2
      | .brk env2 st2 => .next env2 st2
      | o => o
def sFor (fi : FL) (t : Tg) (body : FS) : FS := fun env st => match fi env st with
  | .ok ds st1 => forL t body ds env st1
  | .exc x st1 => .exc x env st1
  | .stuck => .stuck
theorem Sim.unpin {T : Tb} {B B' : Bs} {w : Wd} {env : Ev} {st : Sto} {σ : St} {H : Hp} (s : Sim T B' w env st σ H) (e1 : B'.w = B.w) (e2 : B'.H = B.H) (e3 : B'.ex = B.ex) (hp : ∀ p ∈ B.pin, p ∈ B'.pin) : Sim T B w env st σ H := by
  cases B; cases B'
  simp only at e1 e2 e3
  subst e1 e2 e3
  exact ⟨s.len, s.slot, s.dist, s.sto, s.al, s.le, s.sub, s.bal, fun p h => s.pin p (hp p h)⟩
theorem Sim.topin {T : Tb} {B B' : Bs} {w : Wd} {env : Ev} {st : Sto} {σ : St} {H : Hp} (s : Sim T B w env st σ H) (e1 : B'.w = B.w) (e2 : B'.H = B.H) (e3 : B'.ex = B.ex) (hp : ∀ p ∈ B'.pin, PinOk T.K B w H p) : Sim T B' w env st σ H := by
  cases B; cases B'
  simp only at e1 e2 e3
  subst e1 e2 e3
  exact ⟨s.len, s.slot, s.dist, s.sto, s.al, s.le, s.sub, s.bal, hp⟩
theorem ss_for {iter : Expr} {body : List Stmt} {is : List Nat} {fi : FL} {t : Tg} {fb : FS} (hm : M.hot = false) (hi : SndI G M tg iter fi) (hg : SndG G M tg is t) (hb : SndB G M body fb)
    (hs : ∀ env x, foldedSetIterable iter env x = pure x := by intro _ _; rfl) : SndS G M (.For tg iter body [] pos) (sFor fi t fb) := by
  intro X C gd
  let C' : List (V × D) → Cf := fun pin => ⟨C.T, ⟨C.B.w, C.B.H, pin ++ C.B.pin, C.B.ex⟩, C.W⟩
  have gd' : ∀ pin, Gd G M X (C' pin) := fun pin => ⟨gd.p, gd.w, gd.K, gd.T, gd.mg, gd.base, gd.N, gd.sc, gd.nd, gd.cold, gd.frm, gd.hotr, gd.exk, gd.fn, gd.pown, gd.tk⟩
  let tb : TS := fun D σ H => ∃ pin, tS (C' pin) fb D σ H
  have hb' : PSs X body tb := ⟨fun pins s σ H D I ⟨pin, q⟩ => (hb X (C' pin) (gd' pin)).run pins s σ H D I q⟩
  let tg' : TG := fun v σ H Q => ∃ pin, tG (C' pin) is t v σ H Q
  have hg' : PG X tg tg' := ⟨fun pins s σ H v u Q I r ⟨pin, q⟩ => (hg X (C' pin) (gd' pin)).run pins s σ H v u Q I r q⟩
  refine (ps_for gd.pown (gd.cold hm).1 (hi X C gd) hg' hb' (hs _)).imp fun E σ H ⟨w, env, st, s, p⟩ => ⟨w, env, st, s, ?_⟩
  unfold sFor at p
  cases e1 : fi env st with
  | stuck => rw [e1] at p; exact p.elim
  | exc x st' => rw [e1] at p; exact fun w' H' c dx l s' xr => p w' σ H' c dx s' xr
  | ok ds st' =>
    rw [e1] at p
    intro w' H' J pin l s' hpin hJ hz
    have sp : ∀ {w env st σ H}, Sim C.T C.B w env st σ H → (∀ q ∈ pin, PinOk C.T.K C.B w H q) → Sim C.T (C' pin).B w env st σ H := fun s h => s.topin rfl rfl rfl fun q hq => (List.mem_append.mp hq).elim (h q) (s.pin q)
    have spo : ∀ {w env st σ H}, Sim C.T (C' pin).B w env st σ H → Sim C.T C.B w env st σ H := fun s => s.unpin rfl rfl rfl fun q hq => List.mem_append_right _ hq
    refine ⟨fun i m σ H => m = ds.length - i ∧ i ≤ ds.length ∧ ∃ w env st, Sim C.T (C' pin).B w env st σ H ∧ PostS C E (forL t fb (ds.drop i) env st), ⟨ds.length, rfl, Nat.zero_le _, w', env, st', sp s' hpin, p⟩, ?_⟩
    rintro i m σ2 H2 ⟨rfl, hi, w2, env2, st2, s2, p2⟩
    obtain ⟨h1, h2⟩ := hJ (C' pin).B rfl rfl (fun q hq => List.mem_append_left _ hq) w2 env2 st2 σ2 H2 s2 i
    by_cases hlt : i < ds.length
    · have hd : ds[i]? = some ds[i] := List.getElem?_eq_getElem hlt
      obtain ⟨g1, g2⟩ := h1 _ hd
      rw [List.drop_eq_getElem_cons hlt] at p2
      refine .inr ⟨g1, fun σ' H' => ∃ w env st, Sim C.T (C' pin).B w env st σ' H' ∧ PostS C E (forL t fb (ds.drop (i + 1)) env st), fun σ' H' hN => ⟨ds.length - (i + 1), by omega, rfl, hlt, hN⟩, fun x H' hy => ?_⟩
      obtain ⟨w3, l3, s3, r3⟩ := g2 x H' hy
      refine ⟨pin, w3, env2, st2, ds[i], s3, r3, ?_⟩
      unfold forL at p2
      cases q : t ds[i] env2 with
      | none => rw [q] at p2; exact p2.elim
      | some env3 =>
        rw [q] at p2
        dsimp only at p2
        refine fun σ' s4 _ => ⟨pin, w3, env3, st2, s4, ?_⟩
        cases q2 : fb env3 st2 with
        | next env4 st4 => rw [q2] at p2; exact fun w5 σ5 H5 s5 => ⟨w5, env4, st4, s5, p2⟩
        | cont env4 st4 => rw [q2] at p2; exact fun w5 σ5 H5 s5 => ⟨w5, env4, st4, s5, p2⟩
        | brk env4 st4 => rw [q2] at p2; exact fun w5 σ5 H5 s5 => p2 w5 σ5 H5 (spo s5)
        | ret d st4 => rw [q2] at p2; exact p2
        | exc x env4 st4 => rw [q2] at p2; exact fun w5 σ5 H5 c dx s5 xr => p2 w5 σ5 H5 c dx (spo s5) xr
        | stuck => rw [q2] at p2; exact p2
    · have e : ds.drop i = [] := List.drop_eq_nil_of_le (by omega)
      rw [e] at p2
      exact .inl ⟨h2 (by omega), p2 w2 σ2 H2 (spo s2)⟩

/-! while -/
def whL (c : FB) (body : FS) : Nat → Ev → Sto → Out
  | 0, _, _ => .stuck
  | n + 1, env, st => (c env st).outB env fun b st1 => if b = true then (match body env st1 with
      | .next env2 st2 => whL c body n env2 st2
      | .cont env2 st2 => whL c body n env2 st2
      | .brk env2 st2 => .next env2 st2
      | o => o) else .next env st1
def wFuel : Nat := 1000000000
def sWh (c : FB) (body : FS) : FS := fun env st => whL c body wFuel env st
theorem ss_wh {body : List Stmt} {fb : FS} (hc : SndT G M c p) (hb : SndB G M body fb) : SndS G M (.While c body [] pos) (sWh p fb) := by
  intro X C gd
  refine (ps_while gd.pown (hc X C gd) (hb X C gd)).imp fun E σ H ⟨w, env, st, s, pp⟩ => ?_
  refine ⟨fun m σ H => ∃ w env st, Sim C.T C.B w env st σ H ∧ PostS C E (whL p fb m env st), ⟨wFuel, w, env, st, s, pp⟩, ?_⟩
  rintro m σ2 H2 ⟨w2, env2, st2, s2, p2⟩
  cases m with
  | zero => exact p2.elim
  | succ n =>
    refine ⟨w2, env2, st2, s2, PostS.bindT p2 fun d st1 w1 H1 l1 s1 p1 => ?_⟩
    cases d with
    | false => rw [if_neg Bool.false_ne_true] at p1 ⊢; exact p1 w1 σ2 H1 s1
    | true =>
      rw [if_pos rfl] at p1 ⊢
      refine ⟨fun σ' H' => ∃ w env st, Sim C.T C.B w env st σ' H' ∧ PostS C E (whL p fb n env st), fun σ' H' hN => ⟨n, Nat.lt_succ_self _, hN⟩, w1, env2, st1, s1, ?_⟩
      cases q2 : fb env2 st1 with
      | next env4 st4 => rw [q2] at p1; exact fun w5 σ5 H5 s5 => ⟨w5, env4, st4, s5, p1⟩
      | cont env4 st4 => rw [q2] at p1; exact fun w5 σ5 H5 s5 => ⟨w5, env4, st4, s5, p1⟩
      | brk env4 st4 => rw [q2] at p1; exact p1
      | ret d st4 => rw [q2] at p1; exact p1
      | exc x env4 st4 => rw [q2] at p1; exact p1
      | stuck => rw [q2] at p1; exact p1

/-! lists of the frame's own, changed -/
theorem Sim.chg {T : Tb} {B : Bs} {w : Wd} {env : Ev} {st : Sto} {σ : St} {H : Hp} {i : Nat} {d : D} {a : Addr} {vs : List V} {ds : List D} (s : Sim T B w env st σ H) (he : env[i]? = some (some (.own, d))) (ha : (σ[i]?).join = some (.ref a))
    (r : Reps T.K w H vs ds) : Sim T B w (env.set i (some (.own, .lst ds))) st σ (upd H a (.lst vs)) := by
  obtain ⟨a', vs0, ds0, e1, rfl, e3, r0, f4, f5⟩ := s.slot i _ he
  rw [ha] at e1; cases e1
  have hi : i < env.length := (List.getElem?_eq_some_iff.mp he).1
  have nr := (s.al a f4).2
  have ok : Ok2 w H w (upd H a (.lst vs)) := by
    refine ⟨fun _ _ e => e, fun b o e im => ?_, fun b o e n1 n2 => ⟨?_, n1, n2⟩⟩
    · rw [upd_ne (fun z => by subst z; rw [e3] at e; cases e; exact im)]; exact e
    · rw [upd_ne (fun (z : b = a) => n1 (by rw [z]; exact f4))]; exact e
  have nB : ∀ b, B.H b ≠ none → b ≠ a := fun b hb z => hb (z ▸ f5)
  refine ⟨by rw [List.length_set]; exact s.len, fun j sl ej => ?_, fun j k d e b h1 h2 h3 h4 => ?_, s.sto.to ok (fun b hb => by rw [upd_ne (fun (z : b = a) => nr (by rw [← z]; exact hb))]) rfl, fun b z => ⟨?_, (s.al b z).2⟩, ⟨s.le.pre, fun b o e n => ?_, fun b o e => ?_, s.le.new, s.le.S, s.le.Sm⟩, s.sub, s.bal, fun p hp => (s.pin p hp).to ok fun c u z3 z4 z5 => ⟨by rw [upd_ne (nB c z5)]; exact z3, z4⟩⟩
  · rcases get_set ej with ⟨z1, z2⟩ | ⟨z1, z2⟩
    · subst z1 z2
      exact ⟨a, vs, ds, ha, rfl, upd_same, Reps.to ok _ _ r, f4, f5⟩
    · match sl, z2, s.slot j sl z2 with
      | none, _, _ => trivial
      | some (.frz, d), _, ⟨v, g1, g2⟩ => exact ⟨v, g1, Rep.to ok _ _ g2⟩
      | some (.own, d), z2, ⟨b, us, es, g1, g2, g3, rr, g4, g5⟩ =>
        refine ⟨b, us, es, g1, g2, ?_, Reps.to ok _ _ rr, g4, g5⟩
        rw [upd_ne (fun z => z1 (s.dist j i _ _ a z2 he (by rw [g1, z]) ha))]
        exact g3
      | some (.bor, d), _, ⟨b, us, es, g1, g2, rr, g4⟩ =>
        exact ⟨b, us, es, g1, g2, Reps.to ok _ _ rr, g4.to fun c u z3 z4 z5 => ⟨by rw [upd_ne (nB c z5)]; exact z3, z4⟩⟩
      | some (.exc, d), _, ⟨b, c, cls, dd, f, v0, ee, g1, g2, g3, g4, g5, g6, rx⟩ => exact ⟨b, c, cls, dd, f, v0, ee, g1, g2, g3, by rw [upd_ne (fun (z : dd = a) => g5 (by rw [z]; exact f4))]; exact g4, g5, g6, Rep.to ok _ _ rx⟩
  · rcases get_set h1 with ⟨z1, z2⟩ | ⟨z1, z2⟩
    · rcases get_set h2 with ⟨z3, z4⟩ | ⟨z3, z4⟩
      · rw [z1, z3]
      · subst z1; exact s.dist j k _ _ b he z4 h3 h4
    · rcases get_set h2 with ⟨z3, z4⟩ | ⟨z3, z4⟩
      · subst z3; exact s.dist j k _ _ b z2 he h3 h4
      · exact s.dist j k _ _ b z2 z4 h3 h4
  · by_cases hb : b = a
    · subst hb; rw [upd_same]; intro z; cases z
    · rw [upd_ne hb]; exact (s.al b z).1
  · rw [upd_ne (nB b (by rw [e]; intro z; cases z))]; exact s.le.fr b o e n
  · obtain ⟨o', e'⟩ := s.le.live b o e
    exact ⟨o', by rw [upd_ne (nB b (by rw [e]; intro z; cases z))]; exact e'⟩
end
end NC

/-! ### built-in functions and methods, own lists changed -/
namespace NC
open PySem L2
/-- is it None -/
def D.isNon : D → Bool
  | .non => true
  | _ => false

/-- what a built-in does with values -/
def BuS (G : Ct) (M : Mo) (m : Md) (ms : List Md) (u : Value) (k : List D → Sto → R D) : Prop := ∀ X C, Gd G M X C → ∃ r, CallR X u r ∧
  ∀ env σ w H st ds vs Q, Sim C.T C.B w env st σ H → RepL C.T.K w H ms vs ds → PostE C m env σ w H (k ds st) Q → r vs H Q
def bCall (k : List D → Sto → R D) (g : FL) : F := fun env st => (g env st).bind fun ds st1 => k ds st1
section
variable {G : Ct} {M : Mo} {m : Md} {ms : List Md} {X : Cx} {C : Cf} {a b c e tg : Expr} {es : List Expr} {f g h : F} {fl : FL} {p1 pos : Pos} {i : Nat} {x : Str} {k : List D → Sto → R D} {id T : String}
theorem sn_callB (hc : BuS G M m ms (.builtin id) k) (hg : G.sc.names.lookup x = some .globalImplicit) (hm : M.mg x = none) (hv : bootBuiltins x = some (.builtin id)) (ha : SndL G M ms (e :: es) fl) (hn : x ≠ "__name__" := by decide) (hdb : (x == ("__debug__" : Str)) = false := by decide)
    (he : ∀ env, starEach (e :: es) env = (false, eval e env) :: starEach es env := by intro _; rfl) (hpl : ∀ env, (backTo pos (starEach es env)).any (·.1) = false := by intro _; rfl) : SndE G M m (.Call (.Name x p1) (e :: es) [] pos) (bCall k fl) := by
  intro X C gd
  obtain ⟨r, h1, h2⟩ := hc X C gd
  refine (pe_callB h1 (by show X.env.scope.names.lookup _ = _; rw [gd.sc]; exact hg) (by rw [gd.mg]; exact hm) hv (ha X C gd) hn hdb (he _) (hpl _)).imp fun σ H Q ⟨w, env, st, s, p⟩ => ⟨w, env, st, s, ?_⟩
  exact PostE.bindL p fun ds st1 w1 vs H1 l1 s1 r1 p1 => h2 env σ w1 H1 st1 ds vs Q s1 r1 p1
theorem sn_callTy (hc : BuS G M m ms (.type T) k) (hg : G.sc.names.lookup x = some .globalImplicit) (hm : M.mg x = none) (hv : bootBuiltins x = some (.type T)) (ha : SndL G M ms (e :: es) fl) (hn : x ≠ "__name__" := by decide) (hdb : (x == ("__debug__" : Str)) = false := by decide)
    (he : ∀ env, starEach (e :: es) env = (false, eval e env) :: starEach es env := by intro _; rfl) (hpl : ∀ env, (backTo pos (starEach es env)).any (·.1) = false := by intro _; rfl) : SndE G M m (.Call (.Name x p1) (e :: es) [] pos) (bCall k fl) := by
  intro X C gd
  obtain ⟨r, h1, h2⟩ := hc X C gd
  refine (pe_callTy h1 (by show X.env.scope.names.lookup _ = _; rw [gd.sc]; exact hg) (by rw [gd.mg]; exact hm) hv (ha X C gd) hn hdb (he _) (hpl _)).imp fun σ H Q ⟨w, env, st, s, p⟩ => ⟨w, env, st, s, ?_⟩
  exact PostE.bindL p fun ds st1 w1 vs H1 l1 s1 r1 p1 => h2 env σ w1 H1 st1 ds vs Q s1 r1 p1
theorem RepL.rd1 {K : PySem.W.Frag} {w : Wd} {H : Hp} {vs : List V} {ds : List D} (h : RepL K w H [.rd] vs ds) : ∃ v d, vs = [v] ∧ ds = [d] ∧ RepR K w H v d := by
  cases h with
  | rd h t => cases t; exact ⟨_, _, rfl, rfl, h⟩
theorem RepL.rd2 {K : PySem.W.Frag} {w : Wd} {H : Hp} {vs : List V} {ds : List D} (h : RepL K w H [.rd, .rd] vs ds) : ∃ v u d e, vs = [v, u] ∧ ds = [d, e] ∧ RepR K w H v d ∧ RepR K w H u e := by
  cases h with
  | rd h t =>
    obtain ⟨u, e, rfl, rfl, q⟩ := t.rd1
    exact ⟨_, _, _, _, rfl, rfl, h, q⟩

def kAbs : List D → Sto → R D
  | [.int i], st => .ok (.int (if i < 0 then -i else i)) st
  | _, _ => .stuck
theorem bu_abs : BuS G M m [.rd] (.builtin "abs") kAbs := by
  refine fun X C gd => ⟨_, call_abs, fun env σ w H st ds vs Q s r0 p => ?_⟩
  obtain ⟨v, d, rfl, rfl, r⟩ := r0.rd1
  cases d with
  | int i => exact ⟨i, by rw [r.int], PostE.done p s (RepM.int _)⟩
  | _ => exact p.elim
def kMax2 : List D → Sto → R D
  | [.int i, .int j], st => .ok (.int (if j > i then j else i)) st
  | _, _ => .stuck
def kMin2 : List D → Sto → R D
  | [.int i, .int j], st => .ok (.int (if j < i then j else i)) st
  | _, _ => .stuck
theorem bu_max2 (hm : M.hot = false) : BuS G M m [.rd, .rd] (.builtin "max") kMax2 := by
  refine fun X C gd => ⟨_, call_max2 (gd.cold hm).1, fun env σ w H st ds vs Q s r0 p => ?_⟩
  obtain ⟨v, u, d, e, rfl, rfl, r1, r2⟩ := r0.rd2
  unfold kMax2 at p
  split at p
  · rename_i hh; cases hh
    exact ⟨_, _, by rw [r1.int, r2.int], p.done s (RepM.int _)⟩
  · exact p.elim
theorem bu_min2 (hm : M.hot = false) : BuS G M m [.rd, .rd] (.builtin "min") kMin2 := by
  refine fun X C gd => ⟨_, call_min2 (gd.cold hm).1, fun env σ w H st ds vs Q s r0 p => ?_⟩
  obtain ⟨v, u, d, e, rfl, rfl, r1, r2⟩ := r0.rd2
  unfold kMin2 at p
  split at p
  · rename_i hh; cases hh
    exact ⟨_, _, by rw [r1.int, r2.int], p.done s (RepM.int _)⟩
  · exact p.elim
def kInt : List D → Sto → R D
  | [.int i], st => .ok (.int i) st
  | [.bl b], st => .ok (.int (if b then 1 else 0)) st
  | [.str x], st => if x.length ≤ 640 then match PySem.intText? x with
      | some n => .ok (.int n) st
      | none => .stuck
    else .stuck
  | _, _ => .stuck
theorem bu_int : BuS G M m [.rd] (.type "int") kInt := by
  refine fun X C gd => ⟨_, call_int1.or call_int_str, fun env σ w H st ds vs Q s r0 p => ?_⟩
  obtain ⟨v, d, rfl, rfl, r⟩ := r0.rd1
  cases d with
  | int i => exact .inl (.inl ⟨i, by rw [r.int], PostE.done p s (RepM.int _)⟩)
  | bl b => exact .inl (.inr ⟨b, by rw [r.bl], PostE.done p s (RepM.int _)⟩)
  | str x =>
    have p' : PostE C m env σ w H (if x.length ≤ 640 then match PySem.intText? x with | some n => .ok (.int n) st | none => .stuck else .stuck) Q := p
    split at p'
    · cases e : PySem.intText? x with
      | none => rw [e] at p'; exact p'.elim
      | some n => rw [e] at p'; exact .inr ⟨x, n, by rw [r.str], e, by assumption, PostE.done p' s (RepM.int _)⟩
    · exact p'.elim
  | _ => exact p.elim
def kBool : List D → Sto → R D
  | [.int i], st => .ok (.bl (i != 0)) st
  | [.bl b], st => .ok (.bl b) st
  | _, _ => .stuck
theorem bu_bool : BuS G M m [.rd] (.type "bool") kBool := by
  refine fun X C gd => ⟨_, call_bool1, fun env σ w H st ds vs Q s r0 p => ?_⟩
  obtain ⟨v, d, rfl, rfl, r⟩ := r0.rd1
  cases d with
  | int i => exact .inl ⟨i, by rw [r.int], PostE.done p s (RepM.bl _)⟩
  | bl b => exact .inr ⟨b, by rw [r.bl], PostE.done p s (RepM.bl _)⟩
  | _ => exact p.elim
def kStr : List D → Sto → R D
  | [.int i], st => if i.natAbs.log2 < 1920 then .ok (.str (toString i)) st else .stuck
  | [.str x], st => .ok (.str x) st
  | _, _ => .stuck
theorem bu_str : BuS G M m [.rd] (.type "str") kStr := by
  refine fun X C gd => ⟨_, call_str_int.or SkE.call_str_str, fun env σ w H st ds vs Q s r0 p => ?_⟩
  obtain ⟨v, d, rfl, rfl, r⟩ := r0.rd1
  cases d with
  | int i =>
    have p' : PostE C m env σ w H (if i.natAbs.log2 < 1920 then .ok (.str (toString i)) st else .stuck) Q := p
    split at p'
    · exact .inl ⟨i, by rw [r.int], by assumption, PostE.done p' s (RepM.str _)⟩
    · exact p'.elim
  | str x => exact .inr ⟨x, by rw [r.str], PostE.done p s (RepM.str _)⟩
  | _ => exact p.elim
def kLen : List D → Sto → R D
  | [.lst ds], st => .ok (.int (ds.length : Nat)) st
  | [.tup ds], st => .ok (.int (ds.length : Nat)) st
  | [.str x], st => if x.length ≤ sizeLine then .ok (.int (x.length : Nat)) st else .stuck
  | [.loc n], st => match st[n]? with
    | some (.lst ds) => .ok (.int (ds.length : Nat)) st
    | _ => .stuck
  | _, _ => .stuck
theorem bu_len : BuS G M m [.rd] (.builtin "len") kLen := by
  refine fun X C gd => ⟨_, call_len_seq.or call_len_str, fun env σ w H st ds vs Q s r0 p => ?_⟩
  rw [show X.K = C.T.K from gd.K.trans (by rw [gd.T])]
  obtain ⟨v, d, rfl, rfl, r⟩ := r0.rd1
  cases d with
  | lst ds =>
    obtain ⟨a, us, rfl, e3, n, rs⟩ := r.lst
    exact .inl ⟨a, us, rfl, .inl e3.sq, by rw [rs.length]; exact PostE.done p s (RepM.int _)⟩
  | tup ds =>
    obtain ⟨a, us, rfl, e3, rs⟩ := r.tup
    exact .inl ⟨a, us, rfl, .inr e3, by rw [rs.length]; exact PostE.done p s (RepM.int _)⟩
  | str x =>
    have p' : PostE C m env σ w H (if x.length ≤ sizeLine then .ok (.int (x.length : Nat)) st else .stuck) Q := p
    split at p'
    · exact .inr ⟨x, by rw [r.str], by assumption, PostE.done p' s (RepM.int _)⟩
    · exact p'.elim
  | loc n =>
    obtain ⟨a, rfl, ea⟩ := r.loc
    have p' : PostE C m env σ w H (match st[n]? with | some (.lst ds) => .ok (.int (ds.length : Nat)) st | _ => .stuck) Q := p
    cases q : st[n]? with
    | none => rw [q] at p'; exact p'.elim
    | some c =>
      rw [q] at p'
      cases c with
      | lst ds =>
        obtain ⟨us, h1, h2⟩ := s.sto.at_ _ _ _ q ea
        exact .inl ⟨a, us, rfl, .inl (SqL.of h1), by rw [h2.length]; exact PostE.done p' s (RepM.int _)⟩
      | _ => exact p'.elim
  | _ => exact p.elim
def kList : List D → Sto → R D
  | [.lst ds], st => .ok (.lst ds) st
  | [.tup ds], st => .ok (.lst ds) st
  | [.loc n], st => match st[n]? with
    | some (.lst ds) => .ok (.lst ds) st
    | _ => .stuck
  | _, _ => .stuck
theorem bu_list : BuS G M .fr [.rd] (.type "list") kList := by
  refine fun X C gd => ⟨_, call_list_of, fun env σ w H st ds vs Q s r0 p => ?_⟩
  rw [show X.K = C.T.K from gd.K.trans (by rw [gd.T])]
  obtain ⟨v, d, rfl, rfl, r⟩ := r0.rd1
  cases d with
  | lst ds =>
    obtain ⟨a, us, rfl, e3, n, rs⟩ := r.lst
    exact ⟨a, us, rfl, .inl e3.sq, fun pp hp => PostE.lst p s rs hp⟩
  | tup ds =>
    obtain ⟨a, us, rfl, e3, rs⟩ := r.tup
    exact ⟨a, us, rfl, .inr e3, fun pp hp => PostE.lst p s rs hp⟩
  | loc n =>
    obtain ⟨a, rfl, ea⟩ := r.loc
    have p' : PostE C .fr env σ w H (match st[n]? with | some (.lst ds) => .ok (.lst ds) st | _ => .stuck) Q := p
    cases q : st[n]? with
    | none => rw [q] at p'; exact p'.elim
    | some c =>
      rw [q] at p'
      cases c with
      | lst ds =>
        obtain ⟨us, h1, h2⟩ := s.sto.at_ _ _ _ q ea
        exact ⟨a, us, rfl, .inl (SqL.of h1), fun pp hp => PostE.lst (ds := ds) p' s h2 hp⟩
      | _ => exact p'.elim
  | _ => exact p.elim
def kTuple : List D → Sto → R D
  | [.lst ds], st => .ok (.tup ds) st
  | [.tup ds], st => .ok (.tup ds) st
  | [.loc n], st => match st[n]? with
    | some (.lst ds) => .ok (.tup ds) st
    | _ => .stuck
  | _, _ => .stuck
theorem bu_tuple : BuS G M m [.rd] (.type "tuple") kTuple := by
  refine fun X C gd => ⟨_, call_tuple_of, fun env σ w H st ds vs Q s r0 p => ?_⟩
  rw [show X.K = C.T.K from gd.K.trans (by rw [gd.T])]
  obtain ⟨v, d, rfl, rfl, r⟩ := r0.rd1
  cases d with
  | lst ds =>
    obtain ⟨a, us, rfl, e3, n, rs⟩ := r.lst
    exact ⟨a, us, rfl, .inl ⟨e3.sq, fun pp hp => PostE.tup p s rs hp⟩⟩
  | tup ds =>
    obtain ⟨a, us, rfl, e3, rs⟩ := r.tup
    exact ⟨a, us, rfl, .inr ⟨e3, PostE.done p s (RepM.tup (.tup e3 rs))⟩⟩
  | loc n =>
    obtain ⟨a, rfl, ea⟩ := r.loc
    have p' : PostE C m env σ w H (match st[n]? with | some (.lst ds) => .ok (.tup ds) st | _ => .stuck) Q := p
    cases q : st[n]? with
    | none => rw [q] at p'; exact p'.elim
    | some c =>
      rw [q] at p'
      cases c with
      | lst ds =>
        obtain ⟨us, h1, h2⟩ := s.sto.at_ _ _ _ q ea
        exact ⟨a, us, rfl, .inl ⟨SqL.of h1, fun pp hp => PostE.tup (ds := ds) p' s h2 hp⟩⟩
      | _ => exact p'.elim
  | _ => exact p.elim

/-! all, any, sum, max, min of a list -/
def blsD : List D → Option (List Bool)
  | [] => some []
  | .bl b :: r => (blsD r).map (b :: ·)
  | _ => none
def intsD : List D → Option (List Int)
  | [] => some []
  | .int b :: r => (intsD r).map (b :: ·)
  | _ => none
def strsD : List D → Option (List Str)
  | [] => some []
  | .str b :: r => (strsD r).map (b :: ·)
  | _ => none
theorem blsD_v {K : PySem.W.Frag} {w : Wd} {H : Hp} : ∀ {ds : List D} {vs : List V} {bs : List Bool}, blsD ds = some bs → Reps K w H vs ds → vs = bs.map V.bl
  | _, _, _, h, .nil => by cases h; rfl
  | d :: ds, _, bs, h, .cons r t => by
    cases d with
    | bl b =>
      unfold blsD at h
      cases e : blsD ds with
      | none => rw [e] at h; cases h
      | some l => rw [e] at h; cases h; cases r; rw [blsD_v e t]; rfl
    | _ => cases h
theorem intsD_v {K : PySem.W.Frag} {w : Wd} {H : Hp} : ∀ {ds : List D} {vs : List V} {bs : List Int}, intsD ds = some bs → Reps K w H vs ds → vs = bs.map V.int
  | _, _, _, h, .nil => by cases h; rfl
  | d :: ds, _, bs, h, .cons r t => by
    cases d with
    | int b =>
      unfold intsD at h
      cases e : intsD ds with
      | none => rw [e] at h; cases h
      | some l => rw [e] at h; cases h; cases r; rw [intsD_v e t]; rfl
    | _ => cases h
theorem strsD_v {K : PySem.W.Frag} {w : Wd} {H : Hp} : ∀ {ds : List D} {vs : List V} {bs : List Str}, strsD ds = some bs → Reps K w H vs ds → vs = bs.map V.str
  | _, _, _, h, .nil => by cases h; rfl
  | d :: ds, _, bs, h, .cons r t => by
    cases d with
    | str b =>
      unfold strsD at h
      cases e : strsD ds with
      | none => rw [e] at h; cases h
      | some l => rw [e] at h; cases h; cases r; rw [strsD_v e t]; rfl
    | _ => cases h
theorem blsD_map (bs : List Bool) : blsD (bs.map D.bl) = some bs := by
  induction bs with
  | nil => rfl
  | cons b r ih => rw [List.map_cons, blsD, ih]; rfl
theorem intsD_map (bs : List Int) : intsD (bs.map D.int) = some bs := by
  induction bs with
  | nil => rfl
  | cons b r ih => rw [List.map_cons, intsD, ih]; rfl
theorem strsD_map (bs : List Str) : strsD (bs.map D.str) = some bs := by
  induction bs with
  | nil => rfl
  | cons b r ih => rw [List.map_cons, strsD, ih]; rfl
def kAll : List D → Sto → R D
  | [.lst ds], st => match blsD ds with
    | some bs => .ok (.bl (bs.all fun b => b)) st
    | none => .stuck
  | _, _ => .stuck
def kAny : List D → Sto → R D
  | [.lst ds], st => match blsD ds with
    | some bs => .ok (.bl (bs.any fun b => b)) st
    | none => .stuck
  | _, _ => .stuck
theorem bu_all (hm : M.hot = false) : BuS G M m [.rd] (.builtin "all") kAll := by
  refine fun X C gd => ⟨_, cr_all (gd.cold hm).1, fun env σ w H st ds vs Q s r0 p => ?_⟩
  rw [show X.K = C.T.K from gd.K.trans (by rw [gd.T])]
  obtain ⟨v, d, rfl, rfl, r⟩ := r0.rd1
  cases d with
  | lst ds =>
    obtain ⟨a, us, rfl, e3, n, rs⟩ := r.lst
    have p' : PostE C m env σ w H (match blsD ds with | some bs => .ok (.bl (bs.all fun b => b)) st | none => .stuck) Q := p
    cases e : blsD ds with
    | none => rw [e] at p'; exact p'.elim
    | some bs => rw [e] at p'; exact ⟨a, bs, rfl, by rw [← blsD_v e rs]; exact e3.sq, PostE.done p' s (RepM.bl _)⟩
  | _ => exact p.elim
theorem bu_any (hm : M.hot = false) : BuS G M m [.rd] (.builtin "any") kAny := by
  refine fun X C gd => ⟨_, cr_any (gd.cold hm).1, fun env σ w H st ds vs Q s r0 p => ?_⟩
  rw [show X.K = C.T.K from gd.K.trans (by rw [gd.T])]
  obtain ⟨v, d, rfl, rfl, r⟩ := r0.rd1
  cases d with
  | lst ds =>
    obtain ⟨a, us, rfl, e3, n, rs⟩ := r.lst
    have p' : PostE C m env σ w H (match blsD ds with | some bs => .ok (.bl (bs.any fun b => b)) st | none => .stuck) Q := p
    cases e : blsD ds with
    | none => rw [e] at p'; exact p'.elim
    | some bs => rw [e] at p'; exact ⟨a, bs, rfl, by rw [← blsD_v e rs]; exact e3.sq, PostE.done p' s (RepM.bl _)⟩
  | _ => exact p.elim
def kSum : List D → Sto → R D
  | [.lst ds], st => match intsD ds with
    | some bs => .ok (.int bs.sum) st
    | none => .stuck
  | _, _ => .stuck
theorem bu_sum (hm : M.hot = false) : BuS G M m [.rd] (.builtin "sum") kSum := by
  refine fun X C gd => ⟨_, cr_sum (gd.cold hm).1, fun env σ w H st ds vs Q s r0 p => ?_⟩
  rw [show X.K = C.T.K from gd.K.trans (by rw [gd.T])]
  obtain ⟨v, d, rfl, rfl, r⟩ := r0.rd1
  cases d with
  | lst ds =>
    obtain ⟨a, us, rfl, e3, n, rs⟩ := r.lst
    have p' : PostE C m env σ w H (match intsD ds with | some bs => .ok (.int bs.sum) st | none => .stuck) Q := p
    cases e : intsD ds with
    | none => rw [e] at p'; exact p'.elim
    | some bs => rw [e] at p'; exact ⟨a, bs, rfl, by rw [← intsD_v e rs]; exact e3.sq, PostE.done p' s (RepM.int _)⟩
  | _ => exact p.elim

/-! isinstance of the built-in kinds -/
def tyD (d : D) (st : Sto) : Option String := match d with
  | .non => some "NoneType" | .bl _ => some "bool" | .int _ => some "int" | .str _ => some "str" | .lst _ => some "list" | .tup _ => some "tuple"
  | .loc n => match st[n]? with
    | some (.lst _) => some "list"
    | some (.dic _ _) => some "dict"
    | _ => none
theorem tyD_v {T : Tb} {w : Wd} {H : Hp} {v : V} {d : D} {t : String} {st : Sto} (h : tyD d st = some t) (r : RepR T.K w H v d) (s : Stok T w H st) : TyX T.K H v (.type t) := by
  cases d with
  | non => cases h; rw [r.non]; exact .base .non
  | bl b => cases h; rw [r.bl]; exact .base (.bl _)
  | int b => cases h; rw [r.int]; exact .base (.int _)
  | str b => cases h; rw [r.str]; exact .base (.str _)
  | lst ds =>
    cases h
    obtain ⟨a, us, rfl, e3, n, rs⟩ := r.lst
    rcases e3 with (e3 | ⟨o, e3⟩) | ⟨its, n, e3, _⟩
    · exact .base (.lst e3)
    · exact .base (.frz e3)
    · exact .kList e3 rfl
  | tup ds =>
    cases h
    obtain ⟨a, us, rfl, e3, rs⟩ := r.tup
    rcases e3 with (e3 | ⟨o, e3⟩) | ⟨o, its, n, k1, k2, _⟩
    · exact .base (.tup e3)
    · exact .fTuple e3
    · exact .kTuple k1 k2
  | loc n =>
    obtain ⟨a, rfl, ea⟩ := r.loc
    unfold tyD at h
    simp only at h
    cases q : st[n]? with
    | none => rw [q] at h; cases h
    | some c =>
      rw [q] at h
      cases c with
      | lst ds =>
        cases h
        obtain ⟨us, h1, h2⟩ := s.at_ _ _ _ q ea
        exact .base (.lst h1)
      | dic t kvs =>
        cases h
        cases t with
        | false => obtain ⟨us, h1, h2⟩ := s.at_ _ _ _ q ea; exact .base (.dK h1)
        | true => obtain ⟨us, h1, h2⟩ := s.at_ _ _ _ q ea; exact .base (.dT h1)
      | ins c fs => cases h
def isB (a b : String) : Option Bool := if b = "int" then some (a == "int" || a == "bool") else if b = "bool" ∨ b = "str" ∨ b = "list" ∨ b = "tuple" then some (a == b) else none
theorem isB_kit {a b : String} {r : Bool} (ha : a = "NoneType" ∨ a = "bool" ∨ a = "int" ∨ a = "str" ∨ a = "list" ∨ a = "tuple" ∨ a = "dict") (h : isB a b = some r) : kitB a b = some r := by
  unfold isB at h
  split at h
  · rename_i e; subst e
    cases h
    rcases ha with rfl | rfl | rfl | rfl | rfl | rfl | rfl <;> decide +kernel
  · split at h
    · rename_i e
      cases h
      rcases ha with rfl | rfl | rfl | rfl | rfl | rfl | rfl <;> rcases e with rfl | rfl | rfl | rfl <;> decide +kernel
    · cases h
theorem tyD_in {d : D} {st : Sto} {t : String} (h : tyD d st = some t) : t = "NoneType" ∨ t = "bool" ∨ t = "int" ∨ t = "str" ∨ t = "list" ∨ t = "tuple" ∨ t = "dict" := by
  unfold tyD at h
  split at h
  any_goals (cases h; simp; done)
  split at h
  any_goals (cases h; simp; done)
  cases h
def bIsi (t : String) (f : F) : F := fun env st => (f env st).bind fun d st1 => match (tyD d st1).bind fun a => isB a t with
  | some b => .ok (.bl b) st1
  | none => .stuck
theorem sn_isi {t : String} {tx : Str} {p2 : Pos} (hg : G.sc.names.lookup ("isinstance" : Str) = some .globalImplicit) (hm : M.mg ("isinstance" : Str) = none) (hg2 : G.sc.names.lookup tx = some .globalImplicit) (hm2 : M.mg tx = none) (hv2 : bootBuiltins tx = some (.type t))
    (ha : SndE G M .rd a f) (hs : ∀ env, starEach (a :: [.Name tx p2]) env = (false, eval a env) :: starEach [.Name tx p2] env := by intro _; rfl) (hn : tx ≠ "__name__" := by decide) (hdb : (tx == ("__debug__" : Str)) = false := by decide) :
    SndE G M m (.Call (.Name "isinstance" p1) [a, .Name tx p2] [] pos) (bIsi t f) := by
  intro X C gd
  have gl : ∀ {y : Str}, G.sc.names.lookup y = some .globalImplicit → Gl X y := fun {y} z => by show X.env.scope.names.lookup _ = _; rw [gd.sc]; exact z
  refine (pe_callB call_isi (gl hg) (by rw [gd.mg]; exact hm) (by decide +kernel) (pa_cons (ha X C gd) (pa_cons (pe_bltn (v := .ty t) (gl hg2) (by rw [gd.mg]; exact hm2) hv2 rfl hn hdb) pa_nil) (hs _)) (by decide) (by decide) (hs _) (by rfl)).imp fun σ H Q ⟨w, env, st, s, p⟩ => ⟨w, env, st, s, ?_⟩
  rw [show X.K = C.T.K from gd.K.trans (by rw [gd.T])]
  refine p.bind fun d st1 w1 v1 H1 l1 s1 r1 p1 => ?_
  cases e : tyD d st1 with
  | none => rw [e] at p1; exact p1.elim
  | some t1 =>
    rw [e] at p1
    rw [Option.bind_some] at p1
    cases e2 : isB t1 t with
    | none => rw [e2] at p1; exact p1.elim
    | some bb =>
      rw [e2] at p1
      exact ⟨v1, .ty t, .type t1, .type t, bb, rfl, .ty t, tyD_v e r1 s1.sto, kit_ty (isB_kit (tyD_in e) e2), PostE.done p1 s1 (RepM.bl _)⟩

/-! is None -/
def bIsN (f : F) : F := fun env st => (f env st).bind fun d st1 => match d with
  | .non => .ok (.bl true) st1
  | _ => .ok (.bl false) st1
def bNotN (f : F) : F := fun env st => (f env st).bind fun d st1 => match d with
  | .non => .ok (.bl false) st1
  | _ => .ok (.bl true) st1
theorem RepR.isN {K : PySem.W.Frag} {w : Wd} {H : Hp} {v : V} {d : D} (r : RepR K w H v d) : decide (v = .non) = d.isNon := by
  cases d with
  | non => rw [r.non]; rfl
  | bl b => rw [r.bl]; rfl
  | int b => rw [r.int]; rfl
  | str b => rw [r.str]; rfl
  | lst ds => obtain ⟨a, us, rfl, _⟩ := r.lst; rfl
  | tup ds => obtain ⟨a, us, rfl, _⟩ := r.tup; rfl
  | loc n => obtain ⟨a, rfl, ea⟩ := r.loc; rfl
theorem isN_post {r : R D} {env : Ev} {σ : St} {w : Wd} {H : Hp} {Q : VK} (p : PostE C m env σ w H (r.bind fun d st1 => match d with | .non => .ok (.bl true) st1 | _ => .ok (.bl false) st1) Q) : PostE C .rd env σ w H r (fun x H1 => Q (.bl (decide (x = .non))) H1) :=
  p.bind fun d st1 w1 v1 H1 l1 s1 r1 p1 => by
    rw [RepR.isN r1]
    cases d <;> exact PostE.done p1 s1 (RepM.bl _)
theorem notN_post {r : R D} {env : Ev} {σ : St} {w : Wd} {H : Hp} {Q : VK} (p : PostE C m env σ w H (r.bind fun d st1 => match d with | .non => .ok (.bl false) st1 | _ => .ok (.bl true) st1) Q) : PostE C .rd env σ w H r (fun x H1 => Q (.bl (!decide (x = .non))) H1) :=
  p.bind fun d st1 w1 v1 H1 l1 s1 r1 p1 => by
    rw [RepR.isN r1]
    cases d <;> exact PostE.done p1 s1 (RepM.bl _)
theorem sn_isN {j p2} (ha : SndE G M .rd a f) : SndE G M m (.Compare a [.Is] [.Constant .none j p2] pos) (bIsN f) := fun X C gd =>
  (pe_cmp (pc_isN (ha X C gd)) (by rfl)).imp fun σ H Q ⟨w, env, st, s, p⟩ => ⟨w, env, st, s, isN_post p⟩
theorem sn_notN {j p2} (ha : SndE G M .rd a f) : SndE G M m (.Compare a [.IsNot] [.Constant .none j p2] pos) (bNotN f) := fun X C gd =>
  (pe_cmp (pc_notN (ha X C gd)) (by rfl)).imp fun σ H Q ⟨w, env, st, s, p⟩ => ⟨w, env, st, s, notN_post p⟩
theorem rBl_post {r : R D} {env : Ev} {σ : St} {w : Wd} {H : Hp} {Q : Bool → Hp → Prop} (p : PostT C env σ w H (rBl r) Q) : PostE C .rd env σ w H r (fun x H1 => ∃ c, x = .bl c ∧ Q c H1) :=
  PostT.bindE p fun d st1 w1 v1 H1 l1 s1 r1 p1 => by
    cases d with
    | bl b => exact ⟨b, RepR.bl r1, PostT.done p1 s1⟩
    | _ => exact p1.elim
theorem sn_tisN {j p2} (ha : SndE G M .rd a f) : SndT G M (.Compare a [.Is] [.Constant .none j p2] pos) (bTst (bIsN f)) := fun X C gd =>
  (pt_cmp (pc_isN (ha X C gd)) (by rfl)).imp fun σ H Q ⟨w, env, st, s, p⟩ => ⟨w, env, st, s, isN_post (m := .rd) (rBl_post p)⟩
theorem sn_tnotN {j p2} (ha : SndE G M .rd a f) : SndT G M (.Compare a [.IsNot] [.Constant .none j p2] pos) (bTst (bNotN f)) := fun X C gd =>
  (pt_cmp (pc_notN (ha X C gd)) (by rfl)).imp fun σ H Q ⟨w, env, st, s, p⟩ => ⟨w, env, st, s, notN_post (m := .rd) (rBl_post p)⟩

/-! methods of texts -/
def kSplit : D → D → Sto → R D
  | .str a, .str b, st => if (b.length == 0) = false ∧ a.length + 2 ≤ sizeLine then .ok (.lst ((Txt.split a b).map D.str)) st else .stuck
  | _, _, _ => .stuck
def kJoin : D → D → Sto → R D
  | .str a, .lst ds, st => match strsD ds with
    | some ys => if (ys.map (·.length)).sum + ys.length * a.length ≤ 16777216 then .ok (.str (Txt.join a ys)) st else .stuck
    | none => .stuck
  | .str a, .tup ds, st => match strsD ds with
    | some ys => if (ys.map (·.length)).sum + ys.length * a.length ≤ 16777216 then .ok (.str (Txt.join a ys)) st else .stuck
    | none => .stuck
  | _, _, _ => .stuck
theorem reps_strs {K : PySem.W.Frag} {w : Wd} {H : Hp} : ∀ ys : List Str, Reps K w H (ys.map V.str) (ys.map D.str)
  | [] => .nil
  | y :: ys => .cons (.str y) (reps_strs ys)
/-- o.m(e), o a text -/
def bMethS (k : D → D → Sto → R D) (f g : F) : F := fun env st => (f env st).bind fun d st1 => match d with
  | .str x => (g env st1).bind fun d2 st2 => k (.str x) d2 st2
  | _ => .stuck
theorem sn_split {p2 : Pos} (ha : SndE G M .rd a f) (hb : SndE G M .rd b g) (hs : ∀ env, starEach [b] env = [(false, eval b env)] := by intro _; rfl) (hbase : ∀ env, attributeBase a "split" env (eval a env) = eval a env := by intro _; rfl) (hline : (p2.endLine == pos.line) = true := by rfl) :
    SndE G M .fr (.Call (.Attribute a "split" p2) [b] [] pos) (bMethS kSplit f g) := by
  intro X C gd
  refine (pe_split (ha X C gd) (hb X C gd) (hs _) (hbase _) hline).imp fun σ H Q ⟨w, env, st, s, p⟩ => ⟨w, env, st, s, ?_⟩
  refine p.bind fun d st1 w1 v1 H1 l1 s1 r1 p1 => ?_
  cases d with
  | str x =>
    refine ⟨⟨x, RepR.str r1⟩, w1, env, st1, s1, PostE.bind p1 fun d2 st2 w2 v2 H2 l2 s2 r2 p2 => ?_⟩
    cases d2 with
    | str y =>
      have p' : PostE C .fr env σ w2 H2 (if (y.length == 0) = false ∧ x.length + 2 ≤ sizeLine then .ok (.lst ((Txt.split x y).map D.str)) st2 else .stuck) Q := p2
      split at p'
      · rename_i hc
        exact ⟨x, y, RepR.str r1, by rw [RepR.str r2], hc.1, hc.2, fun pp hp => p'.lst s2 (reps_strs _) hp⟩
      · exact p'.elim
    | _ => exact p2.elim
  | _ => exact p1.elim
theorem sn_join {p2 : Pos} (ha : SndE G M .rd a f) (hb : SndE G M .rd b g) (hs : ∀ env, starEach [b] env = [(false, eval b env)] := by intro _; rfl) (hbase : ∀ env, attributeBase a "join" env (eval a env) = eval a env := by intro _; rfl) (hline : (p2.endLine == pos.line) = true := by rfl) :
    SndE G M m (.Call (.Attribute a "join" p2) [b] [] pos) (bMethS kJoin f g) := by
  intro X C gd
  refine (pe_join (ha X C gd) (hb X C gd) (hs _) (hbase _) hline).imp fun σ H Q ⟨w, env, st, s, p⟩ => ⟨w, env, st, s, ?_⟩
  rw [show X.K = C.T.K from gd.K.trans (by rw [gd.T])]
  refine p.bind fun d st1 w1 v1 H1 l1 s1 r1 p1 => ?_
  cases d with
  | str x =>
    refine ⟨⟨x, RepR.str r1⟩, w1, env, st1, s1, PostE.bind p1 fun d2 st2 w2 v2 H2 l2 s2 r2 p2 => ?_⟩
    cases d2 with
    | lst ds =>
      have p' : PostE C m env σ w2 H2 (match strsD ds with | some ys => if (ys.map (·.length)).sum + ys.length * x.length ≤ 16777216 then .ok (.str (Txt.join x ys)) st2 else .stuck | none => .stuck) Q := p2
      obtain ⟨aa, us, rfl, e3, n, rs⟩ := RepR.lst r2
      cases e : strsD ds with
      | none => rw [e] at p'; exact p'.elim
      | some ys =>
        rw [e] at p'
        dsimp only at p'
        split at p'
        · exact ⟨x, aa, ys, RepR.str r1, rfl, .inl (by rw [← strsD_v e rs]; exact e3.sq), by assumption, p'.done s2 (RepM.str _)⟩
        · exact p'.elim
    | tup ds =>
      have p' : PostE C m env σ w2 H2 (match strsD ds with | some ys => if (ys.map (·.length)).sum + ys.length * x.length ≤ 16777216 then .ok (.str (Txt.join x ys)) st2 else .stuck | none => .stuck) Q := p2
      obtain ⟨aa, us, rfl, e3, rs⟩ := RepR.tup r2
      cases e : strsD ds with
      | none => rw [e] at p'; exact p'.elim
      | some ys =>
        rw [e] at p'
        dsimp only at p'
        split at p'
        · exact ⟨x, aa, ys, RepR.str r1, rfl, .inr (by rw [← strsD_v e rs]; exact e3), by assumption, p'.done s2 (RepM.str _)⟩
        · exact p'.elim
    | _ => exact p2.elim
  | _ => exact p1.elim

/-! own lists changed -/
def rExtendR (K : PySem.W.Frag) : V → List V → Hp → VK → Prop := fun x vs H Q => ∃ l b xs zs, x = .ref l ∧ vs = [.ref b] ∧ H l = some (.lst xs) ∧ LstAt K H b zs ∧ xs.length + zs.length ≤ sizeLine ∧ Q .non (upd H l (.lst (xs ++ zs)))
theorem mt_extendR {X : Cx} : MtR X "list.extend" (rExtendR X.K) := by
  intro pins s σ H x xs v us Q I rx rv h
  obtain ⟨l, b, xs, zs, rfl, rfl, hH, hB, hz, q⟩ := h
  cases rx
  obtain ⟨u, rfl, ru⟩ := rv.one
  cases ru
  obtain ⟨z, its, n, r, hl, e⟩ := I.lstM hH
  obtain ⟨z2, its2, n2, r2, hl2, e2⟩ := I.lstR hB
  have hsz : its.toArray.size + its2.toArray.size ≤ sizeLine := by rw [List.size_toArray, List.size_toArray]; omega
  have hlong : ¬ (!its.toArray.isEmpty && Builtin.List.listTooLong (its.toArray.size + its2.toArray.size)) = true := by
    rw [notLongL hsz, Bool.and_false]
    exact Bool.false_ne_true
  refine call_meets F.slot_list_extend ⟨_, e, rfl⟩ F.entry_list_extend (F.args_list_extend_2 _ _)
    (AutoSeq1.list_extend_list_list_0 l its.toArray n b its2.toArray n2 hlong (by rw [List.size_toArray]; omega) (by omega)) ⟨e, e2, ?_⟩
  refine ⟨.non, _, I.lset (its' := its ++ its2) hH e (by simp) (r.append r2) ?_, rfl, q⟩
  rw [List.length_append]
  omega
/-- x.append(e), x.extend(e), the name's own list -/
def sApp (i : Nat) (f : F) : FS := fun env st => match env[i]? with
  | some (some (.own, .lst ds)) => (f env st).out env fun d st1 => if ds.length < sizeLine then .next (env.set i (some (.own, .lst (ds ++ [d])))) st1 else .stuck
  | _ => .stuck
def sExt (i : Nat) (f : F) : FS := fun env st => match env[i]? with
  | some (some (.own, .lst ds)) => (f env st).out env fun d st1 => match d with
    | .lst es => if ds.length + es.length ≤ sizeLine then .next (env.set i (some (.own, .lst (ds ++ es)))) st1 else .stuck
    | _ => .stuck
  | _ => .stuck
theorem ss_app {p2 p3 p4 : Pos} (hN : G.N[i]? = some x) (hv : Vis G.sc x) (he : SndE G M .esc e f) (hs : ∀ env, starEach (e :: []) env = (false, eval e env) :: starEach [] env := by intro _; rfl)
    (hd : (x == ("__debug__" : Str)) = false := by decide) (hcd : (x == ("__classdict__" : Str)) = false := by decide) (hline : (p3.endLine == p4.line) = true := by rfl) :
    SndS G M (.Expr (.Call (.Attribute (.Name x p2) "append" p3) [e] [] p4) pos) (sApp i f) := by
  intro X C gd
  refine (ps_expr (pe_bm F.plainAttrs_list F.slot_list_append F.type_list_append mt_append (pe_var (i := i) (x := x) (by rw [gd.N]; exact hN) (by rw [gd.sc]; exact hv) hd hcd) (pa_cons (he X C gd) pa_nil (hs _)) rfl (by first | rfl | (simp [hs, starEach, backTo, keywordEach, backToKw])) hline (hs _) rfl) (by rfl)).imp fun E σ H ⟨w, env, st, s, p⟩ => ?_
  rw [show X.K = C.T.K from gd.K.trans (by rw [gd.T])]
  unfold sApp at p
  split at p
  · rename_i ds hi
    obtain ⟨a, vs, ds', e1, e2, e3, r, f4, f5⟩ := s.slot i _ hi
    cases e2
    refine ⟨_, join_some e1, .inl ⟨rfl, _, SqL.of e3⟩, w, env, st, s, PostS.bind p fun d st1 w1 v1 H1 l1 s1 r1 p1 => ?_⟩
    obtain ⟨a', vs1, ds1, g1, g2, g3, rr, g4, g5⟩ := s1.slot i _ hi
    cases g2
    rw [e1] at g1
    cases g1
    split at p1
    · exact ⟨a, vs1, v1, rfl, rfl, g3, by rw [rr.length]; assumption, p1 w1 σ _ (s1.chg hi e1 (rr.append (.cons r1 .nil)))⟩
    · exact p1.elim
  · exact p.elim
theorem ss_ext {p2 p3 p4 : Pos} (hN : G.N[i]? = some x) (hv : Vis G.sc x) (he : SndE G M .rd e f) (hs : ∀ env, starEach (e :: []) env = (false, eval e env) :: starEach [] env := by intro _; rfl)
    (hd : (x == ("__debug__" : Str)) = false := by decide) (hcd : (x == ("__classdict__" : Str)) = false := by decide) (hline : (p3.endLine == p4.line) = true := by rfl) :
    SndS G M (.Expr (.Call (.Attribute (.Name x p2) "extend" p3) [e] [] p4) pos) (sExt i f) := by
  intro X C gd
  refine (ps_expr (pe_bm F.plainAttrs_list F.slot_list_extend F.type_list_extend mt_extendR (pe_var (i := i) (x := x) (by rw [gd.N]; exact hN) (by rw [gd.sc]; exact hv) hd hcd) (pa_cons (he X C gd) pa_nil (hs _)) rfl (by first | rfl | (simp [hs, starEach, backTo, keywordEach, backToKw])) hline (hs _) rfl) (by rfl)).imp fun E σ H ⟨w, env, st, s, p⟩ => ?_
  rw [show X.K = C.T.K from gd.K.trans (by rw [gd.T])]
  unfold sExt at p
  split at p
  · rename_i ds hi
    obtain ⟨a, vs, ds', e1, e2, e3, r, f4, f5⟩ := s.slot i _ hi
    cases e2
    refine ⟨_, join_some e1, .inl ⟨rfl, _, SqL.of e3⟩, w, env, st, s, PostS.bind p fun d st1 w1 v1 H1 l1 s1 r1 p1 => ?_⟩
    obtain ⟨a', vs1, ds1, g1, g2, g3, rr, g4, g5⟩ := s1.slot i _ hi
    cases g2
    rw [e1] at g1
    cases g1
    split at p1
    · split at p1
      · obtain ⟨b, us, rfl, e5, n, rs⟩ := RepR.lst r1
        exact ⟨a, b, vs1, us, rfl, rfl, g3, e5, by rw [rr.length, rs.length]; assumption, p1 w1 σ _ (s1.chg hi e1 (rr.append rs))⟩
      · exact p1.elim
    · exact p1.elim
  · exact p.elim
/-- x[k] = e, the name's own list -/
def sSetIx (i : Nat) (fk fe : F) : FS := fun env st => (fe env st).out env fun d st1 => match env[i]? with
  | some (some (.own, .lst ds)) => (fk env st1).out env fun k st2 => match k with
    | .int k => match ixN ds.length k with
      | some j => .next (env.set i (some (.own, .lst (ds.set j d)))) st2
      | none => .stuck
    | _ => .stuck
  | _ => .stuck
theorem ss_setIx {k : Expr} {fk : F} {p2 p3 : Pos} (hN : G.N[i]? = some x) (hv : Vis G.sc x) (hk : SndE G M .rd k fk) (he : SndE G M .esc e f) (hd : (x == ("__debug__" : Str)) = false := by decide) (hcd : (x == ("__classdict__" : Str)) = false := by decide)
    (hs : ∀ env, swapsWithSole [.Subscript (.Name x p2) k p3] e pos.line env = pure false := by intro _; rfl) (hw : ∀ env, swappedStores [.Subscript (.Name x p2) k p3] e env = pure none := by intro _; rfl)
    (h1 : ∀ env, (assignEach [.Subscript (.Name x p2) k p3] env).map (·.2) = [assign (.Subscript (.Name x p2) k p3) env] := by intro _; rfl)
    (ha : ∀ env v, assign (.Subscript (.Name x p2) k p3) env v = (do
      let ov ← holding [v] (eval (.Name x p2) env)
      let iv ← holding [v, ov] (eval k env)
      standAt p3
      holding [v, ov, iv] (setItem ov iv v)
      release [v, ov, iv] []) := by intro _ _; rfl) :
    SndS G M (.Assign [.Subscript (.Name x p2) k p3] e pos) (sSetIx i fk f) := by
  intro X C gd
  refine (ps_asg (he X C gd) (pg_sub (pe_var (i := i) (x := x) (by rw [gd.N]; exact hN) (by rw [gd.sc]; exact hv) hd hcd) (hk X C gd) set_list (ha _)) (hs _) (hw _) (h1 _)).imp fun E σ H ⟨w, env, st, s, p⟩ => ⟨w, env, st, s, ?_⟩
  refine PostS.bind p fun d st1 w1 v1 H1 l1 s1 r1 p1 => ?_
  split at p1
  · rename_i ds hi
    obtain ⟨a, vs, ds', e1, e2, e3, r, f4, f5⟩ := s1.slot i _ hi
    cases e2
    refine ⟨_, join_some e1, w1, env, st1, s1, PostS.bind p1 fun d2 st2 w2 v2 H2 l2 s2 r2 p2 => ?_⟩
    obtain ⟨a', vs1, ds1, g1, g2, g3, rr, g4, g5⟩ := s2.slot i _ hi
    cases g2
    rw [e1] at g1
    cases g1
    cases d2 with
    | int kk =>
      have p' : PostS C E (match ixN ds.length kk with | some j => .next (env.set i (some (.own, .lst (ds.set j d)))) st2 | none => .stuck) := p2
      cases e : ixN ds.length kk with
      | none => rw [e] at p'; exact p'.elim
      | some j =>
        rw [e] at p'
        exact ⟨a, vs1, kk, j, rfl, RepR.int r2, g3, by rw [rr.length]; exact e, p' w2 σ _ (s2.chg hi e1 (rr.set (Rep.to (l2.ok2 s1.sto) _ _ r1) j))⟩
    | _ => exact p2.elim
  · exact p1.elim
end
end NC

/-! ### comprehensions, calls of the text's own defs -/
namespace NC
open PySem L2
theorem takesN {X : Cx} : L2N.Takes X (fun _ _ _ _ => False) := fun u s' ⟨_, _, _, _, _, _, _, _, _, _, _, _, _, _, _, _, z⟩ => z.elim

def R.nox {α : Type} : R α → R α
  | .exc _ _ => .stuck
  | r => r
def compL (t : Tg) (c : FB) (f : F) : List D → Ev → Sto → R (List D)
  | [], _, st => .ok [] st
  | d :: ds, env, st => match t d env with
    | none => .stuck
    | some env1 => (c env1 st).nox.bind fun b st1 => if b = true then (f env1 st1).nox.bind fun x st2 => (compL t c f ds env st2).bind fun xs st3 => .ok (x :: xs) st3 else compL t c f ds env st1
def wipeE (env : Ev) : List Nat → Ev
  | [] => env
  | i :: is => (wipeE env is).set i none
def bComp (own : List Nat) (fi : FL) (t : Tg) (c : FB) (f : F) : F := fun env st => match fi env st with
  | .ok ds st1 => (compL t c f ds (wipeE env own) st1).bind fun xs st2 => .ok (.lst xs) st2
  | .exc x st1 => .exc x st1
  | .stuck => .stuck
def SndTs (G : Ct) (M : Mo) (ifs : List Expr) (f : FB) : Prop := ∀ X C, Gd G M X C → PTs X ifs (tT C f)
def cYes : FB := fun _ st => .ok true st
theorem _root_.L2.PTs.imp {X : Cx} {e : List Expr} {t t' : TT} (h : PTs X e t) (k : ∀ σ H Q, t' σ H Q → t σ H Q) : PTs X e t' := ⟨fun pins s σ H Q I q => h.run pins s σ H Q I (k _ _ _ q)⟩
section
variable {G : Ct} {M : Mo} {m : Md} {X : Cx} {C : Cf} {a b c e tg : Expr} {es : List Expr} {f g h : F} {fb : FB} {fi fl : FL} {pos : Pos} {i : Nat} {x : Str} {t : Tg}
theorem st_nil : SndTs G M [] cYes := fun X C gd => pts_nil.imp fun σ H Q ⟨w, env, st, s, p⟩ => PostT.done p s
theorem st_one (h : SndT G M e fb) : SndTs G M [e] fb := fun X C gd => pts_one (h X C gd)

theorem wipeE_len (env : Ev) : ∀ is, (wipeE env is).length = env.length
  | [] => rfl
  | i :: is => by unfold wipeE; rw [List.length_set, wipeE_len env is]
theorem wipe_eq {σ σ' : St} (hl : σ.length = σ'.length) : ∀ {vs : List Nat}, (∀ j, j ∉ vs → σ'[j]? = σ[j]?) → wipe σ' vs = wipe σ vs := by
  intro vs h
  apply List.ext_getElem?
  intro j
  have key : ∀ (τ : St) (vs : List Nat), (wipe τ vs)[j]? = if j ∈ vs ∧ j < τ.length then some none else τ[j]? := by
    intro τ vs
    induction vs with
    | nil => simp [wipe]
    | cons v vs ih =>
      unfold wipe
      rw [List.getElem?_set, wipe_length]
      by_cases hv : v = j
      · subst hv
        by_cases hj : v < τ.length
        · simp [hj]
        · simp [hj]
      · have hv' : ¬ j = v := fun z => hv z.symm
        rw [if_neg hv, ih]
        simp [hv']
  rw [key, key]
  by_cases hj : j ∈ vs
  · by_cases hl2 : j < σ.length
    · rw [if_pos ⟨hj, hl ▸ hl2⟩, if_pos ⟨hj, hl2⟩]
    · rw [if_neg (fun z => hl2 (by rw [hl]; exact z.2)), if_neg (fun z => hl2 z.2), List.getElem?_eq_none (by omega), List.getElem?_eq_none (by omega)]
  · rw [if_neg (fun z => hj z.1), if_neg (fun z => hj z.1), h j hj]
theorem wipeE_get {env : Ev} {j : Nat} {s : Fl × D} : ∀ {is : List Nat}, (wipeE env is)[j]? = some (some s) → env[j]? = some (some s) ∧ j ∉ is
  | [], h => ⟨h, by simp⟩
  | i :: is, h => by
    unfold wipeE at h
    rcases get_set h with ⟨h1, h2⟩ | ⟨h1, h2⟩
    · cases h2
    · obtain ⟨q1, q2⟩ := wipeE_get h2
      exact ⟨q1, by simp only [List.mem_cons, not_or]; exact ⟨h1, q2⟩⟩
theorem wipe_keep {σ : St} {j : Nat} : ∀ {is : List Nat}, j ∉ is → (wipe σ is)[j]? = σ[j]?
  | [], _ => rfl
  | i :: is, h => by
    simp only [List.mem_cons, not_or] at h
    unfold wipe
    rw [List.getElem?_set_ne (Ne.symm h.1), wipe_keep h.2]
theorem Sim.wipe {T : Tb} {B : Bs} {w : Wd} {env : Ev} {st : Sto} {σ : St} {H : Hp} (s : Sim T B w env st σ H) (is : List Nat) : Sim T B w (wipeE env is) st (L2.wipe σ is) H := by
  refine ⟨by rw [wipeE_len, wipe_length]; exact s.len, fun j sl e => ?_, fun j k d e b h1 h2 h3 h4 => ?_, s.sto, s.al, s.le, s.sub, s.bal, s.pin⟩
  · cases sl with
    | none => trivial
    | some sl =>
      obtain ⟨e1, e2⟩ := wipeE_get e
      rw [wipe_keep e2]
      exact s.slot j _ e1
  · obtain ⟨e1, e2⟩ := wipeE_get h1
    obtain ⟨f1, f2⟩ := wipeE_get h2
    rw [wipe_keep e2] at h3
    rw [wipe_keep f2] at h4
    exact s.dist j k d e b e1 f1 h3 h4

/-- a list under way is one longer -/
theorem Sim.grow {T : Tb} {B : Bs} {w : Wd} {env : Ev} {st : Sto} {σ : St} {H : Hp} {p : Addr} {xs ys : List V} (s : Sim T B w env st σ H) (hp : H p = some (.lst xs)) (hS : w.S p) (hB : B.H p = none) (hn : ∀ (j : Nat) (d : D), env[j]? = some (some (.own, d)) → (σ[j]?).join ≠ some (.ref p)) :
    Sim T B w env st σ (upd H p (.lst ys)) := by
  have nr := (s.al p hS).2
  have ok : Ok2 w H w (upd H p (.lst ys)) := by
    refine ⟨fun _ _ e => e, fun b o e im => ?_, fun b o e n1 n2 => ⟨?_, n1, n2⟩⟩
    · rw [upd_ne (fun z => by subst z; rw [hp] at e; cases e; exact im)]; exact e
    · rw [upd_ne (fun (z : b = p) => n1 (by rw [z]; exact hS))]; exact e
  have nB : ∀ b, B.H b ≠ none → b ≠ p := fun b hb z => hb (z ▸ hB)
  refine ⟨s.len, fun j sl ej => ?_, s.dist, s.sto.to ok (fun b hb => by rw [upd_ne (fun (z : b = p) => nr (by rw [← z]; exact hb))]) rfl, fun b z => ⟨?_, (s.al b z).2⟩, ⟨s.le.pre, fun b o e n => ?_, fun b o e => ?_, s.le.new, s.le.S, s.le.Sm⟩, s.sub, s.bal, fun q hq => (s.pin q hq).to ok fun c u z3 z4 z5 => ⟨by rw [upd_ne (nB c z5)]; exact z3, z4⟩⟩
  · match sl, ej, s.slot j sl ej with
    | none, _, _ => trivial
    | some (.frz, d), _, ⟨v, g1, g2⟩ => exact ⟨v, g1, Rep.to ok _ _ g2⟩
    | some (.own, d), z2, ⟨b, us, es, g1, g2, g3, rr, g4, g5⟩ =>
      refine ⟨b, us, es, g1, g2, ?_, Reps.to ok _ _ rr, g4, g5⟩
      rw [upd_ne (fun z => hn j d z2 (by rw [g1, z]))]
      exact g3
    | some (.bor, d), _, ⟨b, us, es, g1, g2, rr, g4⟩ =>
      exact ⟨b, us, es, g1, g2, Reps.to ok _ _ rr, g4.to fun c u z3 z4 z5 => ⟨by rw [upd_ne (nB c z5)]; exact z3, z4⟩⟩
    | some (.exc, d), _, ⟨b, c, cls, dd, f, v0, ee, g1, g2, g3, g4, g5, g6, rx⟩ => exact ⟨b, c, cls, dd, f, v0, ee, g1, g2, g3, by rw [upd_ne (fun (z : dd = p) => g5 (by rw [z]; exact hS))]; exact g4, g5, g6, Rep.to ok _ _ rx⟩
  · by_cases hb : b = p
    · subst hb; rw [upd_same]; intro z; cases z
    · rw [upd_ne hb]; exact (s.al b z).1
  · rw [upd_ne (nB b (by rw [e]; intro z; cases z))]; exact s.le.fr b o e n
  · obtain ⟨o', e'⟩ := s.le.live b o e
    exact ⟨o', by rw [upd_ne (nB b (by rw [e]; intro z; cases z))]; exact e'⟩

/-- the names of the block -/
def Ct.blk (G : Ct) (scope : Scope) : Ct := ⟨G.N, relS scope G.sc, some scope⟩
theorem Gd.blk (gd : Gd G M X C) (s : Shared) (H : Hp) (scope : Scope) (Ce : Addr) (cl : List (Str × Addr)) (fp : List Addr) (B : Bs) (hm : M.hot = false) (hB : B.ex = none) : Gd (G.blk scope) M (X.blk s H scope (compEnvC scope cl Ce X.env) fp) ⟨C.T, B, fun _ _ _ _ => False⟩ :=
  ⟨gd.p, gd.w, gd.K, gd.T, gd.mg, gd.base, gd.N, (by show relS scope X.env.scope = relS scope G.sc; rw [gd.sc]), gd.nd, (fun h => ⟨(gd.cold h).1, (gd.cold h).2.1, hB⟩), (fun h => by cases h), (fun h => absurd (hm.symm.trans h) (by decide)), (fun a c cls dd e => absurd (hB.symm.trans e) (by intro z; cases z)), rfl, PassesOwn.never, takesN⟩
theorem nox_post {C C' : Cf} {m : Md} {env : Ev} {σ : St} {w : Wd} {H : Hp} {r : R D} {Q : VK} (h : PostE C m env σ w H r.nox Q) : ∃ d st, r = .ok d st := by
  cases r with
  | ok d st => exact ⟨d, st, rfl⟩
  | exc x st => exact h.elim
  | stuck => exact h.elim

/-- what a comprehension walks: its own frame's lists, too -/
def ItOkC (C : Cf) (pin : List (V × D)) (J : It) (ds : List D) (env0 : Ev) (σ0 : St) : Prop :=
  ∀ (B' : Bs), B'.w = C.B.w → B'.H = C.B.H → (∀ p ∈ pin, p ∈ B'.pin) → ∀ w st H, Sim C.T B' w env0 st σ0 H → ∀ i : Nat,
    (∀ d, ds[i]? = some d → J.go i H ∧ ∀ x H', J.yld i H x H' → ∃ w', Le w H w' H' ∧ Sim C.T B' w' env0 st σ0 H' ∧ Rep C.T.K w' H' x d) ∧ (ds.length ≤ i → J.stop i H)
def PostIC (C : Cf) (own : List Nat) (env : Ev) (σ : St) (w : Wd) (H : Hp) (r : R (List D)) (Q : It → Hp → Prop) : Prop := match r with
  | .ok ds st' => ∀ w' H' J pin, Le w H w' H' → Sim C.T C.B w' env st' σ H' → (∀ p ∈ pin, PinOk C.T.K C.B w' H' p) → ItOkC C pin J ds (wipeE env own) (L2.wipe σ own) → ds.length ≤ sizeLine → Q J H'
  | .exc x st' => ∀ w' H' c dx, Le w H w' H' → Sim C.T C.B w' env st' σ H' → XRep C.T w' H' x c dx → C.W c dx σ H'
  | .stuck => False
def tIC (C : Cf) (own : List Nat) (f : FL) : TI := fun σ H Q => ∃ w env st, Sim C.T C.B w env st σ H ∧ PostIC C own env σ w H (f env st) Q
def SndIc (G : Ct) (M : Mo) (own : List Nat) (tg e : Expr) (f : FL) : Prop := ∀ X C, Gd G M X C → PI X tg e (tIC C own f)
theorem SndI.toC {own : List Nat} (h : SndI G M tg e fi) : SndIc G M own tg e fi := fun X C gd => (h X C gd).imp fun σ H Q ⟨w, env, st, s, p⟩ => ⟨w, env, st, s, by
  cases q : fi env st with
  | ok ds st' => rw [q] at p; exact fun w' H' J pin l s' hp hJ hz => p w' H' J pin l s' hp (fun B' e1 e2 h3 w st H s i => hJ B' e1 e2 h3 w _ st _ H s i) hz
  | exc x st' => rw [q] at p; exact p
  | stuck => rw [q] at p; exact p⟩
def iVarC (i : Nat) : FL := fun env st => match env[i]? with
  | some (some (.exc, _)) => .stuck
  | some (some (_, .lst ds)) => .ok ds st
  | some (some (_, .tup ds)) => .ok ds st
  | some (some (.frz, .str z)) => if z.length ≤ sizeLine then .ok (chrs z) st else .stuck
  | _ => .stuck
theorem wipeE_keep {env : Ev} {j : Nat} : ∀ {is : List Nat}, j ∉ is → (wipeE env is)[j]? = env[j]?
  | [], _ => rfl
  | i :: is, h => by
    simp only [List.mem_cons, not_or] at h
    unfold wipeE
    rw [List.getElem?_set_ne (Ne.symm h.1), wipeE_keep h.2]
theorem slot_lst {K : PySem.W.Frag} {B : Bs} {w : Wd} {H : Hp} {o : Option V} {fl : Fl} {ds : List D} (h : SlotOk K B w H o (some (fl, .lst ds))) : ∃ a vs, o = some (.ref a) ∧ LstAt K H a vs ∧ Reps K w H vs ds := by
  cases fl with
  | frz =>
    obtain ⟨v, e1, r⟩ := h
    obtain ⟨aa, vs, rfl, h1, _, h4⟩ := RepR.lst (.inl r)
    exact ⟨aa, vs, e1, h1, h4⟩
  | own => obtain ⟨a, vs, ds', e1, e2, e3, r, _⟩ := h; cases e2; exact ⟨a, vs, e1, .inl (.inl e3), r⟩
  | bor => obtain ⟨a, vs, ds', e1, e2, r, b⟩ := h; cases e2; exact ⟨a, vs, e1, b.at_, r⟩
  | exc => obtain ⟨a, c, cls, dd, f, v0, e, e1, e2, e3, _⟩ := h; cases e3
theorem slot_tup {K : PySem.W.Frag} {B : Bs} {w : Wd} {H : Hp} {o : Option V} {fl : Fl} {ds : List D} (hx : fl ≠ .exc) (h : SlotOk K B w H o (some (fl, .tup ds))) : ∃ a vs, o = some (.ref a) ∧ SqT K H a vs ∧ Reps K w H vs ds := by
  cases fl with
  | frz =>
    obtain ⟨v, e1, r⟩ := h
    obtain ⟨aa, vs, rfl, h1, h4⟩ := RepR.tup (.inl r)
    exact ⟨aa, vs, e1, h1, h4⟩
  | own => obtain ⟨a, vs, ds', e1, e2, e3, r, _⟩ := h; cases e2
  | bor => obtain ⟨a, vs, ds', e1, e2, r, b⟩ := h; cases e2
  | exc => exact absurd rfl hx
theorem sic_var {own : List Nat} (hN : G.N[i]? = some x) (hv : Vis G.sc x) (ho : i ∉ own) (hd : (x == ("__debug__" : Str)) = false := by decide) (hcd : (x == ("__classdict__" : Str)) = false := by decide) : SndIc G M own tg (.Name x pos) (iVarC i) := by
  intro X C gd
  have pv := pe_var (X := X) (pos := pos) (i := i) (x := x) (by rw [gd.N]; exact hN) (by rw [gd.sc]; exact hv) hd hcd
  refine ((pi_listB pv).or ((pi_tupB pv).or (pi_str pv))).imp fun σ H Q ⟨w, env, st, s, p⟩ => ?_
  rw [show X.K = C.T.K from gd.K.trans (by rw [gd.T])]
  unfold iVarC at p
  split at p
  · exact p.elim
  · rename_i fl ds hi
    obtain ⟨a, vs, e1, h1, h4⟩ := slot_lst (s.slot i _ hi)
    refine .inl ⟨_, join_some e1, _, rfl, _, h1.sq, fun hz => p w H _ [] (.refl _ _) s (fun q hq => by cases hq) ?_ (by rw [← h4.length]; exact hz)⟩
    intro B' _ _ _ w2 st2 H2 s2 j
    obtain ⟨a', us, g1, k1, k4⟩ := slot_lst (s2.slot i _ (by rw [wipeE_keep ho]; exact hi))
    rw [wipe_keep ho, e1] at g1
    cases g1
    refine ⟨fun d hd => ?_, fun hi => ⟨_, k1.sq, by rw [k4.length]; exact hi⟩⟩
    obtain ⟨v, hv, rv⟩ := k4.get hd
    refine ⟨⟨_, v, k1.sq, hv⟩, fun x H' hy => ?_⟩
    obtain ⟨rfl, hy⟩ := hy
    have := hy _ k1.sq
    rw [hv] at this
    cases this
    exact ⟨w2, .refl _ _, s2, rv⟩
  · rename_i fl ds hx hi
    obtain ⟨a, vs, e1, h1, h4⟩ := slot_tup hx (s.slot i _ hi)
    refine .inr (.inl ⟨_, join_some e1, _, rfl, _, h1, fun hz => p w H _ [] (.refl _ _) s (fun q hq => by cases hq) ?_ (by rw [← h4.length]; exact hz)⟩)
    intro B' _ _ _ w2 st2 H2 s2 j
    obtain ⟨a', us, g1, k1, k4⟩ := slot_tup hx (s2.slot i _ (by rw [wipeE_keep ho]; exact hi))
    rw [wipe_keep ho, e1] at g1
    cases g1
    refine ⟨fun d hd => ?_, fun hi => ⟨_, k1, by rw [k4.length]; exact hi⟩⟩
    obtain ⟨v, hv, rv⟩ := k4.get hd
    refine ⟨⟨_, v, k1, hv⟩, fun x H' hy => ?_⟩
    obtain ⟨rfl, hy⟩ := hy
    have := hy _ k1
    rw [hv] at this
    cases this
    exact ⟨w2, .refl _ _, s2, rv⟩
  · rename_i z hi
    obtain ⟨v, e1, r⟩ := s.slot i _ hi
    split at p
    · exact .inr (.inr ⟨_, join_some e1, z, RepR.str (.inl r), p w H _ [] (.refl _ _) s (fun q hq => by cases hq) (fun B' e1 e2 h3 w st H s i => str_it (C := C) B' e1 e2 h3 w _ st _ H s i) (by rw [chrs_len]; assumption)⟩)
    · exact p.elim
  · exact p.elim

theorem sn_comp {elt iter : Expr} {ifs : List Expr} {scope : Scope} {own : List (Str × Nat)} {is : List Nat} (hm : M.hot = false) (hi : SndIc G M (own.map (·.2)) tg iter fi) (ok : blkC G.N G.sc scope own = true)
    (hg : SndG (G.blk scope) M tg is t) (ht : SndTs (G.blk scope) M ifs fb) (he : SndE (G.blk scope) M .esc elt f) (hsub : ∀ j ∈ is, j ∈ own.map (·.2)) (hs : ∀ env x, foldedSetIterable iter env x = pure x := by intro _ _; rfl) :
    SndE G M .fr (.ListComp elt [⟨tg, iter, ifs, 0⟩] scope pos) (bComp (own.map (·.2)) fi t fb f) ∧
    ∀ {i : Nat} {y : Str} {py spos : Pos}, G.N[i]? = some y → G.sc.names.lookup y = some .local → G.sc.kind = .function → TgOk G y → (py.line == pos.line) = true → (scope.names.any fun (n, k) => n == y && (k == .local || k == .cell)) = false →
      SndS G M (.Assign [.Name y py] (.ListComp elt [⟨tg, iter, ifs, 0⟩] scope pos) spos) (sSet i (bComp (own.map (·.2)) fi t fb f)) := by
  -- what both share
  have core : ∀ X C, Gd G M X C → ∃ (wi : TI) (g : TG) (tt : TT) (te : TE), PI X tg iter wi ∧
      (∀ (s : Shared) (H : Hp) (C : Addr) (cl : List (Str × Addr)) (fp : List Addr), PG (X.blk s H scope (compEnvC scope cl C X.env) fp) tg g) ∧
      (∀ (s : Shared) (H : Hp) (C : Addr) (cl : List (Str × Addr)) (fp : List Addr), PTs (X.blk s H scope (compEnvC scope cl C X.env) fp) ifs tt) ∧
      (∀ (s : Shared) (H : Hp) (C : Addr) (cl : List (Str × Addr)) (fp : List Addr), PE (X.blk s H scope (compEnvC scope cl C X.env) fp) elt te) ∧
      ∀ σ H Q, tE C .fr (bComp (own.map (·.2)) fi t fb f) σ H Q → tLc wi g tt te (own.map (·.2)) σ H Q := by
    intro X C gd
    let Cb : Bs → Cf := fun B => ⟨C.T, B, fun _ _ _ _ => False⟩
    refine ⟨tIC C (own.map (·.2)) fi, fun v σ H Q => ∃ B, B.ex = none ∧ tG (Cb B) is t v σ H Q, fun σ H Q => ∃ B, B.ex = none ∧ tT (Cb B) fb σ H Q, fun σ H Q => ∃ B, B.ex = none ∧ tE (Cb B) .esc f σ H Q, hi X C gd, fun s H Ce cl fp => ?_, fun s H Ce cl fp => ?_, fun s H Ce cl fp => ?_, ?_⟩
    · exact ⟨fun pins s' σ H v u Q I r ⟨B, hB, q⟩ => (hg _ (Cb B) (gd.blk s _ scope Ce cl fp B hm hB)).run pins s' σ H v u Q I r q⟩
    · exact ⟨fun pins s' σ H Q I ⟨B, hB, q⟩ => (ht _ (Cb B) (gd.blk s _ scope Ce cl fp B hm hB)).run pins s' σ H Q I q⟩
    · exact ⟨fun pins s' σ H Q I ⟨B, hB, q⟩ => (he _ (Cb B) (gd.blk s _ scope Ce cl fp B hm hB)).run pins s' σ H Q I q⟩
    · rintro σ H Q ⟨w, env, st, s, p⟩
      refine ⟨w, env, st, s, ?_⟩
      unfold bComp at p
      cases e1 : fi env st with
      | stuck => rw [e1] at p; exact p.elim
      | exc x st' => rw [e1] at p; exact p
      | ok ds st1 =>
        rw [e1] at p
        dsimp only at p
        intro w1 H1 J pin l1 s1 hpin hJ hz Dp hD
        have p1 := PostE.le p l1
        let B' : Bs := ⟨C.B.w, C.B.H, pin ++ C.B.pin, C.B.ex⟩
        have hBx : B'.ex = none := (gd.cold hm).2.2
        have l0 : Le w1 H1 (w1.add Dp) (upd H1 Dp (.lst [])) := (Le.push hD).add hD
        have BD : C.B.H Dp = none := s1.le.back hD
        have s1' : Sim C.T B' w1 env st1 σ H1 := s1.topin rfl rfl rfl fun q hq => (List.mem_append.mp hq).elim (hpin q) (s1.pin q)
        have s2 : Sim C.T B' (w1.add Dp) (wipeE env (own.map (·.2))) st1 (L2.wipe σ (own.map (·.2))) (upd H1 Dp (.lst [])) := (s1'.wipe _).pushO hD
        have noslot : ∀ (j : Nat) (d : D), (wipeE env (own.map (·.2)))[j]? = some (some (.own, d)) → ((L2.wipe σ (own.map (·.2)))[j]?).join ≠ some (.ref Dp) := fun j d hj hq => by
          obtain ⟨a', vs', ds', g1, g2, g3, _⟩ := (s1'.wipe (own.map (·.2))).slot j _ hj
          rw [g1] at hq
          cases hq
          rw [hD] at g3
          cases g3
        refine ⟨fun i m H2 => m = ds.length - i ∧ i ≤ ds.length ∧ ∃ w2 st2 acc xs, Le w1 H1 w2 H2 ∧ Sim C.T B' w2 (wipeE env (own.map (·.2))) st2 (L2.wipe σ (own.map (·.2))) H2 ∧ H2 Dp = some (.lst acc) ∧ w2.S Dp ∧ Reps C.T.K w2 H2 acc xs ∧ acc.length ≤ i ∧
            PostE C .fr env σ w1 H1 ((compL t fb f (ds.drop i) (wipeE env (own.map (·.2))) st2).bind fun ys st3 => .ok (.lst (xs ++ ys)) st3) Q,
          ⟨ds.length, rfl, Nat.zero_le _, w1.add Dp, st1, [], [], l0, s2, upd_same, .inr rfl, .nil, Nat.le_refl _, p1⟩, ?_⟩
        rintro i m H2 ⟨rfl, hi', w2, st2, acc, xs, l2, s2, hacc, hS, rx, hl, p2⟩
        obtain ⟨j1, j2⟩ := hJ B' rfl rfl (fun q hq => List.mem_append_left _ hq) w2 st2 H2 s2 i
        by_cases hlt : i < ds.length
        · have hd : ds[i]? = some ds[i] := List.getElem?_eq_getElem hlt
          obtain ⟨g1, g2⟩ := j1 _ hd
          rw [List.drop_eq_getElem_cons hlt] at p2
          refine .inr ⟨g1, fun H' => ∃ w2 st2 acc xs, Le w1 H1 w2 H' ∧ Sim C.T B' w2 (wipeE env (own.map (·.2))) st2 (L2.wipe σ (own.map (·.2))) H' ∧ H' Dp = some (.lst acc) ∧ w2.S Dp ∧ Reps C.T.K w2 H' acc xs ∧ acc.length ≤ i + 1 ∧
            PostE C .fr env σ w1 H1 ((compL t fb f (ds.drop (i + 1)) (wipeE env (own.map (·.2))) st2).bind fun ys st3 => .ok (.lst (xs ++ ys)) st3) Q, fun H' hN => ⟨ds.length - (i + 1), by omega, rfl, hlt, hN⟩, fun x H' hy => ?_⟩
          obtain ⟨w3, l3, s3, r3⟩ := g2 x H' hy
          refine ⟨B', hBx, w3, _, st2, ds[i], s3, r3, ?_⟩
          unfold compL at p2
          cases q : t ds[i] (wipeE env (own.map (·.2))) with
          | none => rw [q] at p2; exact p2.elim
          | some env3 =>
            rw [q] at p2
            dsimp only at p2
            intro σ4 s4 hk
            have hwipe : L2.wipe σ4 (own.map (·.2)) = L2.wipe σ (own.map (·.2)) := by
              exact (wipe_eq (σ := L2.wipe σ (own.map (·.2))) (σ' := σ4) hk.1.symm fun j hj => hk.2 j fun z => hj (hsub j z)).trans (wipe_eq (wipe_length _ _).symm fun j hj => wipe_keep hj)
            refine ⟨hwipe, B', hBx, w3, env3, st2, s4, ?_⟩
            have hacc3 : x = x := rfl
            cases q2 : fb env3 st2 with
            | stuck => rw [q2] at p2; exact p2.elim
            | exc x st' => rw [q2] at p2; exact p2.elim
            | ok bb st3 =>
              rw [q2] at p2
              intro w5 H5 l5 s5
              -- the world behind the test, for the wiped frame
              have lA : Le w2 H2 w5 H5 := l3.trans l5
              have sA : Sim C.T B' w5 (wipeE env (own.map (·.2))) st3 (L2.wipe σ (own.map (·.2))) H5 := s2.go lA lA.Sm s5.sto s5.al
              have haccA : H5 Dp = some (.lst acc) := lA.fr _ _ hacc (s2.al _ hS).2
              have rxA : Reps C.T.K w5 H5 acc xs := Reps.to (lA.ok2 s2.sto) _ _ rx
              cases bb with
              | false =>
                rw [if_neg Bool.false_ne_true]
                exact ⟨w5, st3, acc, xs, l2.trans lA, sA, haccA, lA.Sm _ hS, rxA, by omega, p2⟩
              | true =>
                rw [if_pos rfl]
                refine ⟨B', hBx, w5, env3, st3, s5, ?_⟩
                have p3 : PostE C .fr env σ w1 H1 (((f env3 st3).nox.bind fun x st2 => (compL t fb f (ds.drop (i + 1)) (wipeE env (own.map (·.2))) st2).bind fun xs st3 => .ok (x :: xs) st3).bind fun ys st3 => .ok (.lst (xs ++ ys)) st3) Q := p2
                cases q3 : f env3 st3 with
                | stuck => rw [q3] at p3; exact p3.elim
                | exc x st' => rw [q3] at p3; exact p3.elim
                | ok dd st4 =>
                  rw [q3] at p3
                  intro w6 y H6 l6 s6 r6
                  have lB : Le w2 H2 w6 H6 := lA.trans l6
                  have haccB : H6 Dp = some (.lst acc) := lB.fr _ _ hacc (s2.al _ hS).2
                  have sB : Sim C.T B' w6 (wipeE env (own.map (·.2))) st4 (L2.wipe σ (own.map (·.2))) H6 := s2.go lB lB.Sm s6.sto s6.al
                  refine ⟨acc, haccB, by omega, ?_⟩
                  have hS6 : w6.S Dp := lB.Sm _ hS
                  have okg : Ok2 w6 H6 w6 (upd H6 Dp (.lst (acc ++ [y]))) := by
                    refine ⟨fun _ _ e => e, fun b o e im => ?_, fun b o e n1 n2 => ⟨?_, n1, n2⟩⟩
                    · rw [upd_ne (fun z => by subst z; rw [haccB] at e; cases e; exact im)]; exact e
                    · rw [upd_ne (fun (z : b = Dp) => n1 (by rw [z]; exact hS6))]; exact e
                  have lC : Le w1 H1 w6 (upd H6 Dp (.lst (acc ++ [y]))) := by
                    have l7 : Le w1 H1 w6 H6 := l2.trans lB
                    refine ⟨l7.pre, fun b o e n => ?_, fun b o e => ?_, l7.new, l7.S, l7.Sm⟩
                    · rw [upd_ne (ne_of_none e hD)]; exact l7.fr b o e n
                    · rw [upd_ne (ne_of_none e hD)]; exact l7.live b o e
                  refine ⟨w6, st4, acc ++ [y], xs ++ [dd], lC, sB.grow haccB hS6 BD noslot, upd_same, hS6, Reps.to okg _ _ ((Reps.to (lB.ok2 s2.sto) _ _ rx).append (.cons r6 .nil)), by rw [List.length_append, List.length_singleton]; omega, ?_⟩
                  change PostE C .fr env σ w1 H1 (((compL t fb f (ds.drop (i + 1)) (wipeE env (own.map (·.2))) st4).bind fun xs st3 => .ok (dd :: xs) st3).bind fun ys st3 => .ok (.lst (xs ++ ys)) st3) Q at p3
                  cases q4 : compL t fb f (ds.drop (i + 1)) (wipeE env (own.map (·.2))) st4 with
                  | stuck => rw [q4] at p3; exact p3
                  | exc x st' => rw [q4] at p3; exact p3
                  | ok zs st5 =>
                    rw [q4] at p3
                    have p4 : PostE C .fr env σ w1 H1 (.ok (.lst (xs ++ dd :: zs)) st5) Q := p3
                    show PostE C .fr env σ w1 H1 (.ok (.lst ((xs ++ [dd]) ++ zs)) st5) Q
                    rw [List.append_assoc]
                    exact p4
        · have e : ds.drop i = [] := List.drop_eq_nil_of_le (by omega)
          rw [e] at p2
          have p3 : PostE C .fr env σ w1 H1 (.ok (.lst (xs ++ [])) st2) Q := p2
          rw [List.append_nil] at p3
          exact .inl ⟨j2 (by omega), p3 w2 _ H2 l2 (s1.go l2 l2.Sm s2.sto s2.al) ⟨Dp, acc, rfl, hacc, hD, hS, rx⟩⟩
  refine ⟨fun X C gd => ?_, fun {i y py spos} hN hy hk ht hl hn X C gd => ?_⟩
  · obtain ⟨wi, g, tt, te, h1, h2, h3, h4, h5⟩ := core X C gd
    exact (pe_lc (gd.cold hm).1 gd.nd h1 (blkOk_by (by rw [gd.N, gd.sc]; exact ok)) h2 h3 h4 (hs _)).imp h5
  · obtain ⟨wi, g, tt, te, h1, h2, h3, h4, h5⟩ := core X C gd
    refine (ps_setLc (i := i) (gd.cold hm).1 gd.nd (by rw [gd.N]; exact hN) (by rw [gd.sc]; exact hy) (sw_true (by rw [gd.sc]; exact hk) (by rw [gd.sc]; exact hy) hl hn) h1 (blkOk_by (by rw [gd.N, gd.sc]; exact ok)) h2 h3 h4 (hs _)).imp fun E σ H ⟨w, env, st, s, p⟩ => h5 σ H _ ⟨w, env, st, s, ?_⟩
    refine PostS.bind p fun d st1 w1 v1 H1 l1 s1 r1 p1 => ?_
    split at p1
    · exact p1 w1 _ H1 (s.setF s1 (by assumption) r1)
    · exact p1.elim
end
end NC

/-! ### calls of defs, the whole program's runs, the law's end -/
namespace NC
open PySem L2

def PostC (T : Tb) (B : Bs) (r : R D) (Q : VK) (E : XK) : Prop := match r with
  | .ok d st' => ∀ v H', RetOk T B st' H' v d → Q v H'
  | .exc x st' => ∀ r H' c dx, Le B.w B.H ⟨B.w.S, r⟩ H' → Stok T ⟨B.w.S, r⟩ H' st' → XRep T ⟨B.w.S, r⟩ H' x c dx → E c dx H'
  | .stuck => False
/-- the promise of a def -/
def spOf (T : Tb) (cl : Calls) (x : Str) : Sp := fun vs H Q E => ∃ (as : List (Md × D)) (w : Wd) (st : Sto), RepL T.K w H (as.map (·.1)) vs (as.map (·.2)) ∧ Stok T w H st ∧ (∀ a, w.S a → H a ≠ none ∧ a ∉ w.r) ∧ PostC T ⟨w, H, [], none⟩ (cl x as st) Q E
structure CallOk (M : Mo) (x : Str) : Prop where
  ex : ∃ (fa : Addr) (fd : FuncData) (ps : List Str), M.mg x = some (.ref fa) ∧ PySem.W.keepIn M.T.K (.ref fa) = true ∧ Binds M.T.K fd ps [] ∧ (M.hot = false → FnOk M.P M.w M.T.K M.mg M.base (L2N.CX M.P M.w) M.n fa fd ps (spOf M.T M.cl x)) ∧ (M.hot = true → L2H.FnH M.P M.w M.T.K M.mg M.base (L2N.CX M.P M.w) M.n fa fd ps (spOf M.T M.cl x))
def bDef (cl : Calls) (x : Str) (ms : List Md) (g : FL) : F := fun env st => (g env st).bind fun ds st1 => cl x (ms.zip ds) st1
theorem zip_fst {α β : Type} : ∀ {l : List α} {l' : List β}, l.length = l'.length → (l.zip l').map (·.1) = l
  | [], _, _ => by simp
  | a :: l, [], h => by cases h
  | a :: l, b :: l', h => by rw [List.zip_cons_cons, List.map_cons, zip_fst (Nat.succ.inj h)]
theorem zip_snd {α β : Type} : ∀ {l : List α} {l' : List β}, l.length = l'.length → (l.zip l').map (·.2) = l'
  | [], [], _ => rfl
  | [], _ :: _, h => by cases h
  | a :: l, [], h => by cases h
  | a :: l, b :: l', h => by rw [List.zip_cons_cons, List.map_cons, zip_snd (Nat.succ.inj h)]
theorem RepL.len2 {K : PySem.W.Frag} {w : Wd} {H : Hp} {ms : List Md} {vs : List V} {ds : List D} (h : RepL K w H ms vs ds) : ms.length = ds.length := by
  induction h with
  | nil => rfl
  | esc _ _ ih => rw [List.length_cons, List.length_cons, ih]
  | rd _ _ ih => rw [List.length_cons, List.length_cons, ih]
section
variable {G : Ct} {M : Mo} {m : Md} {ms : List Md} {X : Cx} {C : Cf} {a b c e tg : Expr} {es : List Expr} {f g h : F} {fb : FB} {fi fl : FL} {p1 pos : Pos} {i : Nat} {x : Str} {t : Tg}
/-- behind a call -/
theorem Sim.back {T : Tb} {B : Bs} {w : Wd} {env : Ev} {st st' : Sto} {σ : St} {H H' : Hp} {r : List Addr} (s : Sim T B w env st σ H) (l : Le w H ⟨w.S, r⟩ H') (hst : Stok T ⟨w.S, r⟩ H' st') : Sim T B ⟨w.S, r⟩ env st' σ H' := by
  refine s.go l (fun _ z => z) hst fun a z => ⟨?_, fun z2 => ?_⟩
  · cases e : H a with
    | none => exact absurd e (s.al a z).1
    | some o => obtain ⟨o', e'⟩ := l.live a o e; rw [e']; intro z; cases z
  · rcases l.new a z2 with q | q
    · exact (s.al a z).2 q
    · exact (s.al a z).1 q
theorem PostE.call {env : Ev} {σ : St} {w : Wd} {H : Hp} {st : Sto} {r : R D} {Q : VK} (p : PostE C .esc env σ w H r Q) (s : Sim C.T C.B w env st σ H) : PostC C.T ⟨w, H, [], none⟩ r Q (WE C.W σ) := by
  cases r with
  | ok d st' =>
    rintro v H' ⟨r, l, hst, rep⟩
    exact p ⟨w.S, r⟩ v H' l (s.back l hst) rep
  | exc x st' => exact fun r H' c dx l hst xr => p ⟨w.S, r⟩ H' c dx l (s.back l hst) xr
  | stuck => exact p
theorem sn_call (hc : CallOk M x) (hg : G.sc.names.lookup x = some .globalImplicit) (ha : SndL G M ms (e :: es) fl) (hdb : (x == ("__debug__" : Str)) = false := by decide)
    (he : ∀ env, starEach (e :: es) env = (false, eval e env) :: starEach es env := by intro _; rfl) (hpl : ∀ env, (backTo pos (starEach es env)).any (·.1) = false := by intro _; rfl) : SndE G M .esc (.Call (.Name x p1) (e :: es) [] pos) (bDef M.cl x ms fl) := by
  obtain ⟨fa, fd, ps, h1, h2, h3, h4, h5⟩ := hc.ex
  intro X C gd
  have key : ∀ σ H Q, tE C .esc (bDef M.cl x ms fl) σ H Q → tCallS (spOf M.T M.cl x) (WE C.W) (tL C ms fl) σ H Q := fun σ H Q ⟨w, env, st, s, p⟩ => ⟨w, env, st, s, by
    refine PostE.bindL p fun ds st1 w1 vs H1 l1 s1 r1 p1 => ?_
    rw [← gd.T]
    exact ⟨ms.zip ds, w1, st1, by rw [zip_fst r1.len2, zip_snd r1.len2]; exact r1, s1.sto, s1.al, p1.call s1⟩⟩
  have gl : Gl X x := by show X.env.scope.names.lookup _ = _; rw [gd.sc]; exact hg
  cases hh : M.hot with
  | false =>
    have F : FnOk X.prog X.w X.K X.mg X.base (L2N.CX X.prog X.w) M.n fa fd ps (spOf M.T M.cl x) := by rw [gd.p, gd.w, gd.K, gd.mg, gd.base]; exact h4 hh
    exact (pe_callS (E := WE C.W) F (gd.cold hh).2.1 gl (by rw [gd.mg]; exact h1) (by rw [gd.K]; exact h2) (by rw [gd.K]; exact h3) (fun σ => L2N.passAt gd.tk σ) (ha X C gd) hdb (he _) (hpl _)).imp key
  | true =>
    have F : L2H.FnH X.prog X.w X.K X.mg X.base (L2N.CX X.prog X.w) M.n fa fd ps (spOf M.T M.cl x) := by rw [gd.p, gd.w, gd.K, gd.mg, gd.base]; exact h5 hh
    exact (L2H.pe_callH (E := WE C.W) F (gd.hotr hh).1 (gd.hotr hh).2 gl (by rw [gd.mg]; exact h1) (by rw [gd.K]; exact h2) (by rw [gd.K]; exact h3) (fun σ => L2N.passAt gd.tk σ) (ha X C gd) hdb (he _) (hpl _)).imp key
end

/-! the run of a def -/
def slotA : Md × D → Slot
  | (.rd, .lst ds) => some (.bor, .lst ds)
  | (_, d) => some (.frz, d)
def startE (as : List (Md × D)) (ns : Nat) : Ev := as.map slotA ++ List.replicate (ns - as.length) none
def fin : Out → R D
  | .next _ st => .ok .non st
  | .ret d st => .ok d st
  | .exc x _ st => .exc x st
  | _ => .stuck
def runD (np ns : Nat) (sh : FS) (as : List (Md × D)) (st : Sto) : R D := if as.length = np then fin (sh (startE as ns) st) else .stuck
structure Df where
  run : Calls → List (Md × D) → Sto → R D
/-- a def; a def with so many arguments left out -/
def dfD (np ns : Nat) (sh : Calls → FS) : Df := ⟨fun cl => runD np ns (sh cl)⟩
/-- the program's runs, at most so deep -/
def interp (Δ : Str → Option Df) : Nat → Calls
  | 0, _, _, _ => .stuck
  | n + 1, x, as, st => match Δ x with
    | none => .stuck
    | some d => d.run (interp Δ n) as st
theorem interp_eq {Δ : Str → Option Df} {n : Nat} {x : Str} {d : Df} (h : Δ x = some d) (as : List (Md × D)) (st : Sto) : interp Δ (n + 1) x as st = d.run (interp Δ n) as st := by
  show (match Δ x with | none => _ | some d => _) = _
  rw [h]

theorem RepL.get {K : PySem.W.Frag} {w : Wd} {H : Hp} {as : List (Md × D)} : ∀ {vs : List V}, RepL K w H (as.map (·.1)) vs (as.map (·.2)) → ∀ {i : Nat} {p : Md × D}, as[i]? = some p → ∃ v, vs[i]? = some v ∧ ((p.1 = .esc ∧ Rep K w H v p.2) ∨ (p.1 = .rd ∧ RepR K w H v p.2)) := by
  induction as with
  | nil => intro vs h i p e; simp at e
  | cons a as ih =>
    intro vs h i p e
    obtain ⟨am, ad⟩ := a
    rw [List.map_cons, List.map_cons] at h
    cases h with
    | esc r t =>
      cases i with
      | zero => simp at e; subst e; exact ⟨_, rfl, .inl ⟨rfl, r⟩⟩
      | succ i =>
        obtain ⟨v, h1, h2⟩ := ih t (i := i) (p := p) (by simpa using e)
        exact ⟨v, by simpa using h1, h2⟩
    | rd r t =>
      cases i with
      | zero => simp at e; subst e; exact ⟨_, rfl, .inr ⟨rfl, r⟩⟩
      | succ i =>
        obtain ⟨v, h1, h2⟩ := ih t (i := i) (p := p) (by simpa using e)
        exact ⟨v, by simpa using h1, h2⟩
theorem slotA_ok {T : Tb} {w : Wd} {H : Hp} {st : Sto} {p : Md × D} {v : V} (hs : Stok T w H st) (r : (p.1 = .esc ∧ Rep T.K w H v p.2) ∨ (p.1 = .rd ∧ RepR T.K w H v p.2)) : SlotOk T.K ⟨w, H, [], none⟩ w H (some v) (slotA p) := by
  obtain ⟨pm, d⟩ := p
  rcases r with ⟨rfl, r⟩ | ⟨rfl, r⟩
  · exact ⟨v, rfl, r⟩
  · cases d with
    | lst ds =>
      rcases r with r | ⟨a, vs, ds', e1, e2, e3, r⟩
      · cases r with
        | lst h1 h2 h3 h4 =>
          refine ⟨_, _, ds, rfl, rfl, h4, .inl ⟨h1, h3, ?_⟩⟩
          rcases h1 with h1 | ⟨o, h1⟩ <;> (show H _ ≠ none; rw [h1]; intro z; cases z)
        | klst h1 h4 => exact ⟨_, _, ds, rfl, rfl, h4, .inr h1⟩
      · cases e2
        subst e1
        refine ⟨_, _, ds, rfl, rfl, r, e3.imp (fun z => ⟨z.1, z.2, ?_⟩) fun z => z⟩
        rcases z.1 with h1 | ⟨o, h1⟩ <;> (show H _ ≠ none; rw [h1]; intro z; cases z)
    | non => exact ⟨v, rfl, by rw [r.non]; exact .non⟩
    | bl b => exact ⟨v, rfl, by rw [r.bl]; exact .bl b⟩
    | int b => exact ⟨v, rfl, by rw [r.int]; exact .int b⟩
    | str b => exact ⟨v, rfl, by rw [r.str]; exact .str b⟩
    | tup ds => obtain ⟨a, us, rfl, e3, rs⟩ := RepR.tup r; exact ⟨_, rfl, .tup e3 rs⟩
    | loc n => obtain ⟨a, rfl, e3⟩ := RepR.loc r; exact ⟨_, rfl, .loc e3⟩
theorem slotA_noOwn {p : Md × D} {d : D} : slotA p ≠ some (.own, d) := by
  obtain ⟨pm, e⟩ := p
  cases pm <;> cases e <;> (intro z; cases z)
theorem sim_start {T : Tb} {w : Wd} {H : Hp} {st : Sto} {as : List (Md × D)} {vs : List V} {N : List Str} (r : RepL T.K w H (as.map (·.1)) vs (as.map (·.2))) (hs : Stok T w H st) (al : ∀ a, w.S a → H a ≠ none ∧ a ∉ w.r) (hl : as.length ≤ N.length) :
    Sim T ⟨w, H, [], none⟩ w (startE as N.length) st (L2.start N vs) H := by
  have e1 : vs.length = as.length := by rw [r.len, List.length_map]
  have noOwn : ∀ (i : Nat) d, (startE as N.length)[i]? ≠ some (some (.own, d)) := by
    intro i d h
    unfold startE at h
    by_cases hi : i < as.length
    · rw [List.getElem?_append_left (by simpa using hi), List.getElem?_map, List.getElem?_eq_getElem hi] at h
      exact slotA_noOwn (Option.some.inj h)
    · rw [List.getElem?_append_right (by simpa using hi), List.getElem?_replicate] at h
      split at h <;> cases h
  refine ⟨?_, fun i s h => ?_, fun i j d e a h1 => absurd h1 (noOwn i d), hs, al, .refl _ _, fun _ z => z, fun a z => (al a z).1, fun p hp => by cases hp⟩
  · unfold L2.start startE
    simp only [List.length_append, List.length_map, List.length_replicate]
    omega
  · unfold startE at h
    by_cases hi : i < as.length
    · rw [List.getElem?_append_left (by simpa using hi), List.getElem?_map, List.getElem?_eq_getElem hi] at h
      cases h
      obtain ⟨v, h1, h2⟩ := r.get (List.getElem?_eq_getElem hi)
      have h3 : ((L2.start N vs)[i]?).join = some v := by
        unfold L2.start
        rw [List.getElem?_append_left (by rw [List.length_map, e1]; exact hi), List.getElem?_map, h1]
        rfl
      rw [h3]
      exact slotA_ok hs h2
    · rw [List.getElem?_append_right (by simpa using hi), List.getElem?_replicate] at h
      split at h
      · cases h; trivial
      · cases h
section
variable {P : Program} {w0 : World} {T : Tb} {mg : Str → Option Value} {base : Heap} {cl cl' : Calls} {n : Nat} {x nm qual : Str} {st : Stmt} {f : Addr} {fd : FuncData} {N ps : List Str} {sh : FS}
theorem fn_ok (F : Fun T.K nm qual st f fd) (S : FnScope N ps (defScope st)) (snd : SndB ⟨N, defScope st, none⟩ ⟨P, w0, T, mg, base, cl, n, false⟩ (defBody st) sh)
    (hcl : ∀ as s, cl' x as s = runD ps.length N.length sh as s) : FnOk P w0 T.K mg base (L2N.CX P w0) (n + 1) f fd ps (spOf T cl' x) := by
  have hpl : ps.length ≤ N.length := by have := congrArg List.length S.pre; rw [List.length_take] at this; omega
  have asl : ∀ {as s T B Q E}, PostC T B (cl' x as s) Q E → as.length = ps.length := by
    intro as s T B Q E h
    rw [hcl] at h
    unfold runD at h
    split at h
    · assumption
    · exact h.elim
  obtain ⟨oc, od, kV, doc, pm, an, cdv, ct, osl, rfl, lk, hcd⟩ := F.ex
  refine fn_of lk hcd S (fun vs H Q E ⟨as, w, s, r, hs, al, p⟩ => ?_) (fun A outer s0 H vs Q E hr ⟨as, w, s, r, hs, al, p⟩ => ?_)
  · rw [r.len, List.length_map]; exact asl p
  · have hal := asl p
    rw [hcl] at p
    unfold runD at p
    rw [if_pos hal] at p
    let C : Cf := ⟨T, ⟨w, H, [], none⟩, fun c dx _ H => E c dx H⟩
    have gd : Gd ⟨N, defScope st, none⟩ ⟨P, w0, T, mg, base, cl, n, false⟩ (cxOf (L2N.CX P w0) P w0 T.K mg base N qual (defScope st) f cdv A outer s0 H E) C :=
      ⟨rfl, rfl, rfl, rfl, rfl, rfl, rfl, rfl, S.nd, (fun _ => ⟨rfl, hr, rfl⟩), (fun _ => ⟨rfl, rfl⟩), (fun h => Bool.noConfusion h), (fun a c cls dd e => by cases e), rfl, passes_of rfl, L2N.takes_of rfl rfl rfl rfl⟩
    refine ⟨_, snd _ C gd, w, startE as N.length, s, sim_start r hs al (by omega), ?_⟩
    have shrink : ∀ {w' : Wd} {env st σ H'}, Sim T C.B w' env st σ H' → Le w H ⟨w.S, w'.r⟩ H' ∧ Stok T ⟨w.S, w'.r⟩ H' st ∧ Ok2 w' H' ⟨w.S, w'.r⟩ H' := fun {w' env st σ H'} s' => by
      have ok : Ok2 w' H' ⟨w.S, w'.r⟩ H' := ⟨fun _ _ e => e, fun _ _ e _ => e, fun a o e n1 n2 => ⟨e, fun z => n1 (s'.sub a z), n2⟩⟩
      exact ⟨⟨s'.le.pre, s'.le.fr, s'.le.live, s'.le.new, fun a z => .inl z, fun a z => z⟩, s'.sto.to ok (fun _ _ => rfl) rfl, ok⟩
    cases e : sh (startE as N.length) s with
    | next env st' => rw [e] at p; exact fun w' σ H' s' => p .non H' (s'.ret .non)
    | ret d st' => rw [e] at p; exact fun v H' r' => p v H' r'
    | exc x env st' =>
      rw [e] at p
      intro w' σ H' c dx s' xr
      obtain ⟨l, hs', ok⟩ := shrink s'
      refine p w'.r H' c dx l hs' ?_
      obtain ⟨C', h1, h2, h3⟩ := xr
      refine ⟨C', h1, h2, h3.imp (fun z => z) fun ⟨d, fv, k1, k2, k3, k4, k5⟩ => ⟨d, fv, k1, k2, ⟨k3.1, Reps.to ok _ _ k3.2⟩, fun z => k4 (s'.sub d z), k5⟩⟩
    | brk env st' => rw [e] at p; exact p.elim
    | cont env st' => rw [e] at p; exact p.elim
    | stuck => rw [e] at p; exact p.elim
/-- nothing is promised at level 0 -/
theorem fn_ok0 (hcl : ∀ as s, cl' x as s = .stuck) : FnOk P w0 T.K mg base (L2N.CX P w0) 0 f fd ps (spOf T cl' x) := by
  refine ⟨fun vs H Q E ⟨as, w, s, r, hs, al, p⟩ => ?_, fun A outer s0 H args us vs Q E hr e0 hb hv ⟨as, w, s, r, hs, al, p⟩ => ?_⟩
  · rw [hcl] at p; exact p.elim
  · rw [hcl] at p; exact p.elim
end

open PySem.Spec PyProof.Rows
/-! ### the law's end: as L2.law_call, walk_of, with the script as an exact list -/
/-- the script at a -/
def ScrAt (K : PySem.W.Frag) (H : Hp) (a : Addr) (ns : List Int) : Prop := LstAt K H a (ns.map V.int)
theorem law_call' {P : Program} {w : World} {K : PySem.W.Frag} {mg mb : Str → Option Value} {CX : CXT} {k : Nat} {fa a : Addr} {fd : FuncData} {x : Str} {sp : Sp} {s₁ : Shared} {vs : List Value} {ns : List Int}
    (KX : K.In s₁.heap) (hns : s₁.heap.Ns mainGlobals mg) (hb : s₁.heap.Ns builtinsNs mb) (hbb : ∀ x : Str, x ≠ "__name__" → mb x = bootBuiltins x) (hlim : s₁.heap.NoLimit) (hg : s₁.gens = #[])
    (ha : s₁.heap.get? a = some { cls := .type "list", data := .seq vs.toArray }) (hi : IntsAre vs ns) (hl : ns.length ≤ sizeLine) (hr : Room k callerA)
    (F : ∀ base : Heap, K.In base → base.Ns mainGlobals mg → FnOk P w K mg base CX k fa fd [x] sp) (hbind : ∀ (s : Shared) (u : Value), BindsTo s fd ⟨[u], []⟩ [(x, u)])
    (hsp : ∀ H : Hp, Only H → LstAt K H a (ns.map V.int) → sp [.ref a] H (fun v _ => v = .bl true) fun _ _ _ => False)
    (hCX : ∀ H e s', CX [] H s₁ (fun _ _ _ => False) e s' → False) :
    codeAny (model P w) callerA (.call (.ref fa) ⟨[.ref a], []⟩) (fun r s' => r = .ok (.ret (.bool true)) ∧ OldK s₁.heap s'.heap ∧ s'.os = s₁.os ∧ AllBare s'.gens) s₁ := by
  refine law_call KX hns hb hbb hlim hg ha hi hl hr F hbind (fun H hO hS => hsp H hO ?_) hCX
  rcases hS with hS | ⟨o, its, n, h1, h2, h3, h4, h5, h6⟩
  · exact .inl hS
  · have e := KX a o h1
    rw [ha] at e
    cases e
    refine .inr ⟨vs, _, h1, by rw [List.length_map]; exact hl, ?_⟩
    cases h4
    simpa using h6
theorem walk_of' {l : PySem.W.OpenLaw} {n k : Nat} {q : Program} {loose : List Str} {XP : (Str → Option Value) → Heap → Prop} {YP : World → Heap → Prop} {d : DefRec} {K : Params → PySem.W.Frag} {CX : World → CXT} {sp : World → (Str → Option Value) → Sp} {x : Str}
    (hn : l.most = some n) (hn2 : n ≤ sizeLine) (hdf : d.params.defaults = []) (hr : Room k callerA)
    (hY : ∀ (w : World) (h : Heap), YP w h → (K w.params).In h)
    (F : ∀ (w : World) (mg : Str → Option Value) (fa : Addr) (h : Heap), (K w.params).In h → h.Ns mainGlobals mg → mg d.name = some (.ref fa) →
      ∃ fd : FuncData, (∀ (s : Shared) (u : Value), BindsTo s fd ⟨[u], []⟩ [(x, u)]) ∧
        ∀ base : Heap, (K w.params).In base → base.Ns mainGlobals mg → FnOk l.prog w (K w.params) mg base (CX w) k fa fd [x] (sp w mg))
    (hsp : ∀ (w : World) (mg : Str → Option Value) (H : Hp) (a : Addr) (ns : List Int), ns.length ≤ n → Only H → LstAt (K w.params) H a (ns.map V.int) → sp w mg [.ref a] H (fun v _ => v = .bl true) fun _ _ _ => False)
    (hCX : ∀ (w : World) (H : Hp) (s : Shared) (e : Value) (s' : Shared), CX w [] H s (fun _ _ _ => False) e s' → False) :
    PySem.W.WalkO q loose XP YP l.row.toRowW d [] (fun f vs => PySem.call f vs) := by
  refine Att.attach_call hn hdf fun w s₀ s₁ mg mb fa o pm cd doc a vs ns G Y ho hd hcd hmg hobj hints hlen hg => ?_
  have KX := hY w _ Y
  obtain ⟨fd, hb, hF⟩ := F w mg fa _ KX G.T.g hmg
  exact law_call' KX G.T.g G.T.b G.T.builtins G.T.nolimit hg hobj hints (Nat.le_trans hlen hn2) hr hF hb (fun H hO hS => hsp w mg H a ns hlen hO hS) fun H e s' => hCX w H s₁ e s'
theorem reps_ints {K : PySem.W.Frag} {w : Wd} {H : Hp} : ∀ ns : List Int, Reps K w H (ns.map V.int) (ns.map D.int)
  | [] => .nil
  | n :: ns => .cons (.int n) (reps_ints ns)
/-- the law's promise from its run -/
theorem sp_law {T : Tb} {cl : Calls} {H : Hp} {a : Addr} {ns : List Int} (hS : LstAt T.K H a (ns.map V.int)) (st' : Sto) (h : cl "law" [(.esc, .lst (ns.map D.int))] [] = .ok (.bl true) st') : spOf T cl "law" [.ref a] H (fun v _ => v = .bl true) fun _ _ _ => False := by
  refine ⟨[(.esc, .lst (ns.map D.int))], ⟨fun _ => False, []⟩, [], .esc ?_ .nil, ⟨rfl, List.nodup_nil, fun i c a h => by simp at h⟩, fun a z => z.elim, ?_⟩
  · rcases hS with hS | hS
    · exact .lst hS (fun z => z) (by simp) (reps_ints ns)
    · exact .klst hS (reps_ints ns)
  · rw [h]
    rintro v H' ⟨r, l, hst, rep⟩
    cases rep
    rfl
theorem noCX {P : Program} {w : World} {l : List PySem.Env} {H : Hp} {s : Shared} {e : Value} {s' : Shared} (h : L2N.CX P w l H s (fun _ _ _ => False) e s') : False := by
  obtain ⟨_, _, _, _, _, _, _, _, _, _, _, _, z⟩ := h
  exact z
end NC

/-! ### short words for printed derivations -/
namespace NC
open PySem L2

def visK : Option NameKind → Bool
  | some .local => true | some .cell => true | some .free => true
  | _ => false
/-- the name x stands in slot i and is seen -/
def varX (G : Ct) (i : Nat) (x : Str) : Bool := (match G.N[i]? with | some y => decide (y = x) | none => false) && visK (G.sc.names.lookup x) && !(x == ("__debug__" : Str)) && !(x == ("__classdict__" : Str))
theorem varX_ok {G : Ct} {i : Nat} {x : Str} (h : varX G i x = true) : G.N[i]? = some x ∧ Vis G.sc x ∧ (x == ("__debug__" : Str)) = false ∧ (x == ("__classdict__" : Str)) = false := by
  unfold varX at h
  rw [Bool.and_eq_true, Bool.and_eq_true, Bool.and_eq_true, Bool.not_eq_true', Bool.not_eq_true'] at h
  obtain ⟨⟨⟨h1, h2⟩, h3⟩, h4⟩ := h
  refine ⟨?_, ?_, h3, h4⟩
  · cases e : G.N[i]? with
    | none => rw [e] at h1; cases h1
    | some y => rw [e] at h1; rw [of_decide_eq_true h1]
  · unfold visK at h2
    split at h2 <;> first | exact .inl (by assumption) | exact .inr (.inl (by assumption)) | exact .inr (.inr (by assumption)) | cases h2
/-- .. and may be stored here -/
def tgX (G : Ct) (i : Nat) (x : Str) : Bool := varX G i x && (match G.sc.names.lookup x with | some .local => true | some .cell => (match G.bk with | none => true | some s => s.names.lookup x == some .cell) | _ => false)
theorem tgX_ok {G : Ct} {i : Nat} {x : Str} (h : tgX G i x = true) : G.N[i]? = some x ∧ Loc G.sc x ∧ TgOk G x := by
  unfold tgX at h
  rw [Bool.and_eq_true] at h
  obtain ⟨h1, h2⟩ := h
  refine ⟨(varX_ok h1).1, ?_⟩
  split at h2
  · exact ⟨.inl (by assumption), .inr (by assumption)⟩
  · exact ⟨.inr (by assumption), .inl h2⟩
  · cases h2
/-- x is a global name here -/
def glX (G : Ct) (x : Str) : Bool := (match G.sc.names.lookup x with | some .globalImplicit => true | _ => false) && !(x == ("__debug__" : Str)) && !decide (x = ("__name__" : Str))
theorem glX_ok {G : Ct} {x : Str} (h : glX G x = true) : G.sc.names.lookup x = some .globalImplicit ∧ (x == ("__debug__" : Str)) = false ∧ x ≠ ("__name__" : Str) := by
  unfold glX at h
  rw [Bool.and_eq_true, Bool.and_eq_true, Bool.not_eq_true', Bool.not_eq_true'] at h
  obtain ⟨⟨h1, h2⟩, h3⟩ := h
  refine ⟨?_, h2, of_decide_eq_false h3⟩
  split at h1
  · assumption
  · cases h1
/-- the built-in names that the module does not take -/
def Bn (M : Mo) : Prop := ∀ x : Str, (["len", "range", "isinstance", "int", "bool", "str", "list", "tuple", "abs", "max", "min", "sum", "all", "any", "sorted", "enumerate", "zip", "dict", "reversed", "super"] : List Str).contains x = true → M.mg x = none
section
variable {G : Ct} {M : Mo} {m : Md} {ms : List Md} {a b c d e tg : Expr} {es : List Expr} {f g : F} {fl : FL} {fi : FL} {k : D → D → Sto → R D} {kl : List D → Sto → R D} {pos p1 p2 p3 p4 : Pos} {x : Str} {id T : String} {s1 : FS} {ss : List Stmt} {t : Tg}
theorem v1 (i : Nat) (h : varX G i x = true := by decide +kernel) : SndE G M .esc (.Name x pos) (bVar i) := let h := varX_ok h; sn_var h.1 h.2.1 h.2.2.1 h.2.2.2
theorem vr (i : Nat) (h : varX G i x = true := by decide +kernel) : SndE G M .rd (.Name x pos) (bVarR i) := let h := varX_ok h; sn_varR h.1 h.2.1 h.2.2.1 h.2.2.2
theorem gl {dd : D} (hh : GlobOk M x dd) (h : glX G x = true := by decide +kernel) : SndE G M .esc (.Name x pos) (bC dd) := let h := glX_ok h; sn_glob hh h.1 h.2.1
theorem iv (i : Nat) (h : varX G i x = true := by decide +kernel) : SndI G M tg (.Name x pos) (iVar i) := let h := varX_ok h; si_var h.1 h.2.1 h.2.2.1 h.2.2.2
theorem ivc {own : List Nat} (i : Nat) (h : varX G i x = true := by decide +kernel) (ho : i ∉ own := by decide) : SndIc G M own tg (.Name x pos) (iVarC i) := let h := varX_ok h; sic_var h.1 h.2.1 ho h.2.2.1 h.2.2.2
theorem tn (i : Nat) (h : tgX G i x = true := by decide +kernel) : SndG G M (.Name x pos) [i] (tgName i) := let h := tgX_ok h; sg_name h.1 h.2.1 h.2.2
theorem rg1 (hb : Bn M) (he : SndE G M .rd e f) (h : glX G ("range" : Str) = true := by decide +kernel) (hs : ∀ env, starEach [e] env = [(false, eval e env)] := by intro _; rfl) : SndI G M tg (.Call (.Name "range" p1) [e] [] pos) (iRng1D f) := si_rng1 (glX_ok h).1 (hb _ (by decide +kernel)) he hs
theorem rg2 (hb : Bn M) (ha : SndE G M .rd a f) (hbb : SndE G M .rd b g) (h : glX G ("range" : Str) = true := by decide +kernel) (hs : ∀ env, starEach [a, b] env = [(false, eval a env), (false, eval b env)] := by intro _; rfl)
    (hs2 : ∀ env, starEach [b] env = [(false, eval b env)] := by intro _; rfl) : SndI G M tg (.Call (.Name "range" p1) [a, b] [] pos) (iRng2D f g) := si_rng2 (glX_ok h).1 (hb _ (by decide +kernel)) ha hbb hs hs2
theorem cB (hb : Bn M) (hc : BuS G M m ms (.builtin id) kl) (ha : SndL G M ms (e :: es) fl) (h : glX G x = true := by decide +kernel) (hx : (["len", "range", "isinstance", "int", "bool", "str", "list", "tuple", "abs", "max", "min", "sum", "all", "any", "sorted", "enumerate", "zip", "dict", "reversed", "super"] : List Str).contains x = true := by decide +kernel)
    (hv : bootBuiltins x = some (.builtin id) := by decide +kernel) (he : ∀ env, starEach (e :: es) env = (false, eval e env) :: starEach es env := by intro _; rfl) (hpl : ∀ env, (backTo pos (starEach es env)).any (·.1) = false := by intro _; rfl) : SndE G M m (.Call (.Name x p1) (e :: es) [] pos) (bCall kl fl) :=
  let h := glX_ok h; sn_callB hc h.1 (hb _ hx) hv ha h.2.2 h.2.1 he hpl
theorem cT (hb : Bn M) (hc : BuS G M m ms (.type T) kl) (ha : SndL G M ms (e :: es) fl) (h : glX G x = true := by decide +kernel) (hx : (["len", "range", "isinstance", "int", "bool", "str", "list", "tuple", "abs", "max", "min", "sum", "all", "any", "sorted", "enumerate", "zip", "dict", "reversed", "super"] : List Str).contains x = true := by decide +kernel)
    (hv : bootBuiltins x = some (.type T) := by decide +kernel) (he : ∀ env, starEach (e :: es) env = (false, eval e env) :: starEach es env := by intro _; rfl) (hpl : ∀ env, (backTo pos (starEach es env)).any (·.1) = false := by intro _; rfl) : SndE G M m (.Call (.Name x p1) (e :: es) [] pos) (bCall kl fl) :=
  let h := glX_ok h; sn_callTy hc h.1 (hb _ hx) hv ha h.2.2 h.2.1 he hpl
theorem isi {t : String} {tx : Str} (hb : Bn M) (ha : SndE G M .rd a f) (h : glX G ("isinstance" : Str) = true := by decide +kernel) (h2 : glX G tx = true := by decide +kernel) (hx : (["int", "bool", "str", "list", "tuple"] : List Str).contains tx = true := by decide +kernel)
    (hv : bootBuiltins tx = some (.type t) := by decide +kernel) (hs : ∀ env, starEach (a :: [.Name tx p2]) env = (false, eval a env) :: starEach [.Name tx p2] env := by intro _; rfl) : SndE G M m (.Call (.Name "isinstance" p1) [a, .Name tx p2] [] pos) (bIsi t f) := by
  have hm : M.mg tx = none := by
    refine hb _ ?_
    simp only [List.contains_iff_mem] at hx ⊢
    simp only [List.mem_cons, List.not_mem_nil, or_false] at hx ⊢
    rcases hx with hx | hx | hx | hx | hx <;> simp [hx]
  exact sn_isi (glX_ok h).1 (hb _ (by decide +kernel)) (glX_ok h2).1 hm hv ha hs (glX_ok h2).2.2 (glX_ok h2).2.1
theorem cD (hc : CallOk M x) (ha : SndL G M ms (e :: es) fl) (h : glX G x = true := by decide +kernel) (he : ∀ env, starEach (e :: es) env = (false, eval e env) :: starEach es env := by intro _; rfl) (hpl : ∀ env, (backTo pos (starEach es env)).any (·.1) = false := by intro _; rfl) : SndE G M .esc (.Call (.Name x p1) (e :: es) [] pos) (bDef M.cl x ms fl) :=
  sn_call hc (glX_ok h).1 ha (glX_ok h).2.1 he hpl
theorem rv (i : Nat) (h : varX G i x = true := by decide +kernel) : SndS G M (.Return (some (.Name x p2)) pos) (sRetV i) := let h := varX_ok h; ss_retV h.1 h.2.1 h.2.2.1 h.2.2.2
theorem st (i : Nat) (he : SndE G M .fr e f) (h : tgX G i x = true := by decide +kernel) (hs : ∀ env, swapsWith e (some (.Name x p2)) pos.line env = pure false := by intro _; rfl) : SndS G M (.Assign [.Name x p2] e pos) (sSet i f) := let h := tgX_ok h; ss_set h.1 h.2.1 h.2.2 he hs
theorem se (i : Nat) (he : SndE G M .esc e f) (h : tgX G i x = true := by decide +kernel) (hs : ∀ env, swapsWith e (some (.Name x p2)) pos.line env = pure false := by intro _; rfl) : SndS G M (.Assign [.Name x p2] e pos) (sAsg (tgName i) f) := let h := tgX_ok h; ss_setE h.1 h.2.1 h.2.2 he hs
theorem sap (i : Nat) (he : SndE G M .esc e f) (h : varX G i x = true := by decide +kernel) (hs : ∀ env, starEach (e :: []) env = (false, eval e env) :: starEach [] env := by intro _; rfl) (hline : (p3.endLine == p4.line) = true := by rfl) :
    SndS G M (.Expr (.Call (.Attribute (.Name x p2) "append" p3) [e] [] p4) pos) (sApp i f) := let h := varX_ok h; ss_app h.1 h.2.1 he hs h.2.2.1 h.2.2.2 hline
theorem sxt (i : Nat) (he : SndE G M .rd e f) (h : varX G i x = true := by decide +kernel) (hs : ∀ env, starEach (e :: []) env = (false, eval e env) :: starEach [] env := by intro _; rfl) (hline : (p3.endLine == p4.line) = true := by rfl) :
    SndS G M (.Expr (.Call (.Attribute (.Name x p2) "extend" p3) [e] [] p4) pos) (sExt i f) := let h := varX_ok h; ss_ext h.1 h.2.1 he hs h.2.2.1 h.2.2.2 hline
theorem six (i : Nat) {kx : Expr} {fk : F} (hk : SndE G M .rd kx fk) (he : SndE G M .esc e f) (h : varX G i x = true := by decide +kernel)
    (hs : ∀ env, swapsWithSole [.Subscript (.Name x p2) kx p3] e pos.line env = pure false := by intro _; rfl) (hw : ∀ env, swappedStores [.Subscript (.Name x p2) kx p3] e env = pure none := by intro _; rfl)
    (h1 : ∀ env, (assignEach [.Subscript (.Name x p2) kx p3] env).map (·.2) = [assign (.Subscript (.Name x p2) kx p3) env] := by intro _; rfl)
    (ha : ∀ env v, assign (.Subscript (.Name x p2) kx p3) env v = (do
      let ov ← holding [v] (eval (.Name x p2) env)
      let iv ← holding [v, ov] (eval kx env)
      standAt p3
      holding [v, ov, iv] (setItem ov iv v)
      release [v, ov, iv] []) := by intro _ _; rfl) : SndS G M (.Assign [.Subscript (.Name x p2) kx p3] e pos) (sSetIx i fk f) := let h := varX_ok h; ss_setIx h.1 h.2.1 hk he h.2.2.1 h.2.2.2 hs hw h1 ha
/-- comprehensions -/
theorem lc {elt iter : Expr} {ifs : List Expr} {scope : Scope} {is : List Nat} {fb : FB} (hm : M.hot = false) (own : List (Str × Nat)) (hi : SndIc G M (own.map (·.2)) tg iter fi) (hg : SndG (G.blk scope) M tg is t) (ht : SndTs (G.blk scope) M ifs fb) (he : SndE (G.blk scope) M .esc elt f)
    (ok : blkC G.N G.sc scope own = true := by decide +kernel) (hsub : ∀ j ∈ is, j ∈ own.map (·.2) := by decide +kernel) (hs : ∀ env x, foldedSetIterable iter env x = pure x := by intro _ _; rfl) :
    SndE G M .fr (.ListComp elt [⟨tg, iter, ifs, 0⟩] scope pos) (bComp (own.map (·.2)) fi t fb f) := (sn_comp hm hi ok hg ht he hsub hs).1
def swX (G : Ct) (y : Str) (scope : Scope) (py pos : Pos) : Bool := (match G.sc.names.lookup y with | some .local => true | _ => false) && (match G.sc.kind with | .function => true | _ => false) && (py.line == pos.line) && !(scope.names.any fun (n, k) => n == y && (k == .local || k == .cell))
/-- y = [..], y a plain local -/
theorem slc {elt iter : Expr} {ifs : List Expr} {scope : Scope} {is : List Nat} {fb : FB} {y : Str} {py spos : Pos} (hm : M.hot = false) (i : Nat) (own : List (Str × Nat)) (hi : SndIc G M (own.map (·.2)) tg iter fi) (hg : SndG (G.blk scope) M tg is t) (ht : SndTs (G.blk scope) M ifs fb) (he : SndE (G.blk scope) M .esc elt f)
    (ok : blkC G.N G.sc scope own = true := by decide +kernel) (hsub : ∀ j ∈ is, j ∈ own.map (·.2) := by decide +kernel) (h : tgX G i y = true := by decide +kernel) (hsw : swX G y scope py pos = true := by decide +kernel) (hs : ∀ env x, foldedSetIterable iter env x = pure x := by intro _ _; rfl) :
    SndS G M (.Assign [.Name y py] (.ListComp elt [⟨tg, iter, ifs, 0⟩] scope pos) spos) (sSet i (bComp (own.map (·.2)) fi t fb f)) := by
  unfold swX at hsw
  rw [Bool.and_eq_true, Bool.and_eq_true, Bool.and_eq_true, Bool.not_eq_true'] at hsw
  obtain ⟨⟨⟨h1, h2⟩, h3⟩, h4⟩ := hsw
  refine (sn_comp hm hi ok hg ht he hsub hs).2 (tgX_ok h).1 ?_ ?_ (tgX_ok h).2.2 h3 h4
  · split at h1
    · assumption
    · cases h1
  · split at h2
    · assumption
    · cases h2
theorem _root_.L2.ps_set' {X : Cx} {i : Nat} {x : Str} {e : Expr} {te : TE} {pos pos' : Pos} (hN : X.N.Nodup) (hi : X.N[i]? = some x) (hx : Loc X.env.scope x) (he : PE X e te) (hs : swapsWith e (some (.Name x pos')) pos.line X.env = pure false) (hf : X.fn x = true ∨ X.env.scope.names.lookup x = some .local) :
    PS X (.Assign [.Name x pos'] e pos) (tAsg te (gName i)) := ps_set hN hi hx he hs hf
/-- y = [..], y captured by a block, or its block's own name -/
theorem slc0 {elt iter : Expr} {ifs : List Expr} {scope : Scope} {is : List Nat} {fb : FB} {y : Str} {py spos : Pos} (hm : M.hot = false) (i : Nat) (own : List (Str × Nat)) (hi : SndIc G M (own.map (·.2)) tg iter fi) (hg : SndG (G.blk scope) M tg is t) (ht : SndTs (G.blk scope) M ifs fb) (he : SndE (G.blk scope) M .esc elt f)
    (ok : blkC G.N G.sc scope own = true := by decide +kernel) (hsub : ∀ j ∈ is, j ∈ own.map (·.2) := by decide +kernel) (h : tgX G i y = true := by decide +kernel) (hsw : ((match G.sc.names.lookup y with | some .local => false | _ => true) || !(py.line == pos.line) || (scope.names.any fun (n, k) => n == y && (k == .local || k == .cell))) = true := by decide +kernel) (hs : ∀ env x, foldedSetIterable iter env x = pure x := by intro _ _; rfl) :
    SndS G M (.Assign [.Name y py] (.ListComp elt [⟨tg, iter, ifs, 0⟩] scope pos) spos) (sSet i (bComp (own.map (·.2)) fi t fb f)) := by
  intro X C gd
  have h := tgX_ok h
  have hc := (sn_comp (pos := pos) hm hi ok hg ht he hsub hs).1
  refine (ps_set (i := i) gd.nd (by rw [gd.N]; exact h.1) (by rw [gd.sc]; exact h.2.1) (hc X C gd) ?_ (gd.fnOk h.2.2)).imp fun E σ H ⟨w, env, st, s, p⟩ => ⟨w, env, st, s, PostS.bind p fun d st1 w1 v1 H1 l1 s1 r1 p1 => by
    split at p1
    · exact p1 w1 _ H1 (s.setF s1 (by assumption) r1)
    · exact p1.elim⟩
  have hk : X.env.kindOf y = G.sc.names.lookup y := by show X.env.scope.names.lookup y = _; rw [gd.sc]
  unfold swapsWith
  show (pure (X.env.blockKind == .function && X.env.kindOf y == some .local && py.line == pos.line && !(scope.names.any fun (n, k) => n == y && (k == .local || k == .cell))) : Sem Bool) = pure false
  congr 1
  rw [hk]
  rw [Bool.or_eq_true, Bool.or_eq_true] at hsw
  rcases hsw with (hsw | hsw) | hsw
  · split at hsw
    · cases hsw
    · rename_i hne
      have : (G.sc.names.lookup y == some .local) = false := by
        cases q : G.sc.names.lookup y with
        | none => rfl
        | some kk => cases kk <;> first | rfl | exact absurd q hne
      rw [this, Bool.and_false, Bool.false_and, Bool.false_and]
  · rw [Bool.not_eq_true'] at hsw
    rw [hsw, Bool.and_false, Bool.false_and]
  · rw [hsw]
    simp
end
end NC

/-! ### reckoning with the shallow texts -/
namespace NC
open PySem L2
section
variable {α β : Type} {env : Ev} {st : Sto} {a : α} {x : Exn}
@[simp] theorem bind_ok (k : α → Sto → R β) : (R.ok a st).bind k = k a st := rfl
@[simp] theorem bind_exc (k : α → Sto → R β) : (R.exc x st).bind k = .exc x st := rfl
@[simp] theorem bind_stuck (k : α → Sto → R β) : (R.stuck : R α).bind k = .stuck := rfl
@[simp] theorem bind_ite (c : Prop) [Decidable c] (r s : R α) (k : α → Sto → R β) : (if c then r else s).bind k = if c then r.bind k else s.bind k := by split <;> rfl
@[simp] theorem out_ok (d : D) (k : D → Sto → Out) : (R.ok d st).out env k = k d st := rfl
@[simp] theorem out_exc (k : D → Sto → Out) : (R.exc x st).out env k = .exc x env st := rfl
@[simp] theorem out_stuck (k : D → Sto → Out) : (R.stuck).out env k = .stuck := rfl
@[simp] theorem out_ite (c : Prop) [Decidable c] (r s : R D) (k : D → Sto → Out) : (if c then r else s).out env k = if c then r.out env k else s.out env k := by split <;> rfl
@[simp] theorem outB_ok (d : Bool) (k : Bool → Sto → Out) : (R.ok d st).outB env k = k d st := rfl
@[simp] theorem outB_exc (k : Bool → Sto → Out) : (R.exc x st).outB env k = .exc x env st := rfl
@[simp] theorem outB_stuck (k : Bool → Sto → Out) : (R.stuck).outB env k = .stuck := rfl
@[simp] theorem outB_ite (c : Prop) [Decidable c] (r s : R Bool) (k : Bool → Sto → Out) : (if c then r else s).outB env k = if c then r.outB env k else s.outB env k := by split <;> rfl
@[simp] theorem nox_ok : (R.ok a st).nox = .ok a st := rfl
@[simp] theorem nox_ite (c : Prop) [Decidable c] (r s : R α) : (if c then r else s).nox = if c then r.nox else s.nox := by split <;> rfl
/-- one statement behind another -/
def Out.seq (o : Out) (g : FS) : Out := match o with
  | .next env' st' => g env' st'
  | o => o
@[simp] theorem seq_next (g : FS) (e : Ev) : (Out.next e st).seq g = g e st := rfl
@[simp] theorem seq_ret (g : FS) (d : D) : (Out.ret d st).seq g = .ret d st := rfl
@[simp] theorem seq_brk (g : FS) (e : Ev) : (Out.brk e st).seq g = .brk e st := rfl
@[simp] theorem seq_cont (g : FS) (e : Ev) : (Out.cont e st).seq g = .cont e st := rfl
@[simp] theorem seq_exc (g : FS) (e : Ev) : (Out.exc x e st).seq g = .exc x e st := rfl
@[simp] theorem seq_stuck (g : FS) : (Out.stuck).seq g = .stuck := rfl
@[simp] theorem seq_ite (c : Prop) [Decidable c] (r s : Out) (g : FS) : (if c then r else s).seq g = if c then r.seq g else s.seq g := by split <;> rfl
@[simp] theorem sCons_eq (f g : FS) : sCons f g env st = (f env st).seq g := by unfold sCons Out.seq; rfl
@[simp] theorem sNil_eq : sNil env st = .next env st := rfl
@[simp] theorem sPass_eq : sPass env st = .next env st := rfl
@[simp] theorem sBrk_eq : sBrk env st = .brk env st := rfl
@[simp] theorem sCont_eq : sCont env st = .cont env st := rfl
@[simp] theorem sRetN_eq : sRetN env st = .ret .non st := rfl
@[simp] theorem sRet_eq (f : F) : sRet f env st = (f env st).out env fun d st1 => .ret d st1 := rfl
@[simp] theorem sExpr_eq (f : F) : sExpr f env st = (f env st).out env fun d st1 => .next env st1 := rfl
@[simp] theorem sIf_eq (c : FB) (f g : FS) : sIf c f g env st = (c env st).outB env fun b st1 => if b = true then f env st1 else g env st1 := rfl
@[simp] theorem fin_next (e : Ev) : fin (.next e st) = .ok .non st := rfl
@[simp] theorem fin_ret (d : D) : fin (.ret d st) = .ok d st := rfl
@[simp] theorem fin_exc (e : Ev) : fin (.exc x e st) = .exc x st := rfl
@[simp] theorem fin_stuck : fin .stuck = .stuck := rfl
@[simp] theorem fin_ite (c : Prop) [Decidable c] (r s : Out) : fin (if c then r else s) = if c then fin r else fin s := by split <;> rfl
/-- expressions -/
@[simp] theorem bC_eq (d : D) : bC d env st = .ok d st := rfl
theorem bVar_of {i : Nat} {d : D} (h : env[i]? = some (some (.frz, d))) : bVar i env st = .ok d st := by unfold bVar; rw [h]
theorem bVarR_of {i : Nat} {fl : Fl} {d : D} (n : fl ≠ .exc) (h : env[i]? = some (some (fl, d))) : bVarR i env st = .ok d st := by unfold bVarR; rw [h]; cases fl <;> first | rfl | exact absurd rfl n
@[simp] theorem bVar_z (d : D) (r : Ev) : bVar 0 (some (.frz, d) :: r) st = .ok d st := rfl
@[simp] theorem bVar_s (i : Nat) (s : Slot) (r : Ev) : bVar (i + 1) (s :: r) st = bVar i r st := rfl
@[simp] theorem bVarR_z (d : D) (r : Ev) : bVarR 0 (some (.frz, d) :: r) st = .ok d st := rfl
@[simp] theorem bVarR_z1 (d : D) (r : Ev) : bVarR 0 (some (.own, d) :: r) st = .ok d st := rfl
@[simp] theorem bVarR_z2 (d : D) (r : Ev) : bVarR 0 (some (.bor, d) :: r) st = .ok d st := rfl
@[simp] theorem bVarR_s (i : Nat) (s : Slot) (r : Ev) : bVarR (i + 1) (s :: r) st = bVarR i r st := rfl
@[simp] theorem bBin_eq (k : D → D → Sto → R D) (f g : F) : bBin k f g env st = (f env st).bind fun a st1 => (g env st1).bind fun b st2 => k a b st2 := rfl
@[simp] theorem bCall_eq (k : List D → Sto → R D) (g : FL) : bCall k g env st = (g env st).bind fun ds st1 => k ds st1 := rfl
@[simp] theorem bDef_eq (cl : Calls) (x : Str) (ms : List Md) (g : FL) : bDef cl x ms g env st = (g env st).bind fun ds st1 => cl x (ms.zip ds) st1 := rfl
@[simp] theorem lNil_eq : lNil env st = .ok [] st := rfl
@[simp] theorem lCons_eq (f : F) (g : FL) : lCons f g env st = (f env st).bind fun d st1 => (g env st1).bind fun ds st2 => .ok (d :: ds) st2 := rfl
@[simp] theorem bTup_eq (g : FL) : bTup g env st = (g env st).bind fun ds st1 => .ok (.tup ds) st1 := rfl
@[simp] theorem bLst_eq (g : FL) : bLst g env st = (g env st).bind fun ds st1 => .ok (.lst ds) st1 := rfl
@[simp] theorem bIfE_eq (c : FB) (f g : F) : bIfE c f g env st = (c env st).bind fun b st1 => if b = true then f env st1 else g env st1 := rfl
@[simp] theorem bSl_eq (f : F) (l u : FO) : bSl f l u env st = (f env st).bind fun d st1 => (l env st1).bind fun lo st2 => (u env st2).bind fun hi st3 => kSl d lo hi st3 := rfl
@[simp] theorem oNone_eq : oNone env st = .ok none st := rfl
def toO (d : D) (st : Sto) : R (Option Int) := match d with
  | .int i => .ok (some i) st
  | _ => .stuck
@[simp] theorem toO_int (i : Int) : toO (.int i) st = .ok (some i) st := rfl
@[simp] theorem oSome_eq (f : F) : oSome f env st = (f env st).bind toO := rfl
@[simp] theorem bChain_eq (k k' : D → D → Sto → R D) (f g h : F) : bChain k k' f g h env st = (f env st).bind fun a st1 => (g env st1).bind fun b st2 => (rBl (k a b st2)).bind fun d st3 => if d = true then (h env st3).bind fun c st4 => k' b c st4 else .ok (.bl false) st3 := by
  unfold bChain rBl
  congr 1; funext a st1; congr 1; funext b st2
  cases k a b st2 with
  | ok d st' => cases d with
    | bl b => cases b <;> rfl
    | _ => rfl
  | exc x st' => rfl
  | stuck => rfl
def notV (d : D) (st : Sto) : R D := match d with
  | .bl b => .ok (.bl (!b)) st
  | _ => .stuck
@[simp] theorem notV_bl (b : Bool) : notV (.bl b) st = .ok (.bl (!b)) st := rfl
@[simp] theorem bNotV_eq (f : F) : bNotV f env st = (f env st).bind notV := rfl
def negV (d : D) (st : Sto) : R D := match d with
  | .int b => .ok (.int (-b)) st
  | _ => .stuck
@[simp] theorem negV_int (b : Int) : negV (.int b) st = .ok (.int (-b)) st := rfl
@[simp] theorem bNeg_eq (f : F) : bNeg f env st = (f env st).bind negV := rfl
@[simp] theorem bAndV_eq (f g : F) : bAndV f g env st = (rBl (f env st)).bind fun b st1 => if b = true then g env st1 else .ok (.bl false) st1 := by
  unfold bAndV rBl
  cases f env st with
  | ok d st' => cases d with
    | bl b => cases b <;> rfl
    | _ => rfl
  | exc x st' => rfl
  | stuck => rfl
@[simp] theorem bOrV_eq (f g : F) : bOrV f g env st = (rBl (f env st)).bind fun b st1 => if b = true then .ok (.bl true) st1 else g env st1 := by
  unfold bOrV rBl
  cases f env st with
  | ok d st' => cases d with
    | bl b => cases b <;> rfl
    | _ => rfl
  | exc x st' => rfl
  | stuck => rfl
@[simp] theorem bMethS_eq (k : D → D → Sto → R D) (f g : F) (x : Str) (h : f env st = .ok (.str x) st) : bMethS k f g env st = (g env st).bind fun d2 st2 => k (.str x) d2 st2 := by unfold bMethS; rw [h]; rfl
/-- tests -/
@[simp] theorem rBl_bl (b : Bool) : rBl (.ok (.bl b) st) = .ok b st := rfl
@[simp] theorem rBl_ite (c : Prop) [Decidable c] (r s : R D) : rBl (if c then r else s) = if c then rBl r else rBl s := by split <;> rfl
@[simp] theorem rBl_stuck : rBl .stuck = .stuck := rfl
@[simp] theorem rBl_exc : rBl (.exc x st) = .exc x st := rfl
@[simp] theorem bTst_eq (f : F) : bTst f env st = rBl (f env st) := rfl
@[simp] theorem bTru_eq (f : F) : bTru f env st = rTru (f env st) := rfl
@[simp] theorem rTru_bl (b : Bool) : rTru (.ok (.bl b) st) = .ok b st := rfl
@[simp] theorem rTru_int (i : Int) : rTru (.ok (.int i) st) = .ok (i != 0) st := rfl
@[simp] theorem rTru_non : rTru (.ok .non st) = .ok false st := rfl
@[simp] theorem rTru_lst (ds : List D) : rTru (.ok (.lst ds) st) = .ok (!ds.isEmpty) st := rfl
@[simp] theorem rTru_tup (ds : List D) : rTru (.ok (.tup ds) st) = .ok (!ds.isEmpty) st := rfl
@[simp] theorem rTru_str (y : Str) (h : y.length ≤ sizeLine) : rTru (.ok (.str y) st) = .ok ((y.length : Int) != 0) st := by
  show (match truD (.str y) st with | some b => R.ok b st | none => .stuck) = _
  unfold truD; simp only; rw [if_pos h]
@[simp] theorem rTru_ite (c : Prop) [Decidable c] (r s : R D) : rTru (if c then r else s) = if c then rTru r else rTru s := by split <;> rfl
@[simp] theorem bNotT_eq (f : FB) : bNotT f env st = (f env st).bind fun b st1 => .ok (!b) st1 := rfl
@[simp] theorem bAndT_eq (f g : FB) : bAndT f g env st = (f env st).bind fun b st1 => if b = true then g env st1 else .ok false st1 := rfl
@[simp] theorem bOrT_eq (f g : FB) : bOrT f g env st = (f env st).bind fun b st1 => if b = true then .ok true st1 else g env st1 := rfl
@[simp] theorem cYes_eq : cYes env st = .ok true st := rfl
/-- operations -/
@[simp] theorem kAdd_int (i j : Int) : kAdd (.int i) (.int j) st = .ok (.int (i + j)) st := rfl
@[simp] theorem kAdd_str (i j : Str) : kAdd (.str i) (.str j) st = if i.length + j.length ≤ sizeLine then .ok (.str (i ++ j)) st else .stuck := rfl
@[simp] theorem kAdd_lst (i j : List D) : kAdd (.lst i) (.lst j) st = if i.length + j.length ≤ sizeLine then .ok (.lst (i ++ j)) st else .stuck := rfl
@[simp] theorem kAdd_tup (i j : List D) : kAdd (.tup i) (.tup j) st = if i.length + j.length ≤ sizeLine then .ok (.tup (i ++ j)) st else .stuck := rfl
@[simp] theorem kSub_int (i j : Int) : kSub (.int i) (.int j) st = .ok (.int (i - j)) st := rfl
@[simp] theorem kMul_int (i j : Int) : kMul (.int i) (.int j) st = if (-(2 ^ 64) < i ∧ i < 2 ^ 64) ∨ (-(2 ^ 64) < j ∧ j < 2 ^ 64) then .ok (.int (i * j)) st else .stuck := rfl
@[simp] theorem kFdiv_int (i j : Int) : kFdiv (.int i) (.int j) st = if 0 < j ∧ j < 1073741824 then .ok (.int (i / j)) st else .stuck := rfl
@[simp] theorem kMod_int (i j : Int) : kMod (.int i) (.int j) st = if 0 < j then .ok (.int (i % j)) st else .stuck := rfl
@[simp] theorem kPow_int (i j : Int) : kPow (.int i) (.int j) st = if 0 ≤ j ∧ j ≤ 1000000 ∧ i.natAbs < 2 ^ 64 then .ok (.int (i ^ j.toNat)) st else .stuck := rfl
@[simp] theorem kCmp_int (p : Int → Int → Bool) (i j : Int) : kCmp p (.int i) (.int j) st = .ok (.bl (p i j)) st := rfl
@[simp] theorem kEq_int (i j : Int) : kEq (.int i) (.int j) st = .ok (.bl (decide (i = j))) st := rfl
@[simp] theorem kEq_str (i j : Str) : kEq (.str i) (.str j) st = .ok (.bl (decide (i = j))) st := rfl
@[simp] theorem kEq_bl (i j : Bool) : kEq (.bl i) (.bl j) st = .ok (.bl (decide (i = j))) st := rfl
@[simp] theorem kNe_int (i j : Int) : kNe (.int i) (.int j) st = .ok (.bl (!decide (i = j))) st := rfl
@[simp] theorem kNe_str (i j : Str) : kNe (.str i) (.str j) st = .ok (.bl (!decide (i = j))) st := rfl
@[simp] theorem kNe_bl (i j : Bool) : kNe (.bl i) (.bl j) st = .ok (.bl (!decide (i = j))) st := rfl
@[simp] theorem kIx_lst (ds : List D) (i : Int) : kIx (.lst ds) (.int i) st = match atI ds i with | some d => .ok d st | none => .stuck := rfl
@[simp] theorem kIx_tup (ds : List D) (i : Int) : kIx (.tup ds) (.int i) st = match atI ds i with | some d => .ok d st | none => .stuck := rfl
theorem kIx_lst_of {ds : List D} {i : Int} {d : D} (h : atI ds i = some d) : kIx (.lst ds) (.int i) st = .ok d st := by rw [kIx_lst, h]
theorem kIx_tup_of {ds : List D} {i : Int} {d : D} (h : atI ds i = some d) : kIx (.tup ds) (.int i) st = .ok d st := by rw [kIx_tup, h]
@[simp] theorem kAbs_int (i : Int) : kAbs [.int i] st = .ok (.int (if i < 0 then -i else i)) st := rfl
@[simp] theorem kMax2_int (i j : Int) : kMax2 [.int i, .int j] st = .ok (.int (if j > i then j else i)) st := rfl
@[simp] theorem kMin2_int (i j : Int) : kMin2 [.int i, .int j] st = .ok (.int (if j < i then j else i)) st := rfl
@[simp] theorem kInt_int (i : Int) : kInt [.int i] st = .ok (.int i) st := rfl
@[simp] theorem kInt_bl (b : Bool) : kInt [.bl b] st = .ok (.int (if b then 1 else 0)) st := rfl
@[simp] theorem kStr_int (i : Int) : kStr [.int i] st = if i.natAbs.log2 < 1920 then .ok (.str (toString i)) st else .stuck := rfl
@[simp] theorem kStr_str (i : Str) : kStr [.str i] st = .ok (.str i) st := rfl
@[simp] theorem kLen_lst (ds : List D) : kLen [.lst ds] st = .ok (.int (ds.length : Nat)) st := rfl
@[simp] theorem kLen_tup (ds : List D) : kLen [.tup ds] st = .ok (.int (ds.length : Nat)) st := rfl
@[simp] theorem kLen_str (y : Str) : kLen [.str y] st = if y.length ≤ sizeLine then .ok (.int (y.length : Nat)) st else .stuck := rfl
@[simp] theorem kList_lst (ds : List D) : kList [.lst ds] st = .ok (.lst ds) st := rfl
@[simp] theorem kList_tup (ds : List D) : kList [.tup ds] st = .ok (.lst ds) st := rfl
@[simp] theorem kTuple_lst (ds : List D) : kTuple [.lst ds] st = .ok (.tup ds) st := rfl
@[simp] theorem kTuple_tup (ds : List D) : kTuple [.tup ds] st = .ok (.tup ds) st := rfl
@[simp] theorem kSl_lst (ds : List D) (lo hi : Option Int) : kSl (.lst ds) lo hi st = .ok (.lst (cutD ds lo hi)) st := rfl
@[simp] theorem kSl_tup (ds : List D) (lo hi : Option Int) : kSl (.tup ds) lo hi st = .ok (.tup (cutD ds lo hi)) st := rfl
@[simp] theorem kSl_str (z : Str) (lo hi : Option Int) : kSl (.str z) lo hi st = if z.length ≤ sizeLine then .ok (.str (cutS z lo hi)) st else .stuck := rfl
/-- isinstance, is None -/
def isiV (t : String) (d : D) (st : Sto) : R D := match (tyD d st).bind fun a => isB a t with
  | some b => .ok (.bl b) st
  | none => .stuck
@[simp] theorem bIsi_eq (t : String) (f : F) : bIsi t f env st = (f env st).bind (isiV t) := rfl
theorem isiV_int_int (i : Int) : isiV "int" (.int i) st = .ok (.bl true) st := by rfl
theorem isiV_bool_int (i : Int) : isiV "bool" (.int i) st = .ok (.bl false) st := by rfl
theorem isiV_int_bl (i : Bool) : isiV "int" (.bl i) st = .ok (.bl true) st := by rfl
theorem isiV_bool_bl (i : Bool) : isiV "bool" (.bl i) st = .ok (.bl true) st := by rfl
theorem isiV_list_lst (i : List D) : isiV "list" (.lst i) st = .ok (.bl true) st := by rfl
theorem isiV_tuple_tup (i : List D) : isiV "tuple" (.tup i) st = .ok (.bl true) st := by rfl
theorem isiV_str_str (i : Str) : isiV "str" (.str i) st = .ok (.bl true) st := by rfl
theorem isiV_bool_non : isiV "bool" .non st = .ok (.bl false) st := by rfl
theorem isiV_int_non : isiV "int" .non st = .ok (.bl false) st := by rfl
def isN (d : D) (st : Sto) : R D := .ok (.bl d.isNon) st
@[simp] theorem bIsN_eq (f : F) : bIsN f env st = (f env st).bind isN := by
  show (f env st).bind _ = _
  congr 1; funext d st1; cases d <;> rfl
def notN (d : D) (st : Sto) : R D := .ok (.bl (!d.isNon)) st
@[simp] theorem bNotN_eq (f : F) : bNotN f env st = (f env st).bind notN := by
  show (f env st).bind _ = _
  congr 1; funext d st1; cases d <;> rfl
@[simp] theorem isN_non : isN .non st = .ok (.bl true) st := rfl
@[simp] theorem isN_int (i : Int) : isN (.int i) st = .ok (.bl false) st := rfl
@[simp] theorem isN_str (i : Str) : isN (.str i) st = .ok (.bl false) st := rfl
@[simp] theorem isN_tup (i : List D) : isN (.tup i) st = .ok (.bl false) st := rfl
@[simp] theorem isN_lst (i : List D) : isN (.lst i) st = .ok (.bl false) st := rfl
@[simp] theorem notN_non : notN .non st = .ok (.bl false) st := rfl
@[simp] theorem notN_int (i : Int) : notN (.int i) st = .ok (.bl true) st := rfl
@[simp] theorem notN_str (i : Str) : notN (.str i) st = .ok (.bl true) st := rfl
@[simp] theorem notN_tup (i : List D) : notN (.tup i) st = .ok (.bl true) st := rfl
@[simp] theorem notN_lst (i : List D) : notN (.lst i) st = .ok (.bl true) st := rfl
/-- stores -/
theorem sRetV_of {i : Nat} {fl : Fl} {d : D} (h : env[i]? = some (some (fl, d))) (n : fl ≠ .bor) (n2 : fl ≠ .exc) : sRetV i env st = .ret d st := by
  unfold sRetV; rw [h]; cases fl <;> first | rfl | exact absurd rfl n | exact absurd rfl n2
def setE (t : Tg) (env : Ev) (d : D) (st : Sto) : Out := match t d env with
  | some env' => .next env' st
  | none => .stuck
@[simp] theorem sAsg_eq (t : Tg) (f : F) : sAsg t f env st = (f env st).out env fun d st1 => setE t env d st1 := rfl
@[simp] theorem setE_name (i : Nat) (d : D) : setE (tgName i) env d st = if i < env.length then .next (env.set i (some (.frz, d))) st else .stuck := by
  unfold setE tgName
  by_cases h : i < env.length
  · rw [if_pos h, if_pos h]
  · rw [if_neg h, if_neg h]
@[simp] theorem sSet_eq (i : Nat) (f : F) : sSet i f env st = (f env st).out env fun d st1 => if i < env.length then .next (env.set i (slotOf d)) st1 else .stuck := rfl
@[simp] theorem slotOf_int (i : Int) : slotOf (.int i) = some (.frz, .int i) := rfl
@[simp] theorem slotOf_str (i : Str) : slotOf (.str i) = some (.frz, .str i) := rfl
@[simp] theorem slotOf_bl (i : Bool) : slotOf (.bl i) = some (.frz, .bl i) := rfl
@[simp] theorem slotOf_non : slotOf .non = some (.frz, .non) := rfl
@[simp] theorem slotOf_tup (i : List D) : slotOf (.tup i) = some (.frz, .tup i) := rfl
@[simp] theorem slotOf_lst (i : List D) : slotOf (.lst i) = some (.own, .lst i) := rfl
@[simp] theorem slotOf_loc (i : Nat) : slotOf (.loc i) = some (.frz, .loc i) := rfl
@[simp] theorem slotA_esc (d : D) : slotA (.esc, d) = some (.frz, d) := rfl
@[simp] theorem slotA_int (m : Md) (i : Int) : slotA (m, .int i) = some (.frz, .int i) := by cases m <;> rfl
@[simp] theorem slotA_str (m : Md) (i : Str) : slotA (m, .str i) = some (.frz, .str i) := by cases m <;> rfl
@[simp] theorem slotA_bl (m : Md) (i : Bool) : slotA (m, .bl i) = some (.frz, .bl i) := by cases m <;> rfl
@[simp] theorem slotA_non (m : Md) : slotA (m, .non) = some (.frz, .non) := by cases m <;> rfl
@[simp] theorem slotA_tup (m : Md) (i : List D) : slotA (m, .tup i) = some (.frz, .tup i) := by cases m <;> rfl
@[simp] theorem slotA_loc (m : Md) (i : Nat) : slotA (m, .loc i) = some (.frz, .loc i) := by cases m <;> rfl
def flM : Md → Fl
  | .rd => .bor
  | _ => .frz
@[simp] theorem slotA_lst (m : Md) (i : List D) : slotA (m, .lst i) = some (flM m, .lst i) := by cases m <;> rfl
@[simp] theorem bVarR_z3 (m : Md) (d : D) (r : Ev) : bVarR 0 (some (flM m, d) :: r) st = .ok d st := by cases m <;> rfl
@[simp] theorem flM_esc : flM .esc = .frz := rfl
@[simp] theorem flM_fr : flM .fr = .frz := rfl
@[simp] theorem flM_rd : flM .rd = .bor := rfl
theorem flM_own (m : Md) : flM m ≠ .own := by cases m <;> (intro z; cases z)
/-- runs -/
theorem runD_eq {np ns : Nat} {sh : FS} {as : List (Md × D)} (h : as.length = np) : runD np ns sh as st = fin (sh (startE as ns) st) := by unfold runD; rw [if_pos h]
@[simp] theorem sFor_eq (fi : FL) (t : Tg) (b : FS) (ds : List D) (h : fi env st = .ok ds st) : sFor fi t b env st = forL t b ds env st := by unfold sFor; rw [h]
/-- one turn -/
def turnO (t : Tg) (b : FS) (ds : List D) (o : Out) : Out := match o with
  | .next e s => forL t b ds e s
  | .cont e s => forL t b ds e s
  | .brk e s => .next e s
  | o => o
@[simp] theorem turn_next (t : Tg) (b : FS) (ds : List D) (e : Ev) : turnO t b ds (.next e st) = forL t b ds e st := rfl
@[simp] theorem turn_cont (t : Tg) (b : FS) (ds : List D) (e : Ev) : turnO t b ds (.cont e st) = forL t b ds e st := rfl
@[simp] theorem turn_brk (t : Tg) (b : FS) (ds : List D) (e : Ev) : turnO t b ds (.brk e st) = .next e st := rfl
@[simp] theorem turn_ret (t : Tg) (b : FS) (ds : List D) (d : D) : turnO t b ds (.ret d st) = .ret d st := rfl
@[simp] theorem turn_exc (t : Tg) (b : FS) (ds : List D) (e : Ev) : turnO t b ds (.exc x e st) = .exc x e st := rfl
@[simp] theorem turn_stuck (t : Tg) (b : FS) (ds : List D) : turnO t b ds .stuck = .stuck := rfl
@[simp] theorem turn_ite (c : Prop) [Decidable c] (t : Tg) (b : FS) (ds : List D) (r s : Out) : turnO t b ds (if c then r else s) = if c then turnO t b ds r else turnO t b ds s := by split <;> rfl
@[simp] theorem forL_nil (t : Tg) (b : FS) : forL t b [] env st = .next env st := rfl
theorem forL_cons {t : Tg} {b : FS} {d : D} {ds : List D} {env1 : Ev} (h : t d env = some env1) : forL t b (d :: ds) env st = turnO t b ds (b env1 st) := by
  show (match t d env with | none => _ | some env1 => _) = _
  rw [h]
  rfl
@[simp] theorem forL_name (i : Nat) (b : FS) (d : D) (ds : List D) (h : i < env.length) : forL (tgName i) b (d :: ds) env st = turnO (tgName i) b ds (b (env.set i (some (.frz, d))) st) := forL_cons (by unfold tgName; rw [if_pos h])
/-- a loop by what holds between its turns -/
theorem forL_inv {t : Tg} {b : FS} (Inv : Nat → Ev → Sto → Prop) {ds : List D} (h : ∀ i d env st, ds[i]? = some d → Inv i env st → ∃ env1 env2 st2, t d env = some env1 ∧ (b env1 st = .next env2 st2 ∨ b env1 st = .cont env2 st2) ∧ Inv (i + 1) env2 st2) :
    ∀ {env : Ev} {st : Sto}, Inv 0 env st → ∃ env' st', forL t b ds env st = .next env' st' ∧ Inv ds.length env' st' := by
  have key : ∀ (k : Nat) env st, k ≤ ds.length → Inv k env st → ∃ env' st', forL t b (ds.drop k) env st = .next env' st' ∧ Inv ds.length env' st' := by
    intro k
    induction hm : ds.length - k generalizing k with
    | zero =>
      intro env st hk hi
      have e : k = ds.length := by omega
      subst e
      rw [List.drop_length]
      exact ⟨env, st, rfl, hi⟩
    | succ m ih =>
      intro env st hk hi
      have hlt : k < ds.length := by omega
      obtain ⟨env1, env2, st2, h1, h2, h3⟩ := h k ds[k] env st (List.getElem?_eq_getElem hlt) hi
      rw [List.drop_eq_getElem_cons hlt, forL_cons h1]
      rcases h2 with h2 | h2 <;> rw [h2]
      · exact ih (k + 1) (by omega) env2 st2 (by omega) h3
      · exact ih (k + 1) (by omega) env2 st2 (by omega) h3
  intro env st h0
  have := key 0 env st (Nat.zero_le _) h0
  rwa [List.drop_zero] at this
theorem rngD_get {lo hi : Int} {i : Nat} {d : D} (h : (rngD lo hi)[i]? = some d) : d = .int (lo + i) ∧ (i : Int) < hi - lo := by
  have hi' : i < (hi - lo).toNat := by rw [← rngD_len]; exact (List.getElem?_eq_some_iff.mp h).1
  unfold rngD at h
  rw [List.getElem?_map, List.getElem?_range hi'] at h
  cases h
  exact ⟨rfl, by omega⟩
@[simp] theorem iRng1D_int (f : F) (n : Int) (h : f env st = .ok (.int n) st) (h1 : n ≤ sizeLine ∧ -(2 ^ 62) ≤ n) : iRng1D f env st = .ok (rngD 0 n) st := by
  unfold iRng1D; rw [h]; show (if _ then _ else _) = _; rw [if_pos h1]
@[simp] theorem iSeq_lst (f : F) (ds : List D) (h : f env st = .ok (.lst ds) st) : iSeq f env st = .ok ds st := by unfold iSeq; rw [h]; rfl
@[simp] theorem iSeq_tup (f : F) (ds : List D) (h : f env st = .ok (.tup ds) st) : iSeq f env st = .ok ds st := by unfold iSeq; rw [h]; rfl
end
end NC

/-! ### from the head's facts to the law -/
namespace NC
open PySem L2
/-- a def of the top -/
structure DefAt (K : PySem.W.Frag) (mg : Str → Option Value) (x : Str) (st : Stmt) : Prop where
  ex : ∃ (fa : Addr) (fd : FuncData), mg x = some (.ref fa) ∧ Fun K x x st fa fd
theorem defAt_mk {K : PySem.W.Frag} {mg : Str → Option Value} {h : Heap} {x : Str} {st : Stmt} {f : Addr} {oc : Value} {od an : Option Addr} {osl : Array (Option Value)} {kV doc pm cdv ct : Value} (X : K.In h) (G : h.Ns mainGlobals mg)
    (a : PySem.W.nsIn K mainGlobals x = some (some (.ref f))) (l : K.lookup f = some ⟨oc, od, .func (PySem.W.fnOf x x (defArgs st) (defBody st) (defScope st) .none kV doc pm an cdv ct), osl⟩)
    (c : PySem.W.codeIn K cdv x = true) (k : PySem.W.keepIn K (.ref f) = true) : DefAt K mg x st := ⟨f, _, PySem.W.mg_of X G a, fun_mk l c k⟩
def MoN (P : Program) (w : World) (T : Tb) (mg : Str → Option Value) (base : Heap) (Δ : Str → Option Df) (n : Nat) : Mo := ⟨P, w, T, mg, base, interp Δ n, n, false⟩
section
variable {P : Program} {w : World} {T : Tb} {mg : Str → Option Value} {base : Heap} {Δ : Str → Option Df} {n : Nat} {x : Str} {st : Stmt} {N ps : List Str} {sh : Calls → FS}
theorem callOk_zero (F : DefAt T.K mg x st)
    (hb : ∀ (kV doc pm : Value) (an : Option Addr) (cdv ct : Value) (us : List Value), us.length = ps.length → bindArgs (PySem.W.fnOf x x (defArgs st) (defBody st) (defScope st) .none kV doc pm an cdv ct) ⟨us, []⟩ = pure (ps.zip us)) : CallOk (MoN P w T mg base Δ 0) x := by
  obtain ⟨fa, fd, h1, h2⟩ := F.ex
  exact ⟨fa, fd, ps, h1, h2.kp, h2.binds hb, (fun _ => fn_ok0 fun _ _ => rfl), fun h => Bool.noConfusion h⟩
theorem callOk_succ (F : DefAt T.K mg x st) (S : FnScope N ps (defScope st))
    (hb : ∀ (kV doc pm : Value) (an : Option Addr) (cdv ct : Value) (us : List Value), us.length = ps.length → bindArgs (PySem.W.fnOf x x (defArgs st) (defBody st) (defScope st) .none kV doc pm an cdv ct) ⟨us, []⟩ = pure (ps.zip us))
    (snd : SndB ⟨N, defScope st, none⟩ (MoN P w T mg base Δ n) (defBody st) (sh (interp Δ n))) (hΔ : Δ x = some (dfD ps.length N.length sh)) : CallOk (MoN P w T mg base Δ (n + 1)) x := by
  obtain ⟨fa, fd, h1, h2⟩ := F.ex
  exact ⟨fa, fd, ps, h1, h2.kp, h2.binds hb, (fun _ => fn_ok h2 S snd fun as s => interp_eq hΔ as s), fun h => Bool.noConfusion h⟩
theorem globInt {M : Mo} {h : Heap} {K : PySem.W.Frag} {mg : Str → Option Value} {x : Str} {i : Int} {t : Tok} (hm : M.mg = mg) (X : K.In h) (G : h.Ns mainGlobals mg) (a : PySem.W.nsIn K mainGlobals x = some (some (.int i t))) : GlobOk M x (.int i) :=
  ⟨.int i, _, by rw [hm]; exact PySem.W.mg_of X G a, ⟨t, rfl⟩, fun _ _ => .int i⟩
theorem globStr {M : Mo} {h : Heap} {K : PySem.W.Frag} {mg : Str → Option Value} {x : Str} {i : Str} {t : Tok} (hm : M.mg = mg) (X : K.In h) (G : h.Ns mainGlobals mg) (a : PySem.W.nsIn K mainGlobals x = some (some (.str i t))) : GlobOk M x (.str i) :=
  ⟨.str i, _, by rw [hm]; exact PySem.W.mg_of X G a, ⟨t, rfl⟩, fun _ _ => .str i⟩
end
theorem bn_of {K : PySem.W.Frag} {h : Heap} {mg : Str → Option Value} (X : K.In h) (G : h.Ns mainGlobals mg)
    (a : ∀ x ∈ (["len", "range", "isinstance", "int", "bool", "str", "list", "tuple", "abs", "max", "min", "sum", "all", "any", "sorted", "enumerate", "zip", "dict", "reversed", "super"] : List Str), PySem.W.nsIn K mainGlobals x = some none) {M : Mo} (hm : M.mg = mg) : Bn M := fun x hx => by
  rw [hm]
  exact PySem.W.mg_none_of X G (a x (by simpa using hx))
end NC

/-! ### objects: fields, methods, classes -/
namespace NC
open PySem L2

theorem Flds.lookup {K : PySem.W.Frag} {w : Wd} {H : Hp} {f : Str} : ∀ {fd : List (Str × D)} {fv : List (Str × V)}, Flds K w H fv fd → (∀ d, fd.lookup f = some d → ∃ v, fv.lookup f = some v ∧ Rep K w H v d) ∧ (fd.lookup f = none → fv.lookup f = none)
  | [], fv, ⟨h1, h2⟩ => by
    cases fv with
    | nil => exact ⟨fun d e => by simp at e, fun _ => rfl⟩
    | cons p r => simp at h1
  | (g, x) :: fd, fv, ⟨h1, h2⟩ => by
    cases fv with
    | nil => simp at h1
    | cons p r =>
      obtain ⟨g', v⟩ := p
      rw [List.map_cons, List.map_cons] at h1 h2
      obtain ⟨e1, e2⟩ := List.cons.inj h1
      cases h2 with
      | cons r1 r2 =>
        obtain ⟨i1, i2⟩ := Flds.lookup (f := f) (fd := fd) (fv := r) ⟨e2, r2⟩
        simp only at e1
        subst e1
        by_cases hf : f = g'
        · subst hf
          exact ⟨fun d e => by simp [List.lookup] at e; subst e; exact ⟨v, by simp [List.lookup], r1⟩, fun e => by simp [List.lookup] at e⟩
        · have hb : (f == g') = false := by simpa using hf
          simp only [List.lookup, hb]
          exact ⟨i1, i2⟩
def putD (f : Str) (d : D) : List (Str × D) → List (Str × D)
  | [] => [(f, d)]
  | (g, x) :: r => if g = f then (g, d) :: r else (g, x) :: putD f d r
theorem Flds.put {K : PySem.W.Frag} {w : Wd} {H : Hp} {f : Str} {v : V} {d : D} (r : Rep K w H v d) : ∀ {fd : List (Str × D)} {fv : List (Str × V)}, Flds K w H fv fd → Flds K w H (putF f v fv) (putD f d fd)
  | [], fv, ⟨h1, h2⟩ => by
    cases fv with
    | nil => exact ⟨rfl, .cons r .nil⟩
    | cons p r => simp at h1
  | (g, x) :: fd, fv, ⟨h1, h2⟩ => by
    cases fv with
    | nil => simp at h1
    | cons p q =>
      obtain ⟨g', y⟩ := p
      rw [List.map_cons, List.map_cons] at h1 h2
      obtain ⟨e1, e2⟩ := List.cons.inj h1
      cases h2 with
      | cons r1 r2 =>
        simp only at e1
        subst e1
        unfold putD putF
        by_cases hf : g' = f
        · rw [if_pos hf, if_pos hf]
          exact ⟨by rw [List.map_cons, List.map_cons, e2], .cons r r2⟩
        · rw [if_neg hf, if_neg hf]
          obtain ⟨i1, i2⟩ := Flds.put (f := f) r (fd := fd) (fv := q) ⟨e2, r2⟩
          exact ⟨by rw [List.map_cons, List.map_cons, i1], .cons r1 i2⟩
theorem putD_keys {f : Str} {d : D} : ∀ {fs : List (Str × D)} {p : Str × D}, p ∈ putD f d fs → p.1 = f ∨ ∃ q ∈ fs, q.1 = p.1
  | [], p, h => by simp [putD] at h; subst h; exact .inl rfl
  | (g, x) :: r, p, h => by
    unfold putD at h
    split at h
    · rename_i e
      rcases List.mem_cons.mp h with h | h
      · subst h; exact .inl e
      · exact .inr ⟨p, List.mem_cons_of_mem _ h, rfl⟩
    · rcases List.mem_cons.mp h with h | h
      · subst h; exact .inr ⟨_, List.mem_cons_self .., rfl⟩
      · rcases putD_keys h with h | ⟨q, hq, e⟩
        · exact .inl h
        · exact .inr ⟨q, List.mem_cons_of_mem _ hq, e⟩
theorem Flds.len {K : PySem.W.Frag} {w : Wd} {H : Hp} {fd : List (Str × D)} {fv : List (Str × V)} (h : Flds K w H fv fd) : fv.length = fd.length := by
  have := congrArg List.length h.1
  simpa using this

/-- a cell of the store changes -/
theorem Le.cell {w : Wd} {H : Hp} {a : Addr} {o : HO} (ha : a ∈ w.r) : Le w H w (upd H a o) := by
  refine ⟨fun _ _ e => e, fun b u e n => ?_, fun b u e => ?_, fun _ h => .inl h, fun _ h => .inl h, fun _ h => h⟩
  · rw [upd_ne (fun z => n (by rw [z]; exact ha))]; exact e
  · by_cases hb : b = a
    · rw [hb, upd_same]; exact ⟨_, rfl⟩
    · rw [upd_ne hb]; exact ⟨u, e⟩
theorem nd_get {l : List Addr} (h : l.Nodup) {i j : Nat} {a : Addr} (h1 : l[i]? = some a) (h2 : l[j]? = some a) : i = j := by
  have hi : i < l.length := by
    rcases Nat.lt_or_ge i l.length with z | z
    · exact z
    · rw [List.getElem?_eq_none z] at h1; cases h1
  exact (List.getElem?_inj hi h).mp (h1.trans h2.symm)
theorem Sim.cell {T : Tb} {B : Bs} {w : Wd} {env : Ev} {st : Sto} {σ : L2.St} {H : Hp} {n : Nat} {a : Addr} {o : HO} {c' : Cell} (s : Sim T B w env st σ H) (ha : w.r[n]? = some a) (hc : CellOk T w (upd H a o) a c') : Sim T B w env (st.set n c') σ (upd H a o) := by
  have hm : a ∈ w.r := List.mem_of_getElem? ha
  have l : Le w H w (upd H a o) := Le.cell hm
  have k := l.ok2 s.sto
  refine s.go l (fun _ z => z) ⟨by rw [List.length_set]; exact s.sto.len, s.sto.nd, fun i c b h1 h2 => ?_⟩ fun b z => ?_
  · rcases Nat.decEq n i with q | q
    · rw [List.getElem?_set_ne q] at h1
      have hb : b ≠ a := fun e => q (nd_get s.sto.nd ha (e ▸ h2))
      exact (s.sto.at_ i c b h1 h2).to k (upd_ne hb)
    · subst q
      have hlt : n < st.length := by
        rcases Nat.lt_or_ge n st.length with z | z
        · exact z
        · rw [List.getElem?_eq_none (by simpa using z)] at h1; cases h1
      rw [List.getElem?_set_self hlt] at h1
      cases h1
      rw [ha] at h2
      cases h2
      exact hc
  · obtain ⟨h1, h2⟩ := s.al b z
    refine ⟨?_, h2⟩
    rw [upd_ne (fun e => h2 (by rw [e]; exact hm))]
    exact h1

/-! ### reading a field -/
def getF (f : Str) (st : Sto) : D → R D
  | .loc n => match st[n]? with
    | some (.ins _ fs) => match fs.lookup f with
      | some d => .ok d st
      | none => .stuck
    | _ => .stuck
  | _ => .stuck
theorem getF_cases {f : Str} {st : Sto} {n : Nat} : getF f st (.loc n) = .stuck ∨ ∃ c fs d, st[n]? = some (.ins c fs) ∧ fs.lookup f = some d ∧ getF f st (.loc n) = .ok d st := by
  unfold getF
  dsimp only
  cases q : st[n]? with
  | none => exact .inl rfl
  | some z =>
    cases z with
    | ins c fs =>
      dsimp only
      cases q2 : fs.lookup f with
      | none => exact .inl rfl
      | some d => exact .inr ⟨c, fs, d, rfl, q2, rfl⟩
    | lst ds => exact .inl rfl
    | dic t kvs => exact .inl rfl
def bAttr (f : Str) (e : F) : F := fun env st => (e env st).bind fun d st1 => getF f st1 d
section
variable {G : Ct} {M : Mo} {m : Md} {ms : List Md} {X : Cx} {C : Cf} {a b c e o tg : Expr} {es : List Expr} {f g h fe fo : F} {fb : FB} {fl : FL} {p1 pos pos' apos : Pos} {i : Nat} {x : Str}
theorem lookup_mem {f : Str} {d : D} : ∀ {fs : List (Str × D)}, fs.lookup f = some d → ∃ p ∈ fs, p.1 = f
  | [], h => by simp at h
  | (g, y) :: r, h => by
    by_cases hf : f = g
    · exact ⟨_, List.mem_cons_self .., hf.symm⟩
    · have hb : (f == g) = false := by simpa using hf
      simp only [List.lookup, hb] at h
      obtain ⟨p, hp, e⟩ := lookup_mem h
      exact ⟨p, List.mem_cons_of_mem _ hp, e⟩
theorem sn_attr (he : SndE G M .rd e fe) (hb : ∀ env, attributeBase e x env (eval e env) = eval e env := by intro _; rfl) : SndE G M .esc (.Attribute e x pos) (bAttr x fe) := fun X C gd => by
  have hK : X.K = C.T.K := by rw [gd.K, gd.T]
  refine (pe_fld (he X C gd) (hb _)).imp fun σ H Q ⟨w, env, st, s, p⟩ => ⟨w, env, st, s, PostE.bind p fun d st1 w1 v1 H1 l1 s1 r1 p1 => ?_⟩
  cases d with
  | loc n =>
    obtain ⟨a, rfl, e3⟩ := RepR.loc r1
    rcases getF_cases (f := x) (st := st1) (n := n) with z | ⟨c, fs, d, q, q2, z⟩
    · rw [z] at p1; exact p1.elim
    · rw [z] at p1
      obtain ⟨C0, dx, fv, ⟨k0, k1, k2⟩, k3, k4⟩ := s1.sto.at_ n _ a q e3
      obtain ⟨v, hv, rv⟩ := (Flds.lookup (f := x) k4).1 d q2
      obtain ⟨p0, hp0, e0⟩ := lookup_mem q2
      refine ⟨a, C0, dx, fv, v, rfl, k3, by rw [hK]; exact k1, by rw [hK, ← e0]; exact k2 p0 hp0, hv, ?_⟩
      exact p1 w1 v H1 (.refl _ _) s1 rv
  | _ => exact p1.elim

/-! ### storing a field -/
def setF (cs : List Str) (f : Str) (d : D) (st : Sto) : D → Option Sto
  | .loc n => match st[n]? with
    | some (.ins c fs) => if cs.contains c = true ∧ fs.length < 1000 then some (st.set n (.ins c (putD f d fs))) else none
    | _ => none
  | _ => none
theorem setF_cases {cs : List Str} {f : Str} {d : D} {st : Sto} {n : Nat} : setF cs f d st (.loc n) = none ∨ ∃ c fs, st[n]? = some (.ins c fs) ∧ cs.contains c = true ∧ fs.length < 1000 ∧ setF cs f d st (.loc n) = some (st.set n (.ins c (putD f d fs))) := by
  unfold setF
  dsimp only
  cases q : st[n]? with
  | none => exact .inl rfl
  | some z =>
    cases z with
    | ins c fs =>
      dsimp only
      by_cases h : cs.contains c = true ∧ fs.length < 1000
      · rw [if_pos h]; exact .inr ⟨c, fs, rfl, h.1, h.2, rfl⟩
      · rw [if_neg h]; exact .inl rfl
    | lst ds => exact .inl rfl
    | dic t kvs => exact .inl rfl
def sFldD (cs : List Str) (f : Str) (fo fe : F) : FS := fun env st => (fe env st).out env fun d st1 => (fo env st1).out env fun o st2 => match setF cs f d st2 o with
  | some st3 => .next env st3
  | none => .stuck
theorem ss_fld {cs : List Str} (ho : SndE G M .rd o fo) (he : SndE G M .esc e fe) (hn : ∀ c, cs.contains c = true → ∀ C, M.T.cls c = some C → NoAttr M.T.K C x)
    (hs : ∀ env, swapsWith e (some (.Attribute o x pos')) pos.line env = pure false := by intro _; rfl) : SndS G M (.Assign [.Attribute o x pos'] e pos) (sFldD cs x fo fe) := fun X C gd => by
  have hK : X.K = C.T.K := by rw [gd.K, gd.T]
  refine (ps_fld (ho X C gd) (he X C gd) (hs _)).imp fun E σ H ⟨w, env, st, s, p⟩ => ⟨w, env, st, s, PostS.bind p fun d st1 w1 v1 H1 l1 s1 r1 p1 => ⟨w1, env, st1, s1, PostS.bind p1 fun oo st2 w2 v2 H2 l2 s2 r2 p2 => ?_⟩⟩
  cases oo with
  | loc n =>
    obtain ⟨a, rfl, e3⟩ := RepR.loc r2
    rcases setF_cases (cs := cs) (f := x) (d := d) (st := st2) (n := n) with z | ⟨c, fs, q1, q2, q3, z⟩
    · rw [z] at p2; exact p2.elim
    · rw [z] at p2
      obtain ⟨C0, dx, fv, ⟨k0, k1, k2⟩, k3, k4⟩ := s2.sto.at_ n _ a q1 e3
      have rv : Rep C.T.K w2 H2 v1 d := Rep.to (l2.ok2 s1.sto) _ _ r1
      have nn : NoAttr C.T.K C0 x := by rw [gd.T]; exact hn c q2 C0 (by rw [← gd.T]; exact k0)
      refine ⟨a, C0, dx, fv, rfl, k3, by rw [hK]; exact k1, by rw [hK]; exact nn, by rw [k4.len]; exact q3, ?_⟩
      have hm : a ∈ w2.r := List.mem_of_getElem? e3
      have k := (Le.cell (H := H2) (o := .ins C0 dx (putF x v1 fv)) hm).ok2 s2.sto
      have k5 := Flds.put (f := x) rv k4
      have hc : CellOk C.T w2 (upd H2 a (.ins C0 dx (putF x v1 fv))) a (.ins c (putD x d fs)) := ⟨C0, dx, _, ⟨k0, k1, fun p hp => by
        rcases putD_keys hp with z | ⟨q, hq, z⟩
        · rw [z]; exact nn
        · rw [← z]; exact k2 q hq⟩, upd_same, k5.1, Reps.to k _ _ k5.2⟩
      exact p2 w2 σ _ (s2.cell e3 hc)
  | _ => exact p2.elim

/-! ### a new list as an object of the store -/
def bRef (f : F) : F := fun env st => (f env st).bind fun d st1 => match d with
  | .lst ds => .ok (.loc st1.length) (st1 ++ [.lst ds])
  | _ => .stuck
theorem sn_ref (hf : SndE G M .fr e f) : SndE G M .esc e (bRef f) := fun X C gd => by
  refine (hf X C gd).imp fun σ H Q ⟨w, env, st, s0, p⟩ => ⟨w, env, st, s0, ?_⟩
  unfold bRef at p
  cases q : f env st with
  | stuck => rw [q] at p; exact p.elim
  | exc x st' => rw [q] at p; exact p
  | ok d st' =>
    rw [q] at p
    intro w' v H' l s rep
    cases d with
    | lst ds =>
      obtain ⟨a, vs, e1, e2, e3, e4, e5⟩ := rep
      subst e1
      have nb : ∀ b, H b ≠ none → b ≠ a := fun b hb z => hb (z ▸ e3)
      have nr : a ∉ w'.r := (s.al a e4).2
      let w2 : Wd := ⟨fun b => w'.S b ∧ b ≠ a, w'.r ++ [a]⟩
      have pre2 : ∀ (n : Nat) b, w'.r[n]? = some b → w2.r[n]? = some b := fun n b e => by
        show (w'.r ++ [a])[n]? = some b
        rw [List.getElem?_append_left]
        · exact e
        · rcases Nat.lt_or_ge n w'.r.length with z | z
          · exact z
          · rw [List.getElem?_eq_none z] at e; cases e
      have nm : ∀ b, b ∉ w'.r → b ≠ a → b ∉ w2.r := fun b h1 h2 z => by
        rcases List.mem_append.mp z with z | z
        · exact h1 z
        · exact h2 (List.mem_singleton.mp z)
      have ok : Ok2 w' H' w2 H' := ⟨pre2, fun _ _ e _ => e, fun b u e n1 n2 => ⟨e, fun z => n1 z.1, nm b n2 fun z => n1 (z ▸ e4)⟩⟩
      have Ba : C.B.H a = none := by
        cases q1 : C.B.H a with
        | none => rfl
        | some o => obtain ⟨o', e'⟩ := s0.le.live a o q1; rw [e3] at e'; cases e'
      have nB : ∀ b, C.B.w.S b → b ≠ a := fun b z e => s.bal b z (e ▸ Ba)
      have s' : Sim C.T C.B w2 env (st' ++ [.lst ds]) σ H' := by
        refine ⟨s.len, fun i sl e => ?_, s.dist, ⟨?_, ?_, fun i c b h1 h2 => ?_⟩, fun b z => ⟨(s.al b z.1).1, nm b (s.al b z.1).2 z.2⟩, ⟨fun n b e => pre2 n b (s.le.pre n b e), s.le.fr, s.le.live, fun b z => ?_, fun b z => s.le.S b z.1, fun b z => ⟨s.sub b z, nB b z⟩⟩, fun b z => ⟨s.sub b z, nB b z⟩, s.bal,
          fun p hp => (s.pin p hp).to ok fun a0 u e n b => ⟨e, nm a0 n fun z => b (z ▸ Ba)⟩⟩
        · have q := s.slot i sl e
          have q0 := s0.slot i sl e
          match sl, q, q0 with
          | none, _, _ => trivial
          | some (.frz, d), ⟨v, e, r⟩, _ => exact ⟨v, e, Rep.to ok _ _ r⟩
          | some (.own, d), ⟨b, us, ds, f1, f2, f3, r, f4, f5⟩, ⟨b', us', ds', g1, g2, g3, _⟩ =>
            rw [g1] at f1; cases f1
            exact ⟨_, us, ds, g1, f2, f3, Reps.to ok _ _ r, ⟨f4, nb _ (by rw [g3]; intro z; cases z)⟩, f5⟩
          | some (.bor, d), ⟨b, us, ds, f1, f2, r, f4⟩, _ => exact ⟨b, us, ds, f1, f2, Reps.to ok _ _ r, f4.to fun a0 u e n bb => ⟨e, nm a0 n fun z => bb (z ▸ Ba)⟩⟩
          | some (.exc, d), ⟨b, c, cls, dd, f, v0, ee, g1, g2, g3, g4, g5, g6, r⟩, _ => exact ⟨b, c, cls, dd, f, v0, ee, g1, g2, g3, g4, fun z => g5 z.1, nm dd g6 fun z => g5 (by rw [z]; exact e4), Rep.to ok _ _ r⟩
        · show (st' ++ [Cell.lst ds]).length = (w'.r ++ [a]).length
          rw [List.length_append, List.length_append, s.sto.len]; rfl
        · show (w'.r ++ [a]).Nodup
          refine List.nodup_append.mpr ⟨s.sto.nd, by simp, fun b hb c hc e => nr ?_⟩
          rw [List.mem_singleton.mp hc] at e
          exact e ▸ hb
        · by_cases hi : i < st'.length
          · rw [List.getElem?_append_left hi] at h1
            have h2' : w'.r[i]? = some b := by
              have := h2
              rw [show w2.r = w'.r ++ [a] from rfl, List.getElem?_append_left (by rw [← s.sto.len]; exact hi)] at this
              exact this
            exact (s.sto.at_ i c b h1 h2').to ok rfl
          · have hi2 : st'.length ≤ i := Nat.le_of_not_lt hi
            rw [List.getElem?_append_right hi2] at h1
            rw [show w2.r = w'.r ++ [a] from rfl, List.getElem?_append_right (by rw [← s.sto.len]; exact hi2), ← s.sto.len] at h2
            match hk : i - st'.length, h1, h2 with
            | 0, h1, h2 =>
              cases h1; cases h2
              exact ⟨vs, e2, Reps.to ok _ _ e5⟩
            | k + 1, h1, h2 => simp at h1
        · rcases List.mem_append.mp z with z | z
          · exact s.le.new b z
          · rw [List.mem_singleton.mp z]; exact .inr Ba
      refine p w2 (.ref a) H' ⟨fun n b e => pre2 n b (l.pre n b e), l.fr, l.live, fun b z => ?_, fun b z => l.S b z.1, fun b z => ⟨l.Sm b z, nb b (s0.al b z).1⟩⟩ s' (.loc ?_)
      · rcases List.mem_append.mp z with z | z
        · exact l.new b z
        · rw [List.mem_singleton.mp z]; exact .inr e3
      · show (w'.r ++ [a])[st'.length]? = some a
        rw [s.sto.len, List.getElem?_append_right (Nat.le_refl _), Nat.sub_self]; rfl
    | _ => exact p.elim

/-! ### methods -/
def tMethD (X : Cx) (W : WX) (k : Nat) (m : Str) (ta : TE) (t : TA) : TE := fun σ H Q => ta σ H fun x H1 => ∃ (a C dx : Addr) (fs : List (Str × V)) (f : Addr) (fd : FuncData) (ps : List Str) (sp : Sp), x = .ref a ∧ H1 a = some (.ins C dx fs) ∧ Cls X.K C ∧ Meth X.K C m f ∧ fs.lookup m = none ∧ Binds X.K fd ps [] ∧
  FnOk X.prog X.w X.K X.mg X.base (L2N.CX X.prog X.w) k f fd ps sp ∧ t σ H1 fun vs H2 => sp (.ref a :: vs) H2 Q (WE W σ)
theorem pe_methD {X : Cx} {W : WX} {k : Nat} {m : Str} {ta : TE} {t : TA} {pl : Sem Bool} (he : PE X o ta) (hr : Room k X.A) (hx : ∀ σ, PassesAt (L2N.CX X.prog X.w) X σ (WE W σ)) (ha : PA X (e :: es) t)
    (hst : starEach (e :: es) X.env = (false, eval e X.env) :: starEach es X.env) (hpl : (backTo pos (starEach es X.env)).any (·.1) = false)
    (ht : eval (.Call (.Attribute o m apos) (e :: es) [] pos) X.env = (do
      let ov ← eval o X.env
      standAt apos.atName
      let (f, first) ← holding [ov] (getMethod ov m pl)
      callWith pos f first (backTo pos (starEach (e :: es) X.env)) (backToKw pos (keywordEach [] X.env)))) :
    PE X (.Call (.Attribute o m apos) (e :: es) [] pos) (tMethD X W k m ta t) := by
  refine ⟨fun pins s σ H Q I h => ?_⟩
  refine PySem.W.methodCall_KW (pl := pl) (thn (he.run pins s σ H _ I h) fun u s1 ⟨x, H1, I1, rx, a, C, dx, fs, f, fd, ps, sp, ex, ea, c, hm, l, hb, F, q⟩ => ?_) ht
  subst ex
  obtain rfl : u = Value.ref a := rx
  refine getmeth_ok I1 ea c hm l ?_
  refine PySem.W.callWith_K (first := [.ref a]) (h₀ := X.base) I.ok.mod.kin hm.kp (thn (ha.run pos pins s1 σ H1 _ I1 q) fun us s2 ⟨vs, H2, I2, r, q2⟩ => ⟨I2.kIn, ?_⟩) hst hpl
  exact run_fnS (us := .ref a :: us) (vs := .ref a :: vs) F hr hb (hx σ) I2 (.cons rfl r) q2
theorem pe_methD0 {X : Cx} {W : WX} {k : Nat} {m : Str} {ta : TE} {pl : Sem Bool} (he : PE X o ta) (hr : Room k X.A) (hx : ∀ σ, PassesAt (L2N.CX X.prog X.w) X σ (WE W σ))
    (ht : eval (.Call (.Attribute o m apos) [] [] pos) X.env = (do
      let ov ← eval o X.env
      standAt apos.atName
      let (f, first) ← holding [ov] (getMethod ov m pl)
      callWith pos f first (backTo pos (starEach [] X.env)) (backToKw pos (keywordEach [] X.env)))) :
    PE X (.Call (.Attribute o m apos) [] [] pos) (tMethD X W k m ta tNil) := by
  refine ⟨fun pins s σ H Q I h => ?_⟩
  refine PySem.W.methodCall_KW (pl := pl) (thn (he.run pins s σ H _ I h) fun u s1 ⟨x, H1, I1, rx, a, C, dx, fs, f, fd, ps, sp, ex, ea, c, hm, l, hb, F, q⟩ => ?_) ht
  subst ex
  obtain rfl : u = Value.ref a := rx
  refine getmeth_ok I1 ea c hm l ?_
  exact PySem.W.callWith_K0 (first := [.ref a]) I1.kIn hm.kp (run_fnS (us := [.ref a]) (vs := [.ref a]) F hr hb (hx σ) I1 (.cons rfl .nil) q)
end
end NC

/-! ### methods and classes that are called -/
namespace NC
open PySem L2


structure MethOk (M : Mo) (c m x : Str) : Prop where
  ex : ∃ (C fa : Addr) (fd : FuncData) (ps : List Str), M.T.cls c = some C ∧ Meth M.T.K C m fa ∧ Binds M.T.K fd ps [] ∧ FnOk M.P M.w M.T.K M.mg M.base (L2N.CX M.P M.w) M.n fa fd ps (spOf M.T M.cl x)
/-- which def a method's name means -/
def disp (tab : List (Str × Str)) (m : Str) (st : Sto) : D → Option Str
  | .loc n => match st[n]? with
    | some (.ins c fs) => if (fs.lookup m).isNone = true then tab.lookup c else none
    | _ => none
  | _ => none
theorem disp_cases {tab : List (Str × Str)} {m : Str} {st : Sto} {n : Nat} : disp tab m st (.loc n) = none ∨ ∃ c fs x, st[n]? = some (.ins c fs) ∧ fs.lookup m = none ∧ tab.lookup c = some x ∧ disp tab m st (.loc n) = some x := by
  unfold disp
  dsimp only
  cases q : st[n]? with
  | none => exact .inl rfl
  | some z =>
    cases z with
    | ins c fs =>
      dsimp only
      by_cases h : (fs.lookup m).isNone = true
      · rw [if_pos h]
        cases q2 : tab.lookup c with
        | none => exact .inl rfl
        | some x => exact .inr ⟨c, fs, x, rfl, Option.isNone_iff_eq_none.mp h, q2, rfl⟩
      · rw [if_neg h]; exact .inl rfl
    | lst ds => exact .inl rfl
    | dic t kvs => exact .inl rfl
def bMeth (cl : Calls) (tab : List (Str × Str)) (m : Str) (fo : F) (ms : List Md) (fl : FL) : F := fun env st => (fo env st).bind fun o st1 => match disp tab m st1 o with
  | some x => (fl env st1).bind fun ds st2 => cl x ((.esc, o) :: ms.zip ds) st2
  | none => .stuck
def bMeth0 (cl : Calls) (tab : List (Str × Str)) (m : Str) (fo : F) : F := fun env st => (fo env st).bind fun o st1 => match disp tab m st1 o with
  | some x => cl x [(.esc, o)] st1
  | none => .stuck
section
variable {G : Ct} {M : Mo} {m : Md} {ms : List Md} {X : Cx} {C : Cf} {a b c e o tg : Expr} {es : List Expr} {f g h fe fo : F} {fb : FB} {fl : FL} {p1 pos pos' apos : Pos} {i : Nat} {x : Str}
theorem sn_meth {tab : List (Str × Str)} (hm : M.hot = false) (htab : ∀ c y, tab.lookup c = some y → MethOk M c x y) (ho : SndE G M .rd o fo) (ha : SndL G M ms (e :: es) fl)
    (he : ∀ env, starEach (e :: es) env = (false, eval e env) :: starEach es env := by intro _; rfl) (hpl : ∀ env, (backTo pos (starEach es env)).any (·.1) = false := by intro _; rfl) {pl : Env → Sem Bool}
    (ht : ∀ env, eval (.Call (.Attribute o x apos) (e :: es) [] pos) env = (do
      let ov ← eval o env
      standAt apos.atName
      let (f, first) ← holding [ov] (getMethod ov x (pl env))
      callWith pos f first (backTo pos (starEach (e :: es) env)) (backToKw pos (keywordEach [] env))) := by intro _; rfl) : SndE G M .esc (.Call (.Attribute o x apos) (e :: es) [] pos) (bMeth M.cl tab x fo ms fl) := fun X C gd => by
  have hK : X.K = C.T.K := by rw [gd.K, gd.T]
  refine (pe_methD (W := C.W) (ho X C gd) (gd.cold hm).2.1 (fun σ => L2N.passAt gd.tk σ) (ha X C gd) (he _) (hpl _) (ht _)).imp fun σ H Q ⟨w, env, st, s, p⟩ => ⟨w, env, st, s, PostE.bind p fun d st1 w1 v1 H1 l1 s1 r1 p1 => ?_⟩
  cases d with
  | loc n =>
    obtain ⟨a, rfl, e3⟩ := RepR.loc r1
    rcases disp_cases (tab := tab) (m := x) (st := st1) (n := n) with z | ⟨c, fs, y, q, q2, q3, z⟩
    · rw [z] at p1; exact p1.elim
    · rw [z] at p1
      obtain ⟨C0, dx, fv, ⟨k0, k1, k2⟩, k3, k4⟩ := s1.sto.at_ n _ a q e3
      obtain ⟨C1, fa, fd, ps, j0, j1, j2, j3⟩ := (htab c y q3).ex
      rw [← gd.T, k0] at j0
      cases j0
      refine ⟨a, C0, dx, fv, fa, fd, ps, spOf M.T M.cl y, rfl, k3, by rw [hK]; exact k1, by rw [gd.K]; exact j1, (Flds.lookup (f := x) k4).2 q2, by rw [gd.K]; exact j2, by rw [gd.p, gd.w, gd.K, gd.mg, gd.base]; exact j3, w1, env, st1, s1, ?_⟩
      refine PostE.bindL p1 fun ds st2 w2 vs H2 l2 s2 r2 p2 => ?_
      rw [← gd.T]
      exact ⟨(.esc, .loc n) :: ms.zip ds, w2, st2, by rw [List.map_cons, List.map_cons, zip_fst r2.len2, zip_snd r2.len2]; exact .esc (.loc (l2.pre n a e3)) r2, s2.sto, s2.al, p2.call s2⟩
  | _ => exact p1.elim
theorem sn_meth0 {tab : List (Str × Str)} (hm : M.hot = false) (htab : ∀ c y, tab.lookup c = some y → MethOk M c x y) (ho : SndE G M .rd o fo) {pl : Env → Sem Bool}
    (ht : ∀ env, eval (.Call (.Attribute o x apos) [] [] pos) env = (do
      let ov ← eval o env
      standAt apos.atName
      let (f, first) ← holding [ov] (getMethod ov x (pl env))
      callWith pos f first (backTo pos (starEach [] env)) (backToKw pos (keywordEach [] env))) := by intro _; rfl) : SndE G M .esc (.Call (.Attribute o x apos) [] [] pos) (bMeth0 M.cl tab x fo) := fun X C gd => by
  have hK : X.K = C.T.K := by rw [gd.K, gd.T]
  refine (pe_methD0 (W := C.W) (ho X C gd) (gd.cold hm).2.1 (fun σ => L2N.passAt gd.tk σ) (ht _)).imp fun σ H Q ⟨w, env, st, s, p⟩ => ⟨w, env, st, s, PostE.bind p fun d st1 w1 v1 H1 l1 s1 r1 p1 => ?_⟩
  cases d with
  | loc n =>
    obtain ⟨a, rfl, e3⟩ := RepR.loc r1
    rcases disp_cases (tab := tab) (m := x) (st := st1) (n := n) with z | ⟨c, fs, y, q, q2, q3, z⟩
    · rw [z] at p1; exact p1.elim
    · rw [z] at p1
      obtain ⟨C0, dx, fv, ⟨k0, k1, k2⟩, k3, k4⟩ := s1.sto.at_ n _ a q e3
      obtain ⟨C1, fa, fd, ps, j0, j1, j2, j3⟩ := (htab c y q3).ex
      rw [← gd.T, k0] at j0
      cases j0
      refine ⟨a, C0, dx, fv, fa, fd, ps, spOf M.T M.cl y, rfl, k3, by rw [hK]; exact k1, by rw [gd.K]; exact j1, (Flds.lookup (f := x) k4).2 q2, by rw [gd.K]; exact j2, by rw [gd.p, gd.w, gd.K, gd.mg, gd.base]; exact j3, ?_⟩
      rw [← gd.T]
      exact ⟨[(.esc, .loc n)], w1, st1, .esc (.loc e3) .nil, s1.sto, s1.al, PostE.call p1 s1⟩
  | _ => exact p1.elim

/-! a class -/
open PyProof.Rows in
theorem run_makeS {X : Cx} {CX : CXT} {k : Nat} {f C : Addr} {fd : FuncData} {ps : List Str} {sp : Sp} {dvs : List V} {ds : List Value} {E : L2.St → XK} {pins : List (Addr × Obj)} {σ : L2.St} {H : Hp} {s : Shared} {Q : VK} {us : List Value} {vs : List V} (M : Mk X.K C f) (F : FnOk X.prog X.w X.K X.mg X.base CX k f fd ps sp) (hr : Room (k + 1) X.A) (hb : Binds X.K fd ps ds) (hd : Vals dvs ds)
    (hx : PassesAt CX X σ (E σ)) (I : Inv X pins σ H s) (r : Vals vs us)
    (h : ∀ x dx, H x = none → H dx = none → dx ≠ x → sp (.ref x :: (vs ++ dvs)) (upd (upd H dx (.own x)) x (.ins C dx [])) (fun v H2 => v = .non ∧ Q (.ref x) H2) (E σ)) :
    wpAny (model X.prog X.w) X.A (call (.ref C) us) (EP X pins σ Q) X.xe s := by
  have hq := h (s.heap.objs.size + 1) s.heap.objs.size (I.hok.fresh (Nat.le_succ _)) (I.hok.fresh (Nat.le_refl _)) (Nat.ne_of_lt (Nat.lt_succ_self _))
  have I2 := Inv.made (C := C) I
  have r2 : Vals (V.ref (s.heap.objs.size + 1) :: (vs ++ dvs)) (Value.ref (s.heap.objs.size + 1) :: (us ++ ds)) := .cons rfl (r.append hd)
  have hl : (Value.ref (s.heap.objs.size + 1) :: us ++ ds).length = ps.length := by
    have e := r2.length
    rw [F.len _ _ _ _ hq] at e
    exact e.symm
  refine wpAny_call (make_map (f := f) I.kIn M.makes M.init (beq_iff_eq.mp M.fn) (codeAny_mono (F.run _ X.stack _ _ ⟨Value.ref (s.heap.objs.size + 1) :: us, []⟩ (Value.ref (s.heap.objs.size + 1) :: (us ++ ds)) _ _ (E σ) (hr.make C us [])
    (I2.env0.make C us []) (hb _ (Value.ref (s.heap.objs.size + 1) :: us) I2.kIn hl) r2 hq) fun r s' hq' => ?_))
  cases r with
  | error e => exact hx pins _ _ e s' I2 hq'
  | ok fl =>
    cases fl with
    | ret u =>
      obtain ⟨v, H', I3, rv, ev, q3⟩ := I2.after hq'
      subst ev
      exact ⟨rv, ⟨V.ref (s.heap.objs.size + 1), H', I3, rfl, q3⟩⟩
    | next => exact False.elim hq'
    | brk => exact False.elim hq'
    | cont => exact False.elim hq'
def tMakeD (X : Cx) (W : WX) (C f : Addr) (t : TA) : TE := fun σ H Q => t σ H fun vs H1 => ∃ (k : Nat) (fd : FuncData) (ps : List Str) (sp : Sp) (dvs : List V) (ds : List Value), Room (k + 1) X.A ∧ Binds X.K fd ps ds ∧ Vals dvs ds ∧ FnOk X.prog X.w X.K X.mg X.base (L2N.CX X.prog X.w) k f fd ps sp ∧
  ∀ x dx, H1 x = none → H1 dx = none → dx ≠ x → sp (.ref x :: (vs ++ dvs)) (upd (upd H1 dx (.own x)) x (.ins C dx [])) (fun v H2 => v = .non ∧ Q (.ref x) H2) (WE W σ)
open PyProof.Rows in
theorem pe_makeD {X : Cx} {W : WX} {f C : Addr} {t : TA} {p : Pos} (M : Mk X.K C f) (hg : Gl X x) (hm : X.mg x = some (.ref C)) (hx : ∀ σ, PassesAt (L2N.CX X.prog X.w) X σ (WE W σ))
    (ha : PA X (e :: es) t) (hdb : (x == ("__debug__" : Str)) = false) (he : starEach (e :: es) X.env = (false, eval e X.env) :: starEach es X.env) (hpl : (backTo pos (starEach es X.env)).any (·.1) = false) :
    PE X (.Call (.Name x p) (e :: es) [] pos) (tMakeD X W C f t) := by
  refine ⟨fun pins s σ H Q I h => ?_⟩
  refine wpAny_Call_Name_kw (ld_glob I hg hm ?_ hdb)
  refine PySem.W.callWith_K (h₀ := X.base) I.ok.mod.kin M.kp (thn (ha.run pos pins s σ H _ I h) fun us s1 ⟨vs, H1, I1, r, k, fd, ps, sp, dvs, ds, hr, hb, hd, F, q⟩ => ⟨I1.kIn, ?_⟩) he hpl
  exact run_makeS M F hr hb hd (hx σ) I1 r q
end

def mkR (c : Str) (g : List (Md × D) → Sto → R D) (as : List (Md × D)) (st : Sto) : R D := match g ((.esc, .loc st.length) :: as) (st ++ [.ins c []]) with
  | .ok .non st2 => .ok (.loc st.length) st2
  | .ok _ _ => .stuck
  | .exc x st2 => .exc x st2
  | .stuck => .stuck
/-- a class: a new object, then its __init__ -/
def dfC (c init : Str) : Df := ⟨fun cl => mkR c (cl init)⟩
structure MakeOk (M : Mo) (c : Str) (dfl : List D) : Prop where
  ex : ∃ (C fa : Addr) (fd : FuncData) (ps : List Str) (dvs : List V) (ds : List Value), M.mg c = some (.ref C) ∧ M.T.cls c = some C ∧ Cls M.T.K C ∧ Mk M.T.K C fa ∧ Binds M.T.K fd ps ds ∧ Vals dvs ds ∧ (∀ w H, Reps M.T.K w H dvs dfl) ∧
    ((∀ as st, M.cl c as st = .stuck) ∨ ∃ (k : Nat) (cl' : Calls) (init : Str), M.n = k + 1 ∧ FnOk M.P M.w M.T.K M.mg M.base (L2N.CX M.P M.w) k fa fd ps (spOf M.T cl' init) ∧ ∀ as st, M.cl c as st = mkR c (cl' init) as st)
def esc1 (d : D) : Md × D := (.esc, d)
def bMk (cl : Calls) (c : Str) (ms : List Md) (g : FL) (dfl : List D) : F := fun env st => (g env st).bind fun ds st1 => cl c (ms.zip ds ++ dfl.map esc1) st1
theorem RepL.app {K : PySem.W.Frag} {w : Wd} {H : Hp} {ms : List Md} {vs : List V} {ds : List D} {dvs : List V} {dfl : List D} (h : RepL K w H ms vs ds) (r : Reps K w H dvs dfl) : RepL K w H (ms ++ (dfl.map esc1).map (·.1)) (vs ++ dvs) (ds ++ (dfl.map esc1).map (·.2)) := by
  have h0 : ∀ {dvs dfl}, Reps K w H dvs dfl → RepL K w H ((dfl.map esc1).map (·.1)) dvs ((dfl.map esc1).map (·.2)) := by
    intro dvs dfl r
    induction dfl generalizing dvs with
    | nil => cases r; exact .nil
    | cons d l ih =>
      cases r with
      | cons r1 r2 => exact .esc r1 (ih r2)
  induction h with
  | nil => exact h0 r
  | esc h1 _ ih => exact .esc h1 ih
  | rd h1 _ ih => exact .rd h1 ih
section
variable {G : Ct} {M : Mo} {m : Md} {ms : List Md} {X : Cx} {C : Cf} {a b c e o tg : Expr} {es : List Expr} {f g h fe fo : F} {fb : FB} {fl : FL} {p1 pos pos' apos : Pos} {i : Nat} {x : Str}
theorem sn_make {dfl : List D} (hm : M.hot = false) (hc : MakeOk M x dfl) (hg : G.sc.names.lookup x = some .globalImplicit) (ha : SndL G M ms (e :: es) fl) (hdb : (x == ("__debug__" : Str)) = false := by decide)
    (he : ∀ env, starEach (e :: es) env = (false, eval e env) :: starEach es env := by intro _; rfl) (hpl : ∀ env, (backTo pos (starEach es env)).any (·.1) = false := by intro _; rfl) : SndE G M .esc (.Call (.Name x p1) (e :: es) [] pos) (bMk M.cl x ms fl dfl) := fun X C gd => by
  obtain ⟨C0, fa, fd, ps, dvs, ds0, h1, h2, h3, h4, h5, h6, h7, h8⟩ := hc.ex
  refine (pe_makeD (W := C.W) (C := C0) (f := fa) (by rw [gd.K]; exact h4) (by show X.env.scope.names.lookup _ = _; rw [gd.sc]; exact hg) (by rw [gd.mg]; exact h1) (fun σ => L2N.passAt gd.tk σ) (ha X C gd) hdb (he _) (hpl _)).imp fun σ H Q ⟨w, env, st, s, p⟩ => ⟨w, env, st, s, ?_⟩
  refine PostE.bindL p fun ds st1 w1 vs H1 l1 s1 r1 p1 => ?_
  rcases h8 with h8 | ⟨k, cl', init, hn, F, hcl⟩
  · rw [h8] at p1; exact p1.elim
  · rw [hcl] at p1
    refine ⟨k, fd, ps, spOf M.T cl' init, dvs, ds0, by rw [← hn]; exact (gd.cold hm).2.1, by rw [gd.K]; exact h5, h6, by rw [gd.p, gd.w, gd.K, gd.mg, gd.base]; exact F, fun y dx hy hdx ne => ?_⟩
    let H2 : Hp := upd (upd H1 dx (.own y)) y (.ins C0 dx [])
    let w2 : Wd := ⟨w1.S, w1.r ++ [y]⟩
    have old : ∀ b u, H1 b = some u → H2 b = some u := fun b u z => by
      show upd (upd H1 dx (.own y)) y (.ins C0 dx []) b = some u
      rw [upd_ne (ne_of_none z hy), upd_ne (ne_of_none z hdx)]; exact z
    have nr : y ∉ w1.r := fun z => by
      obtain ⟨u, q, _⟩ := s1.sto.has z
      rw [hy] at q; cases q
    have pre2 : ∀ (n : Nat) b, w1.r[n]? = some b → w2.r[n]? = some b := fun n b e => by
      show (w1.r ++ [y])[n]? = some b
      rw [List.getElem?_append_left]
      · exact e
      · rcases Nat.lt_or_ge n w1.r.length with z | z
        · exact z
        · rw [List.getElem?_eq_none z] at e; cases e
    have l2 : Le w1 H1 w2 H2 := ⟨pre2, fun b u z _ => old b u z, fun b u z => ⟨u, old b u z⟩, fun b z => by
      rcases List.mem_append.mp z with z | z
      · exact .inl z
      · rw [List.mem_singleton.mp z]; exact .inr hy, fun b z => .inl z, fun b z => z⟩
    have ok := l2.ok2 s1.sto
    have at_n : w2.r[st1.length]? = some y := by
      show (w1.r ++ [y])[st1.length]? = some y
      rw [s1.sto.len, List.getElem?_append_right (Nat.le_refl _), Nat.sub_self]; rfl
    have sto2 : Stok C.T w2 H2 (st1 ++ [.ins x []]) := by
      refine ⟨?_, ?_, fun i c b q1 q2 => ?_⟩
      · show (st1 ++ [Cell.ins x []]).length = (w1.r ++ [y]).length
        rw [List.length_append, List.length_append, s1.sto.len]; rfl
      · show (w1.r ++ [y]).Nodup
        refine List.nodup_append.mpr ⟨s1.sto.nd, by simp, fun b hb c hc e => nr ?_⟩
        rw [List.mem_singleton.mp hc] at e
        exact e ▸ hb
      · by_cases hi : i < st1.length
        · rw [List.getElem?_append_left hi] at q1
          have q2' : w1.r[i]? = some b := by
            have := q2
            rw [show w2.r = w1.r ++ [y] from rfl, List.getElem?_append_left (by rw [← s1.sto.len]; exact hi)] at this
            exact this
          have q3 := s1.sto.at_ i c b q1 q2'
          obtain ⟨u, hu, _⟩ := q3.has
          exact q3.to ok (by rw [hu]; exact old b u hu)
        · have hi2 : st1.length ≤ i := Nat.le_of_not_lt hi
          rw [List.getElem?_append_right hi2] at q1
          rw [show w2.r = w1.r ++ [y] from rfl, List.getElem?_append_right (by rw [← s1.sto.len]; exact hi2), ← s1.sto.len] at q2
          match hk : i - st1.length, q1, q2 with
          | 0, q1, q2 =>
            cases q1; cases q2
            exact ⟨C0, dx, [], ⟨by rw [gd.T]; exact h2, by rw [gd.T]; exact h3, fun p hp => by cases hp⟩, upd_same, rfl, .nil⟩
          | k + 1, q1, q2 => simp at q1
    have al2 : ∀ a, w2.S a → H2 a ≠ none ∧ a ∉ w2.r := fun b z => by
      obtain ⟨z1, z2⟩ := s1.al b z
      cases q : H1 b with
      | none => exact absurd q z1
      | some u =>
        refine ⟨(by rw [old b u q]; intro z; cases z), fun z3 => ?_⟩
        rcases List.mem_append.mp z3 with z3 | z3
        · exact z2 z3
        · rw [List.mem_singleton.mp z3, hy] at q; cases q
    show spOf M.T cl' init _ _ _ _
    rw [← gd.T]
    refine ⟨(.esc, .loc st1.length) :: (ms.zip ds ++ dfl.map esc1), w2, st1 ++ [.ins x []], ?_, sto2, al2, ?_⟩
    · have r2 := RepL.app (RepL.le l2 s1.sto r1) (by rw [gd.T]; exact h7 w2 H2)
      rw [List.map_cons, List.map_cons, List.map_append, List.map_append, zip_fst r1.len2, zip_snd r1.len2]
      exact .esc (.loc at_n) r2
    · unfold mkR at p1
      cases q : cl' init ((.esc, .loc st1.length) :: (ms.zip ds ++ dfl.map esc1)) (st1 ++ [.ins x []]) with
      | stuck => rw [q] at p1; exact p1.elim
      | exc xx st2 =>
        rw [q] at p1
        intro r H' c dx' l3 hst xr
        have l4 := l2.trans l3
        exact p1 ⟨w1.S, r⟩ H' c dx' l4 (s1.back l4 hst) xr
      | ok d st2 =>
        rw [q] at p1
        cases d with
        | non =>
          rintro v H' ⟨r, l3, hst, rep⟩
          have l4 := l2.trans l3
          cases rep
          refine ⟨rfl, p1 ⟨w1.S, r⟩ (.ref y) H' l4 (s1.back l4 hst) (.loc (l3.pre _ _ at_n))⟩
        | _ => exact p1.elim
end
end NC

/-! ### from the head's facts to the law, with classes -/
namespace NC
open PySem L2
/-- the classes by their names at the top -/
def Tx (K : PySem.W.Frag) : Tb := ⟨K, fun x => match PySem.W.nsIn K mainGlobals x with
  | some (some (.ref C)) => some C
  | _ => none⟩
theorem Tx_cls {K : PySem.W.Frag} {x : Str} {C : Addr} (h : PySem.W.nsIn K mainGlobals x = some (some (.ref C))) : (Tx K).cls x = some C := by
  show (match PySem.W.nsIn K mainGlobals x with | some (some (.ref C)) => some C | _ => none) = _
  rw [h]
structure ClsAt (K : PySem.W.Frag) (mg : Str → Option Value) (c : Str) : Prop where
  ex : ∃ C : Addr, mg c = some (.ref C) ∧ PySem.W.nsIn K mainGlobals c = some (some (.ref C)) ∧ Cls K C ∧ PySem.W.makesIn K C = true ∧ PySem.W.keepIn K (.ref C) = true
structure MethAt (K : PySem.W.Frag) (c m q : Str) (st : Stmt) : Prop where
  ex : ∃ (C fa : Addr) (fd : FuncData), PySem.W.nsIn K mainGlobals c = some (some (.ref C)) ∧ Meth K C m fa ∧ Fun K m q st fa fd
structure NoAt (K : PySem.W.Frag) (c f : Str) : Prop where
  ex : ∃ C : Addr, PySem.W.nsIn K mainGlobals c = some (some (.ref C)) ∧ NoAttr K C f
theorem clsAt_mk {K : PySem.W.Frag} {mg : Str → Option Value} {h : Heap} {c : Str} {C : Addr} (X : K.In h) (G : h.Ns mainGlobals mg) (a : PySem.W.nsIn K mainGlobals c = some (some (.ref C))) (pg : PySem.W.plainGet K C Str.empty = true) (hd : PySem.W.hasDictIn K C = true) (po : PySem.W.plainOver K C = true)
    (sa : PySem.W.findIn K (.ref C) "__setattr__" = some (some (.builtin "object.__setattr__"))) (mk : PySem.W.makesIn K C = true) (kc : PySem.W.keepIn K (.ref C) = true) : ClsAt K mg c := ⟨C, PySem.W.mg_of X G a, a, ⟨pg, hd, po, sa⟩, mk, kc⟩
theorem methAt_mk {K : PySem.W.Frag} {c m q : Str} {st : Stmt} {C f : Addr} {oc : Value} {od an : Option Addr} {osl : Array (Option Value)} {kV doc pm cdv ct : Value}
    (a : PySem.W.nsIn K mainGlobals c = some (some (.ref C))) (a1 : PySem.W.findIn K (.ref C) m = some (some (.ref f))) (i1 : PySem.W.isFn K (.ref f) = true)
    (l : K.lookup f = some ⟨oc, od, .func (PySem.W.fnOf m q (defArgs st) (defBody st) (defScope st) .none kV doc pm an cdv ct), osl⟩)
    (cd : PySem.W.codeIn K cdv q = true) (k : PySem.W.keepIn K (.ref f) = true) : MethAt K c m q st := ⟨C, f, _, a, ⟨a1, i1, k⟩, fun_mk l cd k⟩
theorem noAt_mk {K : PySem.W.Frag} {c f : Str} {C : Addr} (a : PySem.W.nsIn K mainGlobals c = some (some (.ref C))) (n : PySem.W.findIn K (.ref C) f = some none) : NoAt K c f := ⟨C, a, n⟩
theorem NoAt.no {K : PySem.W.Frag} {c f : Str} (h : NoAt K c f) {C : Addr} (e : (Tx K).cls c = some C) : NoAttr K C f := by
  obtain ⟨C', a, n⟩ := h.ex
  rw [Tx_cls a] at e; cases e; exact n
theorem noF_mk {K : PySem.W.Frag} {T : Tb} {f : Str} {cs : List Str} (h : ∀ c ∈ cs, NoAt K c f) (hT : T = Tx K) : ∀ c, cs.contains c = true → ∀ C, T.cls c = some C → NoAttr T.K C f := fun c hc C e => by
  subst hT
  exact (h c (by simpa using hc)).no e
section
variable {P : Program} {w : World} {K : PySem.W.Frag} {mg : Str → Option Value} {base : Heap} {Δ : Str → Option Df} {n : Nat} {c m x : Str} {st : Stmt} {N ps : List Str} {sh : Calls → FS}
theorem methOk_zero (A : MethAt K c m x st)
    (hb : ∀ (kV doc pm : Value) (an : Option Addr) (cdv ct : Value) (us : List Value), us.length = ps.length → bindArgs (PySem.W.fnOf m x (defArgs st) (defBody st) (defScope st) .none kV doc pm an cdv ct) ⟨us, []⟩ = pure (ps.zip us)) : MethOk (MoN P w (Tx K) mg base Δ 0) c m x := by
  obtain ⟨C, fa, fd, h1, h2, h3⟩ := A.ex
  exact ⟨C, fa, fd, ps, Tx_cls h1, h2, h3.binds hb, fn_ok0 fun _ _ => rfl⟩
theorem methOk_succ (A : MethAt K c m x st) (S : FnScope N ps (defScope st))
    (hb : ∀ (kV doc pm : Value) (an : Option Addr) (cdv ct : Value) (us : List Value), us.length = ps.length → bindArgs (PySem.W.fnOf m x (defArgs st) (defBody st) (defScope st) .none kV doc pm an cdv ct) ⟨us, []⟩ = pure (ps.zip us))
    (snd : SndB ⟨N, defScope st, none⟩ (MoN P w (Tx K) mg base Δ n) (defBody st) (sh (interp Δ n))) (hΔ : Δ x = some (dfD ps.length N.length sh)) : MethOk (MoN P w (Tx K) mg base Δ (n + 1)) c m x := by
  obtain ⟨C, fa, fd, h1, h2, h3⟩ := A.ex
  exact ⟨C, fa, fd, ps, Tx_cls h1, h2, h3.binds hb, fn_ok (T := Tx K) h3 S snd fun as s => interp_eq hΔ as s⟩
theorem makeOk_zero (A : ClsAt K mg c) (B : MethOk (MoN P w (Tx K) mg base Δ 0) c "__init__" x) : MakeOk (MoN P w (Tx K) mg base Δ 0) c [] := by
  obtain ⟨C, a1, a2, a3, a4, a5⟩ := A.ex
  obtain ⟨C', fa, fd, ps, b1, b2, b3, b4⟩ := B.ex
  rw [show (MoN P w (Tx K) mg base Δ 0).T.cls c = some C from Tx_cls a2] at b1
  cases b1
  exact ⟨C, fa, fd, ps, [], [], a1, Tx_cls a2, a3, ⟨a4, b2.at_, b2.fn, a5⟩, b3, .nil, fun _ _ => .nil, .inl fun _ _ => rfl⟩
theorem makeOk_succ (A : ClsAt K mg c) (B : MethOk (MoN P w (Tx K) mg base Δ n) c "__init__" x) (hΔ : Δ c = some (dfC c x)) : MakeOk (MoN P w (Tx K) mg base Δ (n + 1)) c [] := by
  obtain ⟨C, a1, a2, a3, a4, a5⟩ := A.ex
  obtain ⟨C', fa, fd, ps, b1, b2, b3, b4⟩ := B.ex
  rw [show (MoN P w (Tx K) mg base Δ n).T.cls c = some C from Tx_cls a2] at b1
  cases b1
  exact ⟨C, fa, fd, ps, [], [], a1, Tx_cls a2, a3, ⟨a4, b2.at_, b2.fn, a5⟩, b3, .nil, fun _ _ => .nil, .inr ⟨n, interp Δ n, x, rfl, b4, fun as s => interp_eq hΔ as s⟩⟩
end
theorem tab_nil {M : Mo} {m : Str} : ∀ c y, ([] : List (Str × Str)).lookup c = some y → MethOk M c m y := fun c y h => by cases h
theorem tab_cons {M : Mo} {m c y : Str} {l : List (Str × Str)} (h : MethOk M c m y) (t : ∀ c y, l.lookup c = some y → MethOk M c m y) : ∀ c' y', ((c, y) :: l).lookup c' = some y' → MethOk M c' m y' := fun c' y' e => by
  by_cases hc : c' = c
  · subst hc
    simp [List.lookup] at e
    subst e
    exact h
  · have hb : (c' == c) = false := by simpa using hc
    simp only [List.lookup, hb] at e
    exact t c' y' e
/-- a constant: a tuple of texts -/
theorem globTup {M : Mo} {h : Heap} {K : PySem.W.Frag} {mg : Str → Option Value} {x : Str} {p : Addr} {od : Option Addr} {its : Array Value} {n : Nat} {sl : Array (Option Value)} {xs : List Str} (hm : M.mg = mg) (hT : M.T.K = K) (X : K.In h) (G : h.Ns mainGlobals mg) (a : PySem.W.nsIn K mainGlobals x = some (some (.ref p)))
    (l : K.lookup p = some ⟨.type "tuple", od, .seq its n, sl⟩) (v : Vals (xs.map V.str) its.toList) (hz : xs.length ≤ sizeLine := by decide) : GlobOk M x (.tup (xs.map D.str)) := by
  refine ⟨.ref p, _, by rw [hm]; exact PySem.W.mg_of X G a, rfl, fun w H => .tup (xs := xs.map V.str) (.inr ⟨_, its, n, by rw [hT]; exact l, rfl, rfl, ?_, v⟩) ?_⟩
  · have := v.length
    rw [List.length_map] at this
    rw [← Array.length_toList, ← this]
    exact hz
  · have : ∀ ys : List Str, Reps M.T.K w H (ys.map V.str) (ys.map D.str) := by
      intro ys
      induction ys with
      | nil => exact .nil
      | cons y ys ih => exact .cons (.str y) ih
    exact this xs
/-- code that is never come to -/
def bNever : F := fun _ _ => .stuck
theorem sn_neverE {G : Ct} {M : Mo} {m : Md} {e : Expr} : SndE G M m e bNever := fun X C gd => (⟨fun _ _ _ _ _ _ h => False.elim h⟩ : PE X e fun _ _ _ => False).imp fun σ H Q ⟨w, env, st, s, p⟩ => p
section
variable {G : Ct} {M : Mo} {ms : List Md} {e : Expr} {es : List Expr} {fl : FL} {p1 pos : Pos} {x : Str}
theorem mk {dfl : List D} (hm : M.hot = false) (hc : MakeOk M x dfl) (ha : SndL G M ms (e :: es) fl) (h : glX G x = true := by decide +kernel) (he : ∀ env, starEach (e :: es) env = (false, eval e env) :: starEach es env := by intro _; rfl) (hpl : ∀ env, (backTo pos (starEach es env)).any (·.1) = false := by intro _; rfl) : SndE G M .esc (.Call (.Name x p1) (e :: es) [] pos) (bMk M.cl x ms fl dfl) :=
  sn_make hm hc (glX_ok h).1 ha (glX_ok h).2.1 he hpl
end
end NC

/-! ### reckoning: comprehensions, loops that return, texts -/
namespace NC
open PySem L2
abbrev tx (l : List Nat) : Str := ⟨⟨l⟩⟩
abbrev ch (c : Nat) : Str := ⟨#[c]⟩
theorem tx_len (l : List Nat) : (tx l).length = l.length := rfl
theorem tx_eq (s : Str) : s = tx s.cps.toList := rfl
theorem chrs_tx (l : List Nat) : chrs (tx l) = l.map fun c => D.str (ch c) := rfl
section
variable {t : Tg} {c : FB} {f : F} {env : Ev} {st : Sto}
theorem compL_filter (p : D → Bool) (g : D → D) : ∀ {ds : List D}, (∀ d ∈ ds, ∃ env1, t d env = some env1 ∧ c env1 st = .ok (p d) st ∧ (p d = true → f env1 st = .ok (g d) st)) → compL t c f ds env st = .ok ((ds.filter p).map g) st
  | [], _ => rfl
  | d :: ds, h => by
    obtain ⟨env1, h1, h2, h3⟩ := h d (List.mem_cons_self ..)
    have ih := compL_filter p g (ds := ds) fun x hx => h x (List.mem_cons_of_mem _ hx)
    unfold compL
    rw [h1]
    dsimp only
    rw [h2]
    cases hp : p d with
    | true =>
      rw [List.filter_cons_of_pos hp, List.map_cons]
      show (if true = true then (f env1 st).nox.bind _ else compL t c f ds env st) = _
      rw [if_pos rfl, h3 hp]
      show (compL t c f ds env st).bind _ = _
      rw [ih]
      rfl
    | false =>
      rw [List.filter_cons_of_neg (by simp [hp])]
      exact ih
theorem compL_map (g : D → D) {ds : List D} (h : ∀ d ∈ ds, ∃ env1, t d env = some env1 ∧ f env1 st = .ok (g d) st) : compL t cYes f ds env st = .ok (ds.map g) st := by
  have := compL_filter (t := t) (c := cYes) (f := f) (env := env) (st := st) (fun _ => true) g (ds := ds) fun d hd => by
    obtain ⟨env1, h1, h2⟩ := h d hd
    exact ⟨env1, h1, rfl, fun _ => h2⟩
  rwa [List.filter_eq_self.mpr fun _ _ => rfl] at this
theorem bComp_of {own : List Nat} {fi : FL} {ds xs : List D} (h : fi env st = .ok ds st) (h2 : compL t c f ds (wipeE env own) st = .ok xs st) : bComp own fi t c f env st = .ok (.lst xs) st := by
  unfold bComp
  rw [h]
  dsimp only
  rw [h2]
  rfl
/-- a loop whose body may return -/
theorem forL_ret {b : FS} (bad : D → Bool) (r : D) (P : Ev → Prop) : ∀ {ds : List D}, (∀ d ∈ ds, ∀ e, P e → ∃ e1, t d e = some e1 ∧ (if bad d = true then b e1 st = .ret r st else ∃ e2, b e1 st = .next e2 st ∧ P e2)) → ∀ {env : Ev}, P env →
    if ds.any bad = true then forL t b ds env st = .ret r st else ∃ e', forL t b ds env st = .next e' st ∧ P e'
  | [], _, env, p => by
    rw [List.any_nil, if_neg Bool.false_ne_true]
    exact ⟨env, rfl, p⟩
  | d :: ds, h, env, p => by
    obtain ⟨e1, h1, h2⟩ := h d (List.mem_cons_self ..) env p
    rw [List.any_cons, forL_cons h1]
    cases hb : bad d with
    | true =>
      rw [hb, if_pos rfl] at h2
      rw [h2]
      simp
    | false =>
      rw [hb, if_neg Bool.false_ne_true] at h2
      obtain ⟨e2, h3, h4⟩ := h2
      rw [h3, Bool.false_or, turn_next]
      exact forL_ret bad r P (fun x hx => h x (List.mem_cons_of_mem _ hx)) h4
theorem blsD_mapF {α : Type} (p : α → Bool) (l : List α) : blsD (l.map fun x => D.bl (p x)) = some (l.map p) := by
  have := blsD_map (bs := l.map p)
  rwa [List.map_map] at this
theorem kAll_map {α : Type} (p : α → Bool) (l : List α) : kAll [.lst (l.map fun x => D.bl (p x))] st = .ok (.bl (l.all p)) st := by
  unfold kAll
  dsimp only
  rw [blsD_mapF]
  simp [List.all_map]; rfl
theorem kAny_map {α : Type} (p : α → Bool) (l : List α) : kAny [.lst (l.map fun x => D.bl (p x))] st = .ok (.bl (l.any p)) st := by
  unfold kAny
  dsimp only
  rw [blsD_mapF]
  simp [List.any_map]; rfl
theorem kJoin_map (a : Str) (l : List Str) (h : (l.map (·.length)).sum + l.length * a.length ≤ 16777216) : kJoin (.str a) (.lst (l.map D.str)) st = .ok (.str (Txt.join a l)) st := by
  unfold kJoin
  dsimp only
  rw [strsD_map]
  dsimp only
  rw [if_pos h]
theorem kIn_ch (c : Nat) (z : Str) : kIn (.str (ch c)) (.str z) st = .ok (.bl (decide (c ∈ z.cps.toList))) st := by
  unfold kIn inD
  rfl
theorem kNotIn_ch (c : Nat) (z : Str) : kNotIn (.str (ch c)) (.str z) st = .ok (.bl (!decide (c ∈ z.cps.toList))) st := by
  unfold kNotIn inD
  rfl
theorem all_atom (ys : List Str) : (ys.map D.str).all D.atom = true := by
  rw [List.all_map]; exact List.all_eq_true.mpr fun x _ => rfl
theorem any_eqA (x : Str) (ys : List Str) : ((ys.map D.str).any fun y => eqA y (.str x)) = decide (x ∈ ys) := by
  rw [List.any_map]
  induction ys with
  | nil => simp
  | cons y ys ih =>
    rw [List.any_cons, ih]
    show ((y == x) || _) = _
    by_cases h : y = x
    · subst h; simp
    · have : (y == x) = false := by simpa using h
      rw [this, Bool.false_or]
      have h2 : ¬ x = y := fun e => h e.symm
      simp [h2]
theorem kIn_strsT (x : Str) (ys : List Str) : kIn (.str x) (.tup (ys.map D.str)) st = .ok (.bl (decide (x ∈ ys))) st := by
  unfold kIn inD
  dsimp only
  rw [if_pos ⟨rfl, all_atom ys⟩, any_eqA]
theorem kIn_strsL (x : Str) (ys : List Str) : kIn (.str x) (.lst (ys.map D.str)) st = .ok (.bl (decide (x ∈ ys))) st := by
  unfold kIn inD
  dsimp only
  rw [if_pos ⟨rfl, all_atom ys⟩, any_eqA]
theorem kNotIn_strsT (x : Str) (ys : List Str) : kNotIn (.str x) (.tup (ys.map D.str)) st = .ok (.bl (!decide (x ∈ ys))) st := by
  unfold kNotIn inD
  dsimp only
  rw [if_pos ⟨rfl, all_atom ys⟩, any_eqA]
theorem kNotIn_strsL (x : Str) (ys : List Str) : kNotIn (.str x) (.lst (ys.map D.str)) st = .ok (.bl (!decide (x ∈ ys))) st := by
  unfold kNotIn inD
  dsimp only
  rw [if_pos ⟨rfl, all_atom ys⟩, any_eqA]
theorem kIx_str_of {z : Str} {i : Int} {c : Nat} (hz : z.length ≤ sizeLine) (h : atI z.cps.toList i = some c) : kIx (.str z) (.int i) st = .ok (.str (ch c)) st := by
  unfold kIx
  dsimp only
  rw [if_pos hz, h]
theorem kInt_str_of {z : Str} {i : Int} (hz : z.length ≤ 640) (h : PySem.intText? z = some i) : kInt [.str z] st = .ok (.int i) st := by
  unfold kInt
  dsimp only
  rw [if_pos hz, h]
theorem kSplit_of {a b : Str} (hb : (b.length == 0) = false) (hz : a.length + 2 ≤ sizeLine) : kSplit (.str a) (.str b) st = .ok (.lst ((Txt.split a b).map D.str)) st := by
  unfold kSplit
  dsimp only
  rw [if_pos ⟨hb, hz⟩]
@[simp] theorem iVarC_s (i : Nat) (s : Slot) (r : Ev) : iVarC (i + 1) (s :: r) st = iVarC i r st := rfl
@[simp] theorem iVarC_lst (ds : List D) (r : Ev) : iVarC 0 (some (.frz, .lst ds) :: r) st = .ok ds st := rfl
@[simp] theorem iVarC_lst1 (ds : List D) (r : Ev) : iVarC 0 (some (.own, .lst ds) :: r) st = .ok ds st := rfl
@[simp] theorem iVarC_lst2 (ds : List D) (r : Ev) : iVarC 0 (some (.bor, .lst ds) :: r) st = .ok ds st := rfl
@[simp] theorem iVarC_lst3 (m : Md) (ds : List D) (r : Ev) : iVarC 0 (some (flM m, .lst ds) :: r) st = .ok ds st := by cases m <;> rfl
@[simp] theorem iVarC_tup (ds : List D) (r : Ev) : iVarC 0 (some (.frz, .tup ds) :: r) st = .ok ds st := rfl
@[simp] theorem iVarC_str (z : Str) (r : Ev) : iVarC 0 (some (.frz, .str z) :: r) st = if z.length ≤ sizeLine then .ok (chrs z) st else .stuck := rfl
@[simp] theorem sRetV_s (i : Nat) (s : Slot) (r : Ev) : sRetV (i + 1) (s :: r) st = sRetV i r st := rfl
@[simp] theorem sRetV_frz (d : D) (r : Ev) : sRetV 0 (some (.frz, d) :: r) st = .ret d st := rfl
@[simp] theorem sRetV_ownL (d : D) (r : Ev) : sRetV 0 (some (.own, d) :: r) st = .ret d st := rfl
def R.outL (r : R (List D)) (env : Ev) (k : List D → Sto → Out) : Out := match r with
  | .ok d st => k d st
  | .exc x st => .exc x env st
  | .stuck => .stuck
@[simp] theorem outL_ok (ds : List D) (k : List D → Sto → Out) : (R.ok ds st).outL env k = k ds st := rfl
@[simp] theorem outL_stuck (k : List D → Sto → Out) : R.outL .stuck env k = .stuck := rfl
@[simp] theorem outL_exc (x : Exn) (k : List D → Sto → Out) : (R.exc x st).outL env k = .exc x env st := rfl
@[simp] theorem outL_ite (c : Prop) [Decidable c] (r s : R (List D)) (k : List D → Sto → Out) : (if c then r else s).outL env k = if c then r.outL env k else s.outL env k := by split <;> rfl
theorem sFor_L (fi : FL) (t : Tg) (b : FS) : sFor fi t b env st = (fi env st).outL env fun ds st1 => forL t b ds env st1 := by unfold sFor R.outL; rfl
@[simp] theorem iVar_frz (ds : List D) (r : Ev) : iVar 0 (some (.frz, .lst ds) :: r) st = .ok ds st := rfl
@[simp] theorem iVar_bor (ds : List D) (r : Ev) : iVar 0 (some (.bor, .lst ds) :: r) st = .ok ds st := rfl
@[simp] theorem iVar_flM (m : Md) (ds : List D) (r : Ev) : iVar 0 (some (flM m, .lst ds) :: r) st = .ok ds st := by cases m <;> rfl
@[simp] theorem frz_nil (e : Ev) : frzE [] e = e := rfl
@[simp] theorem frz_cons (e : Ev) (i : Nat) (is : List Nat) : frzE (i :: is) e = match e[i]? with
  | some (some (.own, d)) => frzE is (e.set i (some (.frz, d)))
  | _ => frzE is e := rfl
@[simp] theorem sFrz_eq (is : List Nat) (f : FS) : sFrz is f env st = f (frzE is env) st := rfl
@[simp] theorem iVar_tup (ds : List D) (r : Ev) : iVar 0 (some (.frz, .tup ds) :: r) st = .ok ds st := rfl
@[simp] theorem iVar_str (z : Str) (r : Ev) : iVar 0 (some (.frz, .str z) :: r) st = if z.length ≤ sizeLine then .ok (chrs z) st else .stuck := rfl
@[simp] theorem iVar_s (i : Nat) (s : Slot) (r : Ev) : iVar (i + 1) (s :: r) st = iVar i r st := rfl
@[simp] theorem wipe_nil (e : Ev) : wipeE e [] = e := rfl
@[simp] theorem wipe_cons (e : Ev) (i : Nat) (is : List Nat) : wipeE e (i :: is) = (wipeE e is).set i none := rfl
theorem seqIx0 {α : Type} (c : α) (l : List α) : atI (c :: l) 0 = some c := atI_nat (j := 0) rfl
/-- append, extend -/
def appO (i : Nat) (env : Ev) (ds : List D) (d : D) (st : Sto) : Out := if ds.length < sizeLine then .next (env.set i (some (.own, .lst (ds ++ [d])))) st else .stuck
def appE (i : Nat) (env : Ev) (f : F) (st : Sto) : Option Slot → Out
  | some (some (.own, .lst ds)) => (f env st).out env fun d st1 => appO i env ds d st1
  | _ => .stuck
theorem sApp_E (i : Nat) (f : F) : sApp i f env st = appE i env f st env[i]? := by
  unfold sApp appE
  rfl
theorem appE_own (i : Nat) (f : F) (ds : List D) : appE i env f st (some (some (.own, .lst ds))) = (f env st).out env fun d st1 => appO i env ds d st1 := rfl
theorem appO_of (i : Nat) (ds : List D) (d : D) (h : ds.length < sizeLine) : appO i env ds d st = .next (env.set i (some (.own, .lst (ds ++ [d])))) st := if_pos h
def extO (i : Nat) (env : Ev) (ds es : List D) (st : Sto) : Out := if ds.length + es.length ≤ sizeLine then .next (env.set i (some (.own, .lst (ds ++ es)))) st else .stuck
def extD (i : Nat) (env : Ev) (ds : List D) (d : D) (st : Sto) : Out := match d with
  | .lst es => extO i env ds es st
  | _ => .stuck
def extE (i : Nat) (env : Ev) (f : F) (st : Sto) : Option Slot → Out
  | some (some (.own, .lst ds)) => (f env st).out env fun d st1 => extD i env ds d st1
  | _ => .stuck
theorem sExt_E (i : Nat) (f : F) : sExt i f env st = extE i env f st env[i]? := by
  unfold sExt extE extD extO
  rfl
theorem extE_own (i : Nat) (f : F) (ds : List D) : extE i env f st (some (some (.own, .lst ds))) = (f env st).out env fun d st1 => extD i env ds d st1 := rfl
theorem extD_lst (i : Nat) (ds es : List D) : extD i env ds (.lst es) st = extO i env ds es st := rfl
theorem extO_of (i : Nat) (ds es : List D) (h : ds.length + es.length ≤ sizeLine) : extO i env ds es st = .next (env.set i (some (.own, .lst (ds ++ es)))) st := if_pos h
/-- methods, fields, classes -/
@[simp] theorem bAttr_eq (x : Str) (e : F) : bAttr x e env st = (e env st).bind fun d st1 => getF x st1 d := rfl
@[simp] theorem bMeth_eq (cl : Calls) (tab : List (Str × Str)) (m : Str) (fo : F) (ms : List Md) (fl : FL) : bMeth cl tab m fo ms fl env st = (fo env st).bind fun o st1 => match disp tab m st1 o with
  | some x => (fl env st1).bind fun ds st2 => cl x ((.esc, o) :: ms.zip ds) st2
  | none => .stuck := rfl
@[simp] theorem bMeth0_eq (cl : Calls) (tab : List (Str × Str)) (m : Str) (fo : F) : bMeth0 cl tab m fo env st = (fo env st).bind fun o st1 => match disp tab m st1 o with
  | some x => cl x [(.esc, o)] st1
  | none => .stuck := rfl
@[simp] theorem bMk_eq (cl : Calls) (x : Str) (ms : List Md) (g : FL) (dfl : List D) : bMk cl x ms g dfl env st = (g env st).bind fun ds st1 => cl x (ms.zip ds ++ dfl.map esc1) st1 := rfl
def stO (env : Ev) : Option Sto → Out
  | some st3 => .next env st3
  | none => .stuck
@[simp] theorem sFldD_eq (cs : List Str) (x : Str) (fo fe : F) : sFldD cs x fo fe env st = (fe env st).out env fun d st1 => (fo env st1).out env fun o st2 => stO env (setF cs x d st2 o) := rfl
@[simp] theorem stO_some (st3 : Sto) : stO env (some st3) = .next env st3 := rfl
theorem getF_of {x c : Str} {n : Nat} {fs : List (Str × D)} {d : D} (h : st[n]? = some (.ins c fs)) (h2 : fs.lookup x = some d) : getF x st (.loc n) = .ok d st := by
  unfold getF
  dsimp only
  rw [h]
  dsimp only
  rw [h2]
theorem setF_of {cs : List Str} {x c : Str} {n : Nat} {fs : List (Str × D)} {d : D} (h : st[n]? = some (.ins c fs)) (h2 : cs.contains c = true) (h3 : fs.length < 1000) : setF cs x d st (.loc n) = some (st.set n (.ins c (putD x d fs))) := by
  unfold setF
  dsimp only
  rw [h]
  dsimp only
  rw [if_pos ⟨h2, h3⟩]
theorem disp_of {tab : List (Str × Str)} {m c y : Str} {n : Nat} {fs : List (Str × D)} (h : st[n]? = some (.ins c fs)) (h2 : fs.lookup m = none) (h3 : tab.lookup c = some y) : disp tab m st (.loc n) = some y := by
  unfold disp
  dsimp only
  rw [h]
  dsimp only
  rw [h2]
  exact h3
end
section
variable {t : Tg} {c : FB} {f : F} {env : Ev} {st : Sto}
theorem compL_ex (P : D → Prop) : ∀ {ds : List D}, (∀ d ∈ ds, ∃ env1 x, t d env = some env1 ∧ f env1 st = .ok x st ∧ P x) → ∃ xs, compL t cYes f ds env st = .ok xs st ∧ xs.length = ds.length ∧ ∀ x ∈ xs, P x
  | [], _ => ⟨[], rfl, rfl, fun x h => by cases h⟩
  | d :: ds, h => by
    obtain ⟨env1, x, h1, h2, h3⟩ := h d (List.mem_cons_self ..)
    obtain ⟨xs, i1, i2, i3⟩ := compL_ex P (ds := ds) fun y hy => h y (List.mem_cons_of_mem _ hy)
    refine ⟨x :: xs, ?_, by simp [i2], fun y hy => ?_⟩
    · unfold compL
      rw [h1]
      show (if true = true then (f env1 st).nox.bind _ else compL t cYes f ds env st) = _
      rw [if_pos rfl, h2]
      show (compL t cYes f ds env st).bind _ = _
      rw [i1]
      rfl
    · rcases List.mem_cons.mp hy with rfl | hy
      · exact h3
      · exact i3 y hy
theorem chs_of {P : Nat → Prop} : ∀ {xs : List D}, (∀ x ∈ xs, ∃ c, x = .str (ch c) ∧ P c) → ∃ cs : List Nat, xs = cs.map (fun c => D.str (ch c)) ∧ ∀ c ∈ cs, P c
  | [], _ => ⟨[], rfl, fun c h => by cases h⟩
  | x :: xs, h => by
    obtain ⟨c, rfl, p⟩ := h x (List.mem_cons_self ..)
    obtain ⟨cs, rfl, q⟩ := chs_of (xs := xs) fun y hy => h y (List.mem_cons_of_mem _ hy)
    refine ⟨c :: cs, rfl, fun d hd => ?_⟩
    rcases List.mem_cons.mp hd with rfl | hd
    · exact p
    · exact q d hd
theorem join_chs : ∀ cs : List Nat, Txt.join ("" : Str) (cs.map ch) = tx cs := by
  intro cs
  rw [TL.join_eq]
  have h0 : TL.tl ("" : Str) = [] := by decide +kernel
  have key : ∀ cs : List Nat, TL.joinL [] ((cs.map ch).map TL.tl) = cs := by
    intro cs
    induction cs with
    | nil => rfl
    | cons c cs ih =>
      cases cs with
      | nil => rfl
      | cons d cs => 
        show [c] ++ ([] ++ TL.joinL [] (((d :: cs).map ch).map TL.tl)) = _
        rw [ih]; rfl
  have := TL.tl_join ("" : Str) (cs.map ch)
  rw [h0, key] at this
  exact TL.ext_tl this
theorem kJoin_chs (cs : List Nat) (h : cs.length ≤ 16777216) : kJoin (.str "") (.lst (cs.map fun c => D.str (ch c))) st = .ok (.str (tx cs)) st := by
  have e : (cs.map fun c => D.str (ch c)) = (cs.map ch).map D.str := by rw [List.map_map]; rfl
  rw [e, kJoin_map, join_chs]
  have h1 : ∀ cs : List Nat, ((cs.map ch).map (·.length)).sum = cs.length := by
    intro cs
    induction cs with
    | nil => rfl
    | cons c cs ih => rw [List.map_cons, List.map_cons, List.sum_cons, ih]; show 1 + cs.length = cs.length + 1; omega
  have h2 : ("" : Str).length = 0 := by decide +kernel
  rw [h1, h2, Nat.mul_zero, Nat.add_zero]
  exact h
theorem atI_in {α : Type} {l : List α} {i : Int} (h0 : 0 ≤ i) (h1 : i < l.length) : ∃ d, atI l i = some d ∧ l[i.toNat]? = some d := by
  obtain ⟨k, rfl⟩ := Int.eq_ofNat_of_zero_le h0
  have hk : k < l.length := by omega
  exact ⟨l[k], atI_nat (List.getElem?_eq_getElem hk), List.getElem?_eq_getElem hk⟩
theorem kIx_lst_in {ds : List D} {i : Int} (h0 : 0 ≤ i) (h1 : i < ds.length) : ∃ d, kIx (.lst ds) (.int i) st = .ok d st ∧ ds[i.toNat]? = some d := by
  obtain ⟨d, h, h2⟩ := atI_in h0 h1
  exact ⟨d, kIx_lst_of h, h2⟩
theorem kIx_tup_in {ds : List D} {i : Int} (h0 : 0 ≤ i) (h1 : i < ds.length) : ∃ d, kIx (.tup ds) (.int i) st = .ok d st ∧ ds[i.toNat]? = some d := by
  obtain ⟨d, h, h2⟩ := atI_in h0 h1
  exact ⟨d, kIx_tup_of h, h2⟩
theorem kIx_str_in {z : Str} {i : Int} (hz : z.length ≤ sizeLine) (h0 : 0 ≤ i) (h1 : i < z.length) : ∃ c, kIx (.str z) (.int i) st = .ok (.str (ch c)) st ∧ z.cps.toList[i.toNat]? = some c := by
  obtain ⟨d, h, h2⟩ := atI_in (l := z.cps.toList) h0 (by rw [Array.length_toList]; exact h1)
  exact ⟨d, kIx_str_of hz h, h2⟩
end
end NC

/-! ### == of data -/
namespace NC
open PySem L2
mutual
/-- data without objects, its texts of signs -/
def D.plain : D → Bool
  | .str x => PySem.PyData.strOk x
  | .tup xs => D.plains xs
  | .lst xs => D.plains xs
  | .loc _ => false
  | _ => true
def D.plains : List D → Bool
  | [] => true
  | d :: ds => d.plain && D.plains ds
end
mutual
def D.dep : D → Nat
  | .tup xs => D.deps xs + 1
  | .lst xs => D.deps xs + 1
  | _ => 0
def D.deps : List D → Nat
  | [] => 0
  | d :: ds => max d.dep (D.deps ds)
end
mutual
theorem plain_py : ∀ d : D, d.py.canLay0 = d.plain
  | .non => rfl
  | .bl _ => rfl
  | .int _ => rfl
  | .str _ => by simp [D.py, PyData.canLay0, D.plain]
  | .loc _ => by simp [D.py, PyData.canLay0, D.plain]
  | .tup xs => by rw [D.py, PyData.canLay0, D.plain]; exact plains_py xs
  | .lst xs => by rw [D.py, PyData.canLay0, D.plain]; exact plains_py xs
theorem plains_py : ∀ ds : List D, PyData.canLayAll0 (D.pys ds) = D.plains ds
  | [] => rfl
  | d :: ds => by rw [D.pys, PyData.canLayAll0, D.plains, plain_py d, plains_py ds]
end
mutual
theorem dep_py : ∀ d : D, d.plain = true → d.py.depth = d.dep
  | .non, _ => rfl
  | .bl _, _ => rfl
  | .int _, _ => rfl
  | .str _, _ => rfl
  | .loc _, h => by simp [D.plain] at h
  | .tup xs, h => by rw [D.py, PyData.depth, D.dep, deps_py xs (by simpa [D.plain] using h)]
  | .lst xs, h => by rw [D.py, PyData.depth, D.dep, deps_py xs (by simpa [D.plain] using h)]
theorem deps_py : ∀ ds : List D, D.plains ds = true → PyData.depthAll (D.pys ds) = D.deps ds
  | [], _ => rfl
  | d :: ds, h => by
    rw [D.plains, Bool.and_eq_true] at h
    rw [D.pys, PyData.depthAll, D.deps, dep_py d h.1, deps_py ds h.2]
end
theorem shaped_of {d : D} (h : d.plain = true) (h2 : d.dep ≤ 64) : SeqAt.shaped d.py = true := by
  unfold SeqAt.shaped
  rw [plain_py, h, dep_py d h]
  simpa using h2
/-- == -/
def D.same (d e : D) : Bool := PyData.eqv d.py e.py
theorem kEq_data {d e : D} {st : Sto} (h : d.plain = true) (h2 : d.dep ≤ 64) (g : e.plain = true) (g2 : e.dep ≤ 64) : kEq d e st = .ok (.bl (d.same e)) st := by
  have s1 := shaped_of h h2
  have s2 := shaped_of g g2
  have key : eqv d e = some (d.same e) := by
    unfold D.same
    unfold eqv
    split <;> (try (simp [D.py, PyData.eqv]; done)) <;> (try (rw [if_pos ⟨s1, s2⟩]))
    · simp [D.py, PyData.eqv, BEq.beq]
    · simp [D.py, PyData.eqv, BEq.beq]
    · rename_i i j; cases i <;> cases j <;> simp [D.py, PyData.eqv]
  unfold kEq
  rw [key]
theorem kNe_data {d e : D} {st : Sto} (h : d.plain = true) (h2 : d.dep ≤ 64) (g : e.plain = true) (g2 : e.dep ≤ 64) : kNe d e st = .ok (.bl (!d.same e)) st := by
  have := kEq_data (st := st) h h2 g g2
  unfold kEq at this
  unfold kNe
  cases q : eqv d e with
  | none => rw [q] at this; cases this
  | some b => rw [q] at this; cases this; rfl
mutual
theorem same_refl : ∀ d : D, d.plain = true → d.same d = true
  | .non, _ => rfl
  | .bl b, _ => by cases b <;> rfl
  | .int i, _ => by simp [D.same, D.py, PyData.eqv]
  | .str x, _ => by simp [D.same, D.py, PyData.eqv]
  | .loc _, h => by simp [D.plain] at h
  | .tup xs, h => by rw [D.same, D.py, PyData.eqv]; exact sames_refl xs (by simpa [D.plain] using h)
  | .lst xs, h => by rw [D.same, D.py, PyData.eqv]; exact sames_refl xs (by simpa [D.plain] using h)
theorem sames_refl : ∀ ds : List D, D.plains ds = true → PyData.eqvAll (D.pys ds) (D.pys ds) = true
  | [], _ => rfl
  | d :: ds, h => by
    rw [D.plains, Bool.and_eq_true] at h
    rw [D.pys, PyData.eqvAll, Bool.and_eq_true]
    exact ⟨same_refl d h.1, sames_refl ds h.2⟩
end
mutual
/-- no truth value, no object within -/
def D.noB : D → Bool
  | .bl _ => false
  | .loc _ => false
  | .tup xs => D.noBs xs
  | .lst xs => D.noBs xs
  | _ => true
def D.noBs : List D → Bool
  | [] => true
  | d :: ds => d.noB && D.noBs ds
end
mutual
theorem same_eq : ∀ d e : D, d.noB = true → e.noB = true → d.same e = true → d = e
  | .non, e, _, h2, h => by cases e <;> first | rfl | (simp [D.same, D.py, PyData.eqv, D.noB] at h h2)
  | .bl _, e, h1, _, _ => by simp [D.noB] at h1
  | .loc _, e, h1, _, _ => by simp [D.noB] at h1
  | .int i, e, _, h2, h => by cases e <;> simp [D.same, D.py, PyData.eqv, D.noB] at h h2; subst h; rfl
  | .str i, e, _, h2, h => by cases e <;> simp [D.same, D.py, PyData.eqv, D.noB] at h h2; subst h; rfl
  | .tup xs, e, h1, h2, h => by
    cases e with
    | tup ys =>
      rw [D.same, D.py, D.py, PyData.eqv] at h
      rw [D.noB] at h1 h2
      rw [sames_eq xs ys h1 h2 h]
    | _ => simp [D.same, D.py, PyData.eqv, D.noB] at h h2
  | .lst xs, e, h1, h2, h => by
    cases e with
    | lst ys =>
      rw [D.same, D.py, D.py, PyData.eqv] at h
      rw [D.noB] at h1 h2
      rw [sames_eq xs ys h1 h2 h]
    | _ => simp [D.same, D.py, PyData.eqv, D.noB] at h h2
theorem sames_eq : ∀ ds es : List D, D.noBs ds = true → D.noBs es = true → PyData.eqvAll (D.pys ds) (D.pys es) = true → ds = es
  | [], [], _, _, _ => rfl
  | [], e :: es, _, _, h => by simp [D.pys, PyData.eqvAll] at h
  | d :: ds, [], _, _, h => by simp [D.pys, PyData.eqvAll] at h
  | d :: ds, e :: es, h1, h2, h => by
    rw [D.noBs, Bool.and_eq_true] at h1 h2
    rw [D.pys, D.pys, PyData.eqvAll, Bool.and_eq_true] at h
    rw [same_eq d e h1.1 h2.1 h.1, sames_eq ds es h1.2 h2.2 h.2]
end
open Classical in
theorem same_dec {d e : D} (p : d.plain = true) (h1 : d.noB = true) (h2 : e.noB = true) : d.same e = decide (d = e) := by
  by_cases h : d = e
  · subst h; rw [same_refl d p]; simp
  · cases q : d.same e with
    | true => exact absurd (same_eq d e h1 h2 q) h
    | false => simp [h]
theorem plains_all {ds : List D} (h : ∀ d ∈ ds, d.plain = true) : D.plains ds = true := by
  induction ds with
  | nil => rfl
  | cons d ds ih => rw [D.plains, h d (List.mem_cons_self ..), ih fun x hx => h x (List.mem_cons_of_mem _ hx)]; rfl
theorem noBs_all {ds : List D} (h : ∀ d ∈ ds, d.noB = true) : D.noBs ds = true := by
  induction ds with
  | nil => rfl
  | cons d ds ih => rw [D.noBs, h d (List.mem_cons_self ..), ih fun x hx => h x (List.mem_cons_of_mem _ hx)]; rfl
theorem deps_all {ds : List D} {n : Nat} (h : ∀ d ∈ ds, d.dep ≤ n) : D.deps ds ≤ n := by
  induction ds with
  | nil => exact Nat.zero_le _
  | cons d ds ih =>
    rw [D.deps]
    exact Nat.max_le.mpr ⟨h d (List.mem_cons_self ..), ih fun x hx => h x (List.mem_cons_of_mem _ hx)⟩
end NC

/-! ### own exceptions: super().__init__(text); self.f = v -/
namespace NC
open PySem L2 PySem.Spec PyProof.Rows PySem.Calls

/-- what an exception's __init__ leaves -/
def spEx (C : Addr) (fld : Str) : Sp := fun vs H Q E => ∃ (a : Addr) (v : V), vs = [.ref a, v] ∧ H a = some (exo a C none) ∧ ∀ d, H d = none → d ≠ a → Q .non (upd (upd H d (exd d [(fld, v)])) a (exo a C (some d)))

structure ExAt (P : Program) (K : PySem.W.Frag) (C fI : Addr) (fd : FuncData) (prm fld : Str) : Prop where
  T : OexC K C
  ex : ∃ (qual : Str) (params : Arguments) (scope : Scope) (kV doc pm ct oc : Value) (an od : Option Addr) (osl : Array (Option Value)) (cda cc : Addr) (msg : Str) (j : Nat) (p0 p1 p2 p3 p4 p5 p6 p7 p8 p9 : Pos)
    (vs : Array Value) (file : Str) (tf : Tok) (ccl cl : Value) (cdd cld : Option Addr) (ccs csl : Array (Option Value)) (ar : Arg),
    fd = PySem.W.ksFn "__init__" qual params [.Expr (.Call (.Attribute (.Call (.Name "super" p0) [] [] p1) "__init__" p2) [.Constant (.str msg) j p3] [] p4) p5, .Assign [.Attribute (.Name "self" p6) fld p7] (.Name prm p8) p9] scope .none kV doc pm an (.ref cda) ct cc ∧
    K.lookup fI = some ⟨oc, od, .func fd, osl⟩ ∧ PySem.W.codeIn K (.ref cda) qual = true ∧ K.lookup cda = some ⟨ccl, cdd, .fields vs, ccs⟩ ∧ vs[2]? = some (.str file tf) ∧ ((P.main.file : Str) == file) = true ∧
    K.lookup cc = some ⟨cl, cld, .cell (some (.ref C)), csl⟩ ∧ (params.posonlyargs ++ params.args).head? = some ar ∧ ar.arg = "self" ∧
    NdefX.NScope ["self", prm, "__class__"] ["self", prm] ["__class__"] scope ∧ scope.names.lookup ("super" : Str) = some .globalImplicit ∧
    (∀ env : Env, ∃ pl : Sem Bool, eval (.Call (.Attribute (.Call (.Name "super" p0) [] [] p1) "__init__" p2) [.Constant (.str msg) j p3] [] p4) env = (do
      let ov ← attributeBase (.Call (.Name "super" p0) [] [] p1) "__init__" env (eval (.Call (.Name "super" p0) [] [] p1) env)
      standAt p2.atName
      let (f, first) ← holding [ov] (getMethod ov "__init__" pl)
      callWith p4 f first (backTo p4 (starEach [.Constant (.str msg) j p3] env)) []))
  sub : PySem.W.mroIn K C (.ref C) = some true
  sup : PySem.W.nsIn K mainGlobals "super" = some none
  opq : PySem.W.nsIn K cStatics "thirdparty.any" = some none
  nxt : PySem.W.ks_superIn K C C "__init__" = some (some (.builtin "ValueError.__init__"))
  isV : PySem.W.subIn K (.ref C) (.type "ValueError") = some true
  top : (P.main.scope.names.lookup ("super" : Str)).isSome = false
  nof : PySem.W.findIn K (.ref C) fld = some none
  ne : prm ≠ "self"
  db : (prm == ("__debug__" : Str)) = false
  cdt : (prm == ("__classdict__" : Str)) = false

theorem exc_init_ok {P : Program} {w : World} {K : PySem.W.Frag} {mg : Str → Option Value} {base : Heap} {CX : CXT} {C fI : Addr} {fd : FuncData} {prm fld : Str} (X : ExAt P K C fI fd prm fld) : FnOk P w K mg base CX 0 fI fd ["self", prm] (spEx C fld) := by
  obtain ⟨T, ⟨qual, params, scope, kV, doc, pm, ct, oc, an, od, osl, cda, cc, msg, j, p0, p1, p2, p3, p4, p5, p6, p7, p8, p9, vs0, file, tf, ccl, cl, cdd, cld, ccs, csl, ar, rfl, l, cd, hcode, hvs, hfile, hcell, hp, har, S, hks, hev⟩, hsub, hsup, hopq, hnxt, hisV, htop, hnof, hne, hdb, hcdt⟩ := X
  refine ⟨fun vs H Q E ⟨a, v, e, _⟩ => by rw [e]; rfl, fun A outer s H args us vs Q E hr e0 hb hv ⟨a, v, evs, ea, q⟩ => ?_⟩
  subst evs
  cases hv with
  | @cons _ u1 _ us1 ra hv1 =>
  cases hv1 with
  | @cons _ u2 _ us2 rv hv2 =>
  cases hv2
  obtain rfl : u1 = Value.ref a := ra
  have KX : K.In s.heap := e0.mod.kin.keeps fun b o e => (e0.bs b o e).1
  have lim : s.heap.NoLimit := e0.mod.nolimit.keeps fun b o e => (e0.bs b o e).1
  let Fn0 : NdefX.NF := ⟨"__init__", qual, params, [.Expr (.Call (.Attribute (.Call (.Name "super" p0) [] [] p1) "__init__" p2) [.Constant (.str msg) j p3] [] p4) p5, .Assign [.Attribute (.Name "self" p6) fld p7] (.Name prm p8) p9], scope, [("__class__", cc)], cda⟩
  let env : Env := NdefX.envF Fn0 fI s.heap.objs.size
  have hself : scope.names.lookup ("self" : Str) = some .local := S.par _ (by simp)
  have hprm : scope.names.lookup prm = some .local := S.par _ (by simp)
  have hcls : scope.names.lookup ("__class__" : Str) = some .free := S.frk _ (by simp)
  refine ks_codeAny_call_defAt (fd := PySem.W.ksFn "__init__" qual params Fn0.body scope .none kV doc pm an (.ref cda) ct cc) (body := Fn0.body) (binds := (["self", prm] : List Str).zip [.ref a, u2]) hr.depth (KX _ _ l) rfl lim (PySem.W.codeRec_of KX cd) rfl hb S.nocell (fun y hy => ?_) (fun h₁ hns kp => ?_) S.co S.gen S.kind
  · have : y.1 ∈ (["self", prm] : List Str) := (List.of_mem_zip hy).1
    exact S.par _ this
  show _root_.PySem.wpAt (model P w) (A.deeper env) (.func Fn0.body env) (execs Fn0.body env) _ _ _
  let X : Cx := NdefX.ncx CX P w K mg base ["self", prm, "__class__"] Fn0 fI A outer s H E
  have cells : NdefX.CellsAt Fn0.cl ["__class__"] [none] s.heap H := by
    refine ⟨rfl, fun y c e => ?_, fun x y c e1 e2 => ?_, fun i y e => ?_⟩
    · by_cases hy : y = ("__class__" : Str)
      · subst hy
        simp [Fn0, List.lookup] at e
        subst e
        have hbase : base.get? cc = some ⟨cl, cld, .cell (some (.ref C)), csl⟩ := e0.mod.kin _ _ hcell
        exact ⟨(e0.bs _ _ hbase).2, some (.ref C), ⟨_, KX _ _ hcell, rfl⟩⟩
      · have hb : (y == ("__class__" : Str)) = false := by simpa using hy
        simp [Fn0, List.lookup, hb] at e
    · have key : ∀ z : Str, List.lookup z Fn0.cl = some c → z = ("__class__" : Str) := fun z e => by
        by_cases hz : z = ("__class__" : Str)
        · exact hz
        · have hb : (z == ("__class__" : Str)) = false := by simpa using hz
          simp [Fn0, List.lookup, hb] at e
      rw [key x e1, key y e2]
    · match i, e with
      | 0, e =>
        cases e
        exact ⟨cc, by simp [Fn0, List.lookup], fun v e2 => by cases e2⟩
      | i + 1, e => simp at e
  have I0 : Inv X [] (NdefX.startF ["self", prm, "__class__"] [.ref a, v] [none]) H { s with heap := h₁, toks := s.toks + 2 } := NdefX.inv_startN S hr.hd e0 rfl (.cons rfl (.cons rv .nil)) cells hns kp
  have hσ : NdefX.startF ["self", prm, "__class__"] [.ref a, v] [none] = [some (.ref a), some v, none] := rfl
  rw [hσ] at I0
  have K1 : K.In h₁ := KX.keeps kp
  obtain ⟨nm, qq, NN, bs, bm, sn, sub, ab, col, dd, k0, k1, k2, k3, k5, hC, hbm⟩ := T.cls
  have hcl : PySem.W.clsIn K C = some { name := nm, bases := bs, mro := .ref C :: bm, ns := NN, qualname := qq, hasDict := true, slotNames := sn, subclasses := sub, abstract := ab, collection := col, hasDel := false } := by unfold PySem.W.clsIn; rw [hC] <;> rfl
  obtain ⟨pl, hev⟩ := hev env
  have hint : interactive env = false := by
    unfold interactive
    have : env.scope.kind = .function := S.kind
    simp [this]
  refine ks_wpAt_execs_cons (ks_wpAt_Expr_any (ks_wpAt_MethodCall (pl := pl) ?_ hev) hint rfl)
  refine ks_wpAt_super_base (env := env) (f := fI) (cc := cda) (ar := ar) hks hcls rfl rfl (K1 _ _ l) rfl hp rfl (K1 _ _ hcode) rfl hvs hfile htop ?_
  obtain ⟨mb, b1, b2⟩ := I0.mod.blt
  refine PySem.W.ks_loadName_global S.kind hks (Calls.loadGlobal_builtin (I0.mod.glob.keeps I0.bk) (PySem.W.mg_none_of e0.mod.kin e0.mod.glob hsup) (b1.keeps I0.bk) ((b2 _ (by decide)).trans PyProof.Rows.Boot.«super») ⟨rfl, ?_⟩)
  refine wpAny_loadName_free S.kind hcls rfl ⟨_, K1 _ _ hcell, rfl⟩ ?_
  rw [har]
  have hne' : (("self" : Str) == prm) = false := by simpa using Ne.symm hne
  refine wpAny_loadName_local S.kind hself hns (v := .ref a) (by simp [List.lookup, hne']) ?_
  have gC : h₁.get? C = some _ := K1 _ _ hC
  refine ks_wpAny_isType_cls gC rfl ⟨rfl, ?_⟩
  obtain ⟨t1, hx⟩ := exo_at I0.hok ea
  have hxC : a ≠ C := fun z => by
    rw [z, gC] at hx
    cases hx
  refine ks_wpAny_call_super gC rfl hx rfl (fun c e => by cases e) (PySem.W.looks_mroIn K1 hsub) fun h₂ hso kp2 => ?_
  have I2 : Inv X [] [some (.ref a), some v, none] H { s with heap := h₂, toks := s.toks + 2 } := I0.kept (t' := s.toks + 2) kp2
  have K2 : K.In h₂ := K1.keeps kp2
  have hT : PySem.W.Looks (model P w) h₂ (typeOf (.ref a)) (.ref C) := fun A Q E s k q => wpAny_typeOf_ref (k _ _ (kp2 _ _ hx)) q
  have hI : PySem.W.Looks (model P w) h₂ (isInstance (.ref a) (.type "ValueError")) true := hT.andThen (PySem.W.looks_subIn K2 hisV)
  have hm : PySem.W.alongIn K ("__init__" : Str) (((.ref C :: bm : List Value).dropWhile (· != .ref C)).drop 1) = some (some (.builtin "ValueError.__init__")) := by
    have := hnxt
    unfold PySem.W.ks_superIn at this
    rw [hcl] at this
    exact this
  refine PySem.W.kxs_getMethod PySem.W.kxs_ValueError hso (PySem.W.looks_opaque K2 hopq) (l₀ := .ref C :: bm) (fun A Q E s k q => wpAny_bind ((PySem.W.looks_clsIn K2 hcl) A _ E s k (wpAny_pure q))) rfl K2 hm hI hxC (by decide) ?_
  have kp3 : ∀ b o, h₂.get? b = some o → (h₂.push (PySem.W.kxs_mw "ValueError.__init__" a)).get? b = some o := fun b o e => Heap.get?_push_of_some _ e
  have hu : (h₂.push (PySem.W.kxs_mw "ValueError.__init__" a)).get? h₂.objs.size = some (PySem.W.kxs_mw "ValueError.__init__" a) := Heap.get?_push_at rfl rfl
  have I3 : Inv X [] [some (.ref a), some v, none] H { s with heap := h₂.push (PySem.W.kxs_mw "ValueError.__init__" a), toks := s.toks + 2 + 1 + 1 } := I2.kept (t' := s.toks + 2 + 1 + 1) kp3
  have hx3 := kp3 _ _ (kp2 _ _ hx)
  have hC3 := kp3 _ _ (kp2 _ _ gC)
  show wpAny _ _ (callWith p4 (.ref h₂.objs.size) [] ((false, eval (.Constant (.str msg) j p3) env) :: []) []) _ _ _
  refine PySem.W.kxs_callWith (i := "ValueError.__init__") (x := a) rfl (evalArgs_plain (Calls.spliced_cons (Calls.Constant_str (Calls.spliced_nil ⟨hu, ?_⟩))))
  have FB := F.excBase_ValueError
  refine wpAny_call (codeAny_of_tree ?_)
  show wpAny _ _ (callAny (.ref h₂.objs.size) ⟨[.str msg _], []⟩) _ _ _
  simp only [callAny]
  refine wpAny_bind (wpAny_load hu ?_)
  simp only [PySem.W.kxs_mw, show (Value.type "method-wrapper" == Value.type "method" || Value.type "method-wrapper" == Value.type "builtin_function_or_method" || Value.type "method-wrapper" == Value.type "method-wrapper") = true by decide, if_true]
  refine PySem.W.KFB.if_so (by decide) ?_
  refine wpAny_bind (PySem.W.check_bound_init FB.toExcCallFacts hC3 hx3 rfl ?_)
  refine wpAny_bind (wpAny_pure (wpAny_pure ?_))
  refine ⟨plainId_quiet FB.init.plain _, codeAny_builtin FB.initEntry ?_⟩
  refine PySem.W.exc_init_tree (cls := .ref C) (t0 := t1) (dv := none) (c2 := .none) (c3 := .none) (b4 := .bool false) hx3 (by rw [sizeLine_eq]; show 1 ≤ 16777216; omega) fun h4 k4 x4 _ => ?_
  have J0 : Inv X [] [some (.ref a), some v, none] (upd H a (exo a C none)) { s with heap := h4, toks := s.toks + 2 + 1 + 1 } := I3.write (t' := s.toks + 2 + 1 + 1) (x := a) (e := a) (o := exo a C none) (by rw [ea]; exact True.intro) (.inl rfl) k4 ⟨_, x4⟩ (exo_ok x4)
  have eu : upd H a (exo a C none) = H := by
    funext b
    by_cases hbb : b = a
    · rw [hbb, upd_same, ea]
    · rw [upd_ne hbb]
  rw [eu] at J0
  show _root_.PySem.wpAt (model P w) (A.deeper env) (.func Fn0.body env) (execs [.Assign [.Attribute (.Name "self" p6) fld p7] (.Name prm p8) p9] env) _ _ _
  refine wpAt_of_wpAny ?_
  have pself : PE X (.Name "self" p6) (tVar 0) := pe_var (i := 0) (x := "self") rfl (.inl hself)
  have pprm : PE X (.Name prm p8) (tVar 1) := pe_var (i := 1) (x := prm) rfl (.inl hprm) hdb hcdt
  have ps := pss_one (ps_ost (f := fld) (p' := p7) (pos := p9) pself pprm)
  have run := ps.run [] { s with heap := h4, toks := s.toks + 2 + 1 + 1 } [some (.ref a), some v, none] H { nx := fun _ H' => Q .non H', rt := Q } J0
    ⟨v, rfl, .ref a, rfl, a, C, rfl, T, hnof, .inl ⟨ea, fun dx n ne => q dx n ne⟩⟩
  refine wpAny_mono run (fun fl s' hs => ?_) fun e s' hs => hs
  have fin : ∀ {σ' : L2.St} {H' : Hp} {v : V} {u : Value}, Inv X [] σ' H' s' → L2.RelV v u → Q v H' → CE outer P w H s Q u s' :=
    fun {σ' H' v u} J rv q => ⟨v, H', J.os, J.bare, J.base, J.hok, rv, q⟩
  cases fl with
  | ret u =>
    obtain ⟨v, σ', H', J, rv, q⟩ := hs
    exact fin J rv q
  | next =>
    obtain ⟨σ', H', J, q⟩ := hs
    exact fin (v := V.non) (u := Value.none) J rfl q
  | brk =>
    obtain ⟨_, _, _, q⟩ := hs
    exact False.elim q
  | cont =>
    obtain ⟨_, _, _, q⟩ := hs
    exact False.elim q
end NC

/-! ### raise, try -/
namespace NC
open PySem L2 PySem.Spec PyProof.Rows
theorem pmk_ex {X : Cx} {C fI : Addr} {fd : FuncData} {prm fld x : Str} {e : Expr} {es : List Expr} {ta : TA} {p pos : Pos} (Ex : ExAt X.prog X.K C fI fd prm fld) (iC : PySem.W.findIn X.K (.ref C) "__init__" = some (some (.ref fI))) (tI : PySem.W.typeIn X.K (.ref fI) = some (.type "function"))
    (hr : Room 1 X.A) (hb : Binds X.K fd ["self", prm] []) (hg : Gl X x) (hm : X.mg x = some (.ref C)) (ha : PA X (e :: es) ta) (hdb : (x == ("__debug__" : Str)) = false)
    (he : starEach (e :: es) X.env = (false, eval e X.env) :: starEach es X.env) (hpl : (backTo pos (starEach es X.env)).any (·.1) = false) :
    L2N.PMk X (.Call (.Name x p) (e :: es) [] pos) (fun σ H Q => ta σ H fun vs H1 => ∃ v, vs = [v] ∧ ∀ d, H1 d = none → Q (.ref C) (some d) (upd H1 d (.xd [(fld, v)]))) := by
  intro pins s σ H Q I h
  have T := Ex.T
  have F1 := exc_init_ok (w := X.w) (mg := X.mg) (base := X.base) (CX := L2N.CX X.prog X.w) Ex
  obtain ⟨nm, q, N, bs, bm, sn, sub, ab, col, dd, k0, k1, k2, k3, k5, hC, hbm⟩ := T.cls
  refine wpAny_Call_Name_kw (ld_glob I hg hm ?_ hdb)
  refine PySem.W.callWith_K (h₀ := X.base) I.ok.mod.kin T.kC (thn (ha.run pos pins s σ H _ I h) fun us s1 ⟨vs, H1, I1, r1, v, hv, q1⟩ => ⟨I1.kIn, ?_⟩) he hpl
  subst hv
  show wpAny _ _ (call (.ref C) us) _ _ _
  obtain ⟨hp, g, dr, tk, os⟩ := s1
  have hsz : hp.objs.size ≤ hp.objs.size + 1 := Nat.le_succ _
  have hn : H1 (hp.objs.size + 1) = none := I1.hok.fresh hsz
  have hq : spEx C fld (.ref (hp.objs.size + 1) :: [v]) (upd H1 (hp.objs.size + 1) (exo (hp.objs.size + 1) C none)) (fun w H2 => w = .non ∧ ∃ (d : Addr), H2 (hp.objs.size + 1) = some (exo (hp.objs.size + 1) C (some d)) ∧ H2 d = some (exd d [(fld, v)]) ∧ H1 d = none ∧ upd (del H2 (hp.objs.size + 1)) d (.xd [(fld, v)]) = upd H1 d (.xd [(fld, v)])) (fun _ _ _ => False) := by
    refine ⟨_, v, rfl, upd_same, fun d hd hda => ⟨rfl, d, upd_same, by rw [upd_ne hda, upd_same], by rw [upd_ne hda] at hd; exact hd, ?_⟩⟩
    funext b
    by_cases hbd : b = d
    · rw [hbd, upd_same, upd_same]
    · rw [upd_ne hbd, upd_ne hbd]
      by_cases hba : b = hp.objs.size + 1
      · rw [hba, del_same, hn]
      · rw [del_ne hba, upd_ne hba, upd_ne hbd, upd_ne hba]
  have kk : ∀ b o, hp.get? b = some o → ((hp.push (PySem.W.kdv_tup us)).push (PySem.HandSPX.excO C hp.objs.size)).get? b = some o := fun b o e => Heap.get?_push_of_some _ (Heap.get?_push_of_some _ e)
  have hget : ((hp.push (PySem.W.kdv_tup us)).push (PySem.HandSPX.excO C hp.objs.size)).get? (hp.objs.size + 1) = some (PySem.HandSPX.excO C hp.objs.size) := by heap_get
  have I2 : Inv X pins σ (upd H1 (hp.objs.size + 1) (exo (hp.objs.size + 1) C none)) ⟨(hp.push (PySem.W.kdv_tup us)).push (PySem.HandSPX.excO C hp.objs.size), g, dr, tk, os⟩ :=
    I1.laid (t' := tk) (a := hp.objs.size + 1) (o := exo (hp.objs.size + 1) C none) (h' := (hp.push (PySem.W.kdv_tup us)).push (PySem.HandSPX.excO C hp.objs.size)) kk hsz (exo_ok hget)
  have r2 : Vals (V.ref (hp.objs.size + 1) :: [v]) (Value.ref (hp.objs.size + 1) :: us) := .cons rfl r1
  have hlu : us.length = 1 := r1.length.symm
  have hb2 := hb ⟨(hp.push (PySem.W.kdv_tup us)).push (PySem.HandSPX.excO C hp.objs.size), g, dr, tk, os⟩ (Value.ref (hp.objs.size + 1) :: us) I2.kIn (by rw [List.append_nil, List.length_cons, hlu]; rfl)
  rw [List.append_nil] at hb2
  refine wpAny_call (PySem.HandSPX.call_own F.excBase_ValueError (fun Y => PySem.HandSPX.refsVE_contains Y bm hbm) (I1.kIn _ _ hC) (PySem.W.looks_findIn I1.kIn iC) (fun self => PySem.W.bind_fn I1.kIn self tI) (by rw [hlu, sizeLine_eq]; omega)
    (codeAny_mono (F1.run _ X.stack _ _ ⟨Value.ref (hp.objs.size + 1) :: us, []⟩ (Value.ref (hp.objs.size + 1) :: us) _ _ (fun _ _ _ => False) (hr.make C us []) (I2.env0.make C us []) hb2 r2 hq) fun r s' hq' => ?_))
  cases r with
  | error er =>
    obtain ⟨_, _, _, _, _, _, _, _, _, _, _, _, z⟩ := (show L2N.CX X.prog X.w X.stack _ _ (fun _ _ _ => False) er s' from hq')
    exact z.elim
  | ok fl =>
    cases fl with
    | ret u =>
      obtain ⟨w2, H2, os2, bare2, un2, hok2, rv, ev, d, ea, ed, hd1, eH⟩ := hq'
      subst ev
      obtain ⟨h2, g2, d2, t2, os'⟩ := s'
      refine ⟨rv, ?_⟩
      obtain ⟨t0, G, J, kG, ge, hoe, na⟩ := mk_end0 (d2 := d2) (t2 := t2) I1 hsz kk un2 hok2 os2 bare2 ea ed hd1
      exact ⟨_, _, _, ⟨G, g2, d2, t2, os'⟩, _, .ref C, some d, rfl, J, kG, ge, hoe, ⟨rfl, rfl, fun vs0 e0 => by cases e0; rfl⟩, rfl, rfl, na, rfl, bare2, raises_own T.exC T.tyC, by rw [eH]; exact q1 d hd1⟩
    | next => exact False.elim hq'
    | brk => exact False.elim hq'
    | cont => exact False.elim hq'

/-- an exception's class, raised -/
def dfX (c fld : Str) : Df := ⟨fun _ as st => match as with
  | [(_, d)] => .exc ⟨c, [(fld, d)]⟩ st
  | _ => .stuck⟩
structure RaiseOk (M : Mo) (c fld : Str) : Prop where
  ex : ∃ (C fI : Addr) (fd : FuncData) (prm : Str), M.mg c = some (.ref C) ∧ M.T.cls c = some C ∧ ExAt M.P M.T.K C fI fd prm fld ∧ PySem.W.findIn M.T.K (.ref C) "__init__" = some (some (.ref fI)) ∧ PySem.W.typeIn M.T.K (.ref fI) = some (.type "function") ∧ Binds M.T.K fd ["self", prm] [] ∧
    ((∀ as st, M.cl c as st = .stuck) ∨ (1 ≤ M.n ∧ ∀ m d st, M.cl c [(m, d)] st = .exc ⟨c, [(fld, d)]⟩ st))
def sRaise (cl : Calls) (c : Str) (fe : F) : FS := fun env st => match fe env st with
  | .ok d st1 => (cl c [(.esc, d)] st1).out env fun _ _ => .stuck
  | _ => .stuck
section
variable {G : Ct} {M : Mo} {m : Md} {e : Expr} {fe : F} {p1 pos pos2 : Pos} {c fld : Str}
theorem ss_raise (hm : M.hot = false) (hr : RaiseOk M c fld) (hg : G.sc.names.lookup c = some .globalImplicit) (he : SndE G M .esc e fe) (hdb : (c == ("__debug__" : Str)) = false := by decide)
    (hs : ∀ env, starEach (e :: []) env = (false, eval e env) :: starEach [] env := by intro _; rfl) (hpl : ∀ env, (backTo pos (starEach [] env)).any (·.1) = false := by intro _; rfl) : SndS G M (.Raise (some (.Call (.Name c p1) [e] [] pos)) none pos2) (sRaise M.cl c fe) := by
  intro X C gd
  obtain ⟨C0, fI, fd, prm, h1, h2, h3, h4, h5, h6, h7⟩ := hr.ex
  rcases h7 with h7 | ⟨hn, h7⟩
  · refine ps_never.imp fun E σ H ⟨w, env, st, s, p⟩ => ?_
    unfold sRaise at p
    split at p
    · rw [h7] at p; exact p
    · exact p
  · have ha : SndL G M [.esc] [e] (lCons fe lNil) := sl_esc he sl_nil hs
    have room : Room 1 X.A := (gd.cold hm).2.1.mono hn
    refine (L2N.ps_raise (gd.cold hm).1 gd.tk (pmk_ex (C := C0) (fI := fI) (fd := fd) (prm := prm) (fld := fld) (by rw [gd.p, gd.K]; exact h3) (by rw [gd.K]; exact h4) (by rw [gd.K]; exact h5) room (by rw [gd.K]; exact h6) (by show X.env.scope.names.lookup _ = _; rw [gd.sc]; exact hg) (by rw [gd.mg]; exact h1) (ha X C gd) hdb (hs _) (hpl _))).imp fun E σ H ⟨w, env, st, s, p⟩ => ⟨w, env, st, s, ?_⟩
    unfold sRaise at p
    unfold lCons lNil
    cases q : fe env st with
    | stuck => rw [q] at p; exact p.elim
    | exc x st' => rw [q] at p; exact p.elim
    | ok d st1 =>
      rw [q] at p
      dsimp only at p
      rw [h7] at p
      intro w1 vs H1 l1 s1 r1
      cases r1 with
      | @esc _ _ _ v0 _ r rn =>
        cases rn
        refine ⟨_, rfl, fun dx hd => ?_⟩
        have l2 : Le w1 H1 w1 (upd H1 dx (.xd [(fld, v0)])) := Le.push hd
        refine p w1 σ _ _ _ (s1.push hd) ⟨C0, by rw [gd.T]; exact h2, rfl, .inr ⟨dx, _, rfl, upd_same, ⟨rfl, .cons (Rep.to (l2.ok2 s1.sto) _ _ r) .nil⟩, fun z => (s1.al dx z).1 hd, fun z => ?_⟩⟩
        obtain ⟨o, ho, _⟩ := s1.sto.has z
        rw [hd] at ho; cases ho
end
end NC

/-! ### try: body, except C as n: suite -/
namespace NC
open PySem L2
def notExc (env : Ev) : Bool := env.all fun s => match s with
  | some (.exc, _) => false
  | _ => true
theorem notExc_get {env : Ev} (h : notExc env = true) {i : Nat} {d : D} : env[i]? ≠ some (some (.exc, d)) := fun e => by
  have := List.all_eq_true.mp h _ (List.mem_of_getElem? e)
  simp at this
def unX (i : Nat) : Out → Out
  | .next e st => if notExc (e.set i none) = true then .next (e.set i none) st else .stuck
  | .brk e st => if notExc (e.set i none) = true then .brk (e.set i none) st else .stuck
  | .cont e st => if notExc (e.set i none) = true then .cont (e.set i none) st else .stuck
  | .ret d st => .ret d st
  | _ => .stuck
def sTry (i : Nat) (mt : Str → Option Bool) (fb fs : FS) : FS := fun env st => match fb env st with
  | .exc x env1 st1 => match mt x.c with
    | some true => match x.fs with
      | [(f, d)] => if i < env1.length then unX i (fs (env1.set i (some (.exc, .tup [.str x.c, .str f, d]))) st1) else .stuck
      | _ => .stuck
    | some false => .exc x env1 st1
    | none => .stuck
  | o => o
section
variable {T : Tb} {B : Bs} {w : Wd} {env : Ev} {st : Sto} {σ : L2.St} {H : Hp}
theorem Sim.setEx (s : Sim T B w env st σ H) (hn : B.ex = none) (x : Option (Addr × Str × Value × Addr)) : Sim T ⟨B.w, B.H, B.pin, x⟩ w env st σ H := by
  obtain ⟨bw, bH, bp, bx⟩ := B
  refine ⟨s.len, fun i sl e => ?_, s.dist, s.sto, s.al, s.le, s.sub, s.bal, s.pin⟩
  have q := s.slot i sl e
  match sl, q with
  | none, _ => trivial
  | some (.frz, d), q => exact q
  | some (.own, d), q => exact q
  | some (.bor, d), q => exact q
  | some (.exc, d), ⟨a, c, cls, dd, f, v0, e, e1, _⟩ => exact absurd (hn.symm.trans e1) (by intro z; cases z)
theorem Sim.unEx {x : Option (Addr × Str × Value × Addr)} (s : Sim T ⟨B.w, B.H, B.pin, x⟩ w env st σ H) (hn : notExc env = true) : Sim T B w env st σ H := by
  obtain ⟨bw, bH, bp, bx⟩ := B
  refine ⟨s.len, fun i sl e => ?_, s.dist, s.sto, s.al, s.le, s.sub, s.bal, s.pin⟩
  have q := s.slot i sl e
  match sl, q, e with
  | none, _, _ => trivial
  | some (.frz, d), q, _ => exact q
  | some (.own, d), q, _ => exact q
  | some (.bor, d), q, _ => exact q
  | some (.exc, d), _, e => exact absurd e (notExc_get hn)
end
section
variable {G : Ct} {M : Mo} {body suite : List Stmt} {b0 : Stmt} {fb fs : FS} {i : Nat} {n cx : Str} {np pos pos' : Pos} {mt : Str → Option Bool}
theorem ss_try (hm : M.hot = false) (hbk : G.bk = none) (hN : G.N[i]? = some n) (hln : G.sc.names.lookup n = some .local) (hcx : G.sc.names.lookup cx = some .globalImplicit)
    (hT : ∃ CE, M.mg cx = some (.ref CE) ∧ ∀ c b, mt c = some b → ∀ C0, M.T.cls c = some C0 → PySem.W.exmOne M.T.K (.ref C0) (.ref CE) = some b)
    (hb : SndB G M body fb) (hs : SndB G { M with hot := true } (b0 :: suite) fs) (hdb : (cx == ("__debug__" : Str)) = false := by decide) :
    SndS G M (.Try body [.ExceptHandler (some (.Name cx np)) (some n) (b0 :: suite) pos'] [] [] pos) (sTry i mt fb fs) := by
  intro X C gd
  obtain ⟨CE, hmg, hmt⟩ := hT
  have hex : C.B.ex = none := (gd.cold hm).2.2
  have hK : X.K = C.T.K := by rw [gd.K, gd.T]
  let Cb : WX → Cf := fun W => ⟨C.T, C.B, W⟩
  let Cs : Addr → Str → Value → Addr → Cf := fun a c cls dd => ⟨C.T, ⟨C.B.w, C.B.H, C.B.pin, some (a, c, cls, dd)⟩, fun _ _ _ _ => False⟩
  have hsu : ∀ (a : Addr) (oe : Obj) (cls : Value) (d : Option Addr) (pn : List (Addr × Obj)), L2N.Zn cls d oe → (∃ vs, oe.data = .fields vs) → PSs (L2.Cx.suite X a ((a, oe) :: pn)) (b0 :: suite) (fun D σ H => ∃ c dd C0, d = some dd ∧ C.T.cls c = some C0 ∧ cls = .ref C0 ∧ tS (Cs a c cls dd) fs D σ H) := by
    intro a oe cls d pn hz hv
    refine ⟨fun pins s σ H D I ⟨c, dd, C0, hd, hc, hcl, q⟩ => ?_⟩
    subst hd
    have gd' : Gd G { M with hot := true } (L2.Cx.suite X a ((a, oe) :: pn)) (Cs a c cls dd) :=
      ⟨gd.p, gd.w, gd.K, gd.T, gd.mg, gd.base, gd.N, gd.sc, gd.nd, fun h => Bool.noConfusion h, gd.frm, fun _ => ⟨⟨(gd.cold hm).2.1.dp, (gd.cold hm).2.1.un⟩, ⟨(a, oe), ⟨rfl, hv.elim fun vs e => ⟨vs, e, hz.2.2 vs e⟩⟩, List.mem_cons_self⟩⟩,
        fun a' c' cls' dd' e => by cases e; exact ⟨X, oe, pn, rfl, hz.zc, hv, C0, hc, hcl⟩, gd.fn, PassesOwn.never, takesN⟩
    exact (hs _ _ gd').run pins s σ H D I q
  refine (L2N.ps_try_as (Wout := C.W) (c := .ref CE) (gd.frm hbk).1 (gd.frm hbk).2 gd.nd (by rw [gd.N]; exact hN) (by show X.env.scope.names.lookup _ = _; rw [gd.sc]; exact hln) ⟨by show X.env.scope.names.lookup _ = _; rw [gd.sc]; exact hcx, hdb, .inl (by rw [gd.mg]; exact hmg)⟩ gd.tk
    (tb := fun W => tS (Cb W) fb) (fun W pn xe tk pown => hb _ (Cb W) ⟨gd.p, gd.w, gd.K, gd.T, gd.mg, gd.base, gd.N, gd.sc, gd.nd, fun h => gd.cold h, gd.frm, fun h => absurd (hm.symm.trans h) (by decide), fun a c cls dd e => absurd (hex.symm.trans e) (by intro z; cases z), gd.fn, pown, tk⟩) hsu).imp fun D σ H ⟨w, env, st, s, p⟩ => ⟨w, env, st, s, ?_⟩
  unfold sTry at p
  cases q : fb env st with
  | next e1 st1 => rw [q] at p; exact p
  | ret d st1 => rw [q] at p; exact p
  | brk e1 st1 => rw [q] at p; exact p
  | cont e1 st1 => rw [q] at p; exact p
  | stuck => rw [q] at p; exact p
  | exc x e1 st1 =>
    rw [q] at p
    dsimp only at p
    intro w1 σ1 H1 cls dx s1 xr
    obtain ⟨C0, k1, k2, k3⟩ := id xr
    cases q2 : mt x.c with
    | none => rw [q2] at p; exact p.elim
    | some b =>
      rw [q2] at p
      refine ⟨b, by rw [hK, k2, gd.T]; exact hmt _ _ q2 C0 (by rw [← gd.T]; exact k1), fun hbt a ha => ?_, fun hbf => ?_⟩
      · subst hbt
        dsimp only at p
        split at p
        · rename_i f d hfs
          split at p
          · rename_i hi
            rcases k3 with k3 | ⟨dd, fv, k4, k5, k6, k7, k8⟩
            · rw [hfs] at k3; cases k3
            · rw [hfs] at k6
              obtain ⟨g1, g2⟩ := k6
              match fv, g1, g2 with
              | [(f', v0)], g1, g2 =>
                cases g2 with
                | cons gr gn =>
                  simp at g1
                  subst g1
                  refine ⟨x.c, dd, C0, k4, k1, k2, w1, e1.set i (some (.exc, .tup [.str x.c, .str f', d])), st1, (s1.setEx hex _).set hi ⟨a, x.c, cls, dd, f', v0, d, rfl, rfl, rfl, k5, k7, k8, gr⟩ (fun d' e => by cases e), ?_⟩
                  have drop : ∀ {w e st σ H}, Sim C.T (Cs a x.c cls dd).B w e st σ H → notExc (e.set i none) = true → Sim C.T C.B w (e.set i none) st (σ.set i none) H := fun s h => Sim.unEx (s.wipe [i]) h
                  cases q3 : fs (e1.set i (some (.exc, .tup [.str x.c, .str f', d]))) st1 with
                  | next e2 st2 =>
                    rw [q3] at p
                    by_cases hne : notExc (e2.set i none) = true
                    · have p2 : PostS C D (if notExc (e2.set i none) = true then .next (e2.set i none) st2 else .stuck) := p
                      rw [if_pos hne] at p2
                      exact fun w σ H s2 => p2 w _ H (drop s2 hne)
                    · have p2 : PostS C D (if notExc (e2.set i none) = true then .next (e2.set i none) st2 else .stuck) := p
                      rw [if_neg hne] at p2
                      exact p2.elim
                  | brk e2 st2 =>
                    rw [q3] at p
                    by_cases hne : notExc (e2.set i none) = true
                    · have p2 : PostS C D (if notExc (e2.set i none) = true then .brk (e2.set i none) st2 else .stuck) := p
                      rw [if_pos hne] at p2
                      exact fun w σ H s2 => p2 w _ H (drop s2 hne)
                    · have p2 : PostS C D (if notExc (e2.set i none) = true then .brk (e2.set i none) st2 else .stuck) := p
                      rw [if_neg hne] at p2
                      exact p2.elim
                  | cont e2 st2 =>
                    rw [q3] at p
                    by_cases hne : notExc (e2.set i none) = true
                    · have p2 : PostS C D (if notExc (e2.set i none) = true then .cont (e2.set i none) st2 else .stuck) := p
                      rw [if_pos hne] at p2
                      exact fun w σ H s2 => p2 w _ H (drop s2 hne)
                    · have p2 : PostS C D (if notExc (e2.set i none) = true then .cont (e2.set i none) st2 else .stuck) := p
                      rw [if_neg hne] at p2
                      exact p2.elim
                  | ret d2 st2 => rw [q3] at p; exact p
                  | exc x2 e2 st2 => rw [q3] at p; exact p.elim
                  | stuck => rw [q3] at p; exact p.elim
          · exact p.elim
        · exact p.elim
      · subst hbf
        exact p w1 σ1 H1 cls dx s1 xr
end
end NC

/-! ### in the suite: e.f, isinstance(e, C) -/
namespace NC
open PySem L2
/-- e.f, e the caught exception, its class one of cs -/
def bXat (i : Nat) (cs : List Str) (f : Str) : F := fun env st => match env[i]? with
  | some (some (.exc, .tup [.str c, .str g, d])) => if g = f ∧ cs.contains c = true then .ok d st else .stuck
  | _ => .stuck
section
variable {G : Ct} {M : Mo} {i : Nat} {x f : Str} {pe pos : Pos} {cs : List Str}
theorem sn_xat (hN : G.N[i]? = some x) (hv : Vis G.sc x) (hcs : ∀ c, cs.contains c = true → ∀ C0, M.T.cls c = some C0 → XfC M.T.K C0 ∧ PySem.W.findIn M.T.K (.ref C0) f = some none)
    (hd : (x == ("__debug__" : Str)) = false := by decide) (hcd : (x == ("__classdict__" : Str)) = false := by decide) (hb : ∀ env, attributeBase (.Name x pe) f env (eval (.Name x pe) env) = eval (.Name x pe) env := by intro _; rfl) : SndE G M .esc (.Attribute (.Name x pe) f pos) (bXat i cs f) := by
  intro X C gd
  cases q : C.B.ex with
  | none =>
    refine ⟨fun pins s σ H Q I ⟨w, env, st, s0, p⟩ => ?_⟩
    exfalso
    unfold bXat at p
    split at p
    · rename_i c g d hi
      obtain ⟨a, c, cls, dd, f, v0, e, e1, _⟩ := s0.slot i _ hi
      rw [q] at e1; cases e1
    · exact p
  | some z =>
    obtain ⟨a, c0, cls, dd⟩ := z
    obtain ⟨X0, oe, pn, hX, hz, hvs, C0, hc, hcl⟩ := gd.exk a c0 cls dd q
    have hKX : X.K = M.T.K := gd.K
    by_cases hin : cs.contains c0 = true
    · obtain ⟨g1, g2⟩ := hcs c0 hin C0 (by rw [← gd.T]; exact hc)
      have hN' : X.N[i]? = some x := by rw [gd.N]; exact hN
      have hv' : Vis X.env.scope x := by rw [gd.sc]; exact hv
      have pv : PE X (.Name x pe) (tVar i) := pe_var (i := i) (x := x) hN' hv' hd hcd
      have hbX := hb X.env
      have key : PE X (.Attribute (.Name x pe) f pos) (tXf a cls (some dd) C0 f (tVar i)) := by
        subst hX
        exact pe_xf (X := X0) (by rw [show X0.K = M.T.K from hKX]; exact g1) (by rw [show X0.K = M.T.K from hKX]; exact g2) hz hvs pv hbX
      refine key.imp fun σ H Q ⟨w, env, st, s0, p⟩ => ?_
      unfold bXat at p
      split at p
      · rename_i c g d hi
        obtain ⟨a', c', cls', dd', f', v0, e, e1, e2, e3, e4, e5, e6, e7⟩ := s0.slot i _ hi
        rw [q] at e1
        cases e1
        cases e3
        split at p
        · rename_i hgf
          obtain ⟨rfl, _⟩ := hgf
          exact ⟨.ref a, join_some e2, rfl, hcl, dd, _, v0, rfl, e4, by simp [List.lookup], p w v0 H (.refl _ _) s0 e7⟩
        · exact p.elim
      · exact p.elim
    · refine ⟨fun pins s σ H Q I ⟨w, env, st, s0, p⟩ => ?_⟩
      exfalso
      unfold bXat at p
      split at p
      · rename_i c g d hi
        obtain ⟨a', c', cls', dd', f', v0, e, e1, e2, e3, _⟩ := s0.slot i _ hi
        rw [q] at e1
        cases e1
        cases e3
        rw [if_neg fun z => hin z.2] at p
        exact p
      · exact p
end
end NC

namespace PySem.W
open PySem PySem.Spec PySem.Calls PyProof.Rows
section
variable {prog : Program} {w : World} {A : Around} {E : Value → Shared → Prop} {s : Shared} {K : Frag} {x D : Addr} {ox od : Obj}
theorem nc_findObj {C : Addr} {name : Str} {a g : Value} (hc : (clsIn K C).isSome = true) (ha : findIn K (.ref C) name = some (some a)) (hg : specialIn K a "__get__" = some (some g)) (ht : takesIn K a = some true) : findObj K C (some od) name = some (.bind g a) := by
  obtain ⟨cd, hc⟩ := Option.isSome_iff_exists.mp hc
  unfold findObj
  rw [hc, Option.bind_some, ha, Option.bind_some]
  simp [hg, ht]
theorem nc_classE {Q : Option Value → Shared → Prop} (C : L2.ExcC K D) (X : K.In s.heap) (I : InstAt s.heap x ox D (some od)) (h : Q (some (.ref D)) { s with toks := s.toks + 1 }) : wpAny (model prog w) A (getAttr? (.ref x) "__class__") Q E s := by
  have hf : findObj K D (some od) "__class__" = some (.bind (.builtin "getset_descriptor.__get__") (.builtin "object.__class__")) := nc_findObj (by obtain ⟨cd, hc, _⟩ := any_some C.hd; rw [hc]; rfl) C.ha C.hn C.ht
  obtain ⟨hp, g, d, t, os⟩ := s
  have L0 := I.type (M := model prog w)
  have L1 := looks_findIn (M := model prog w) X C.hg
  have L2 := looks_findIn (M := model prog w) X C.hk
  have L3 := looks_find (M := model prog w) X I hf
  have sub : Looks (model prog w) hp (isInstance (.ref x) (.type "BaseException")) true := L0.andThen (looks_subIn X C.hs)
  have hx0 : (false && onTheHeap (Value.builtin "BaseException.__getattribute__")) = false := rfl
  have hx2 : (Value.builtin "BaseException.__getattribute__" == Value.builtin "object.__getattribute__") = false := by decide +kernel
  have hx1 : (onTheHeap (Value.ref D) && Value.builtin "BaseException.__getattribute__" == Value.builtin "object.__getattribute__") = false := by rw [hx2]; rfl
  unfold getAttr? getAttrBy? getAttrBy
  refine wpAny_bind (wpAny_mkText (wpAny_bind (wpAny_attempt (wpAny_holding (wpAny_bind (L0.at (wpAny_bind (L1.at ?_))))))))
  show wpAny _ _ (if (onTheHeap (Value.ref D) && Value.builtin "BaseException.__getattribute__" == Value.builtin "object.__getattribute__") = true then _ else _) _ _ _
  rw [hx1, if_neg Bool.false_ne_true]
  unfold getAttrByItsOwn hookBefore
  refine wpAny_bind ?_
  rw [if_pos (show onTheHeap (Value.ref D) = true from rfl)]
  refine L2.at ?_
  refine wpAny_bind (wpAny_attempt (wpAny_holding ?_))
  unfold callGetattribute
  rw [hx0, if_neg Bool.false_ne_true]
  unfold boundAndCalled
  rw [PySem.F.excAttr_ValueError.ga.bind (.ref x)]
  refine wpAny_bind (wpAny_pure ?_)
  show wpAny _ _ (call (.builtin "BaseException.__getattribute__") [.ref x, .str "__class__" t]) _ _ _
  refine wpAny_call (codeAny_call_builtin PySem.F.excAttr_ValueError.ga.plain PySem.F.entry_bexc_ga ?_)
  refine @check_slot (model prog w) _ _ ⟨hp, g, d, t + 1, os⟩ "BaseException.__getattribute__" "BaseException" "__getattribute__" (.ref x) [.str "__class__" t] [] _ (by decide +kernel) (by decide +kernel) sub (PySem.F.args_bexc_ga (.ref x) (.str "__class__" t)) ?_
  unfold Builtin.«object.__getattribute__»
  refine wpAny_bind (wpAny_of_eq (a := ((Value.ref x : Value), [Value.str "__class__" t])) (by first | rfl | (simp only [slotArgs]; rfl)) ?_)
  refine wpAny_bind (wpAny_pure (wpAny_bind (L0.at (wpAny_bind (L3.at ?_)))))
  show wpAny _ _ (holding [Value.builtin "object.__class__"] (call (.builtin "getset_descriptor.__get__") [.builtin "object.__class__", .ref x, .ref D]) >>= ret) _ _ _
  refine wpAny_bind (wpAny_holding (wpAny_call (class_get (s := ⟨hp, g, d, t + 1, os⟩) (ox := ox) (od := some od) X I C.hm ?_)))
  refine wpAny_pure ?_
  show wpAny _ _ (handedOut (.ref D)) _ _ _
  rw [handedOut_of (v := .ref D) rfl]
  first
    | exact wpAny_pure (wpAny_pure h)
    | exact wpAny_pure h
    | exact wpAny_pure (wpAny_bind (wpAny_pure (wpAny_pure h)))
end
end PySem.W
namespace PySem.W
open PySem PySem.Spec PySem.Calls PyProof.Rows
theorem nc_kitx {K : Frag} {x D : Addr} {ox od : Obj} (C : L2.ExcC K D) : KitX K (.ref x) (.ref D) (fun h => InstAt h x ox D (some od)) where
  ty := fun _ _ _ I => I.type
  it := fun _ _ X _ => by
    obtain ⟨cdD, hcD, _⟩ := any_some C.hd
    unfold clsIn at hcD
    split at hcD
    · rename_i c' d' cd' sl' ho
      intro A' Q' E' s' k q
      unfold isType loadHead
      exact wpAny_bind (wpAny_loadPart (k _ _ (X _ _ ho)) (wpAny_pure q))
    · cases hcD
  ne := fun h tp dd its n sl X htp => by
    obtain ⟨cdD, hcD, _⟩ := any_some C.hd
    refine Bool.eq_false_iff.mpr fun q => ?_
    have e : D = tp := Value.ref.inj (beq_iff_eq.mp q)
    subst e
    unfold clsIn at hcD
    split at hcD
    · rename_i c' d' cd' sl' ho
      have z := (X _ _ ho).symm.trans htp
      cases z
    · cases hcD
  ca := fun X I k => nc_classE C X I k
end PySem.W
namespace NC
open PySem L2 PyProof.Rows PySem.Spec
def rIsX (K : PySem.W.Frag) (D a dd : Addr) : List V → Hp → VK → Prop := fun xs H Q => ∃ (c : V) (cv : Value) (b : Bool) (fs : List (Str × V)), xs = [.ref a, c] ∧ H dd = some (.xd fs) ∧ (∀ u, L2.RelV c u → u = cv) ∧ PySem.W.kitOne K (.ref D) cv = some b ∧ Q (.bl b) H
theorem call_isX {X : Cx} {a D dd : Addr} {oe : Obj} {pn : List (Addr × Obj)} (C : ExcC X.K D) (hz : Zc (.ref D) (some dd) oe) (hf : ∃ vs, oe.data = .fields vs) : CallR (L2.Cx.suite X a ((a, oe) :: pn)) (.builtin "isinstance") (rIsX X.K D a dd) := by
  intro pins s σ H xs us Q I r h
  obtain ⟨c, cv, b, fs, rfl, hx, hcv, e, q⟩ := h
  cases r with
  | cons rx rr =>
    cases rr with
    | cons rt rr =>
      cases rr
      cases rx
      have ec := hcv _ rt
      subst ec
      obtain ⟨hget, _⟩ := I.pin (a, oe) (List.mem_append.mpr (.inl List.mem_cons_self))
      obtain ⟨vs, hv⟩ := hf
      obtain ⟨mA, hns, hr⟩ := (show ObjOk X.prog X.w H s.heap dd (.xd fs) from I.hok dd _ hx)
      obtain ⟨od, ho, hl⟩ := lookIn_ns hns
      have J : PySem.W.InstAt s.heap a oe D (some od) := ⟨hget, hz.1, by unfold PySem.W.notCls; rw [hv] <;> rfl, by rw [hz.2]; exact ho⟩
      exact PySem.W.kia_one (PySem.W.nc_kitx C) I.kIn J e (fun z => nomatch z) fun tk => ⟨.bl b, H, I.kept (t' := tk) fun _ _ z => z, rfl, q⟩
end NC

namespace NC
open PySem L2
/-- isinstance(e, C), e the caught exception -/
def bXis (i : Nat) (mt : Str → Option Bool) : F := fun env st => match env[i]? with
  | some (some (.exc, .tup [.str c, .str g, d])) => match mt c with
    | some b => .ok (.bl b) st
    | none => .stuck
  | _ => .stuck
section
variable {G : Ct} {M : Mo} {m : Md} {i : Nat} {x cx : Str} {pe p1 p2 pos : Pos} {mt : Str → Option Bool}
theorem sn_xis (hN : G.N[i]? = some x) (hv : Vis G.sc x) (hg : G.sc.names.lookup ("isinstance" : Str) = some .globalImplicit) (hm : M.mg ("isinstance" : Str) = none) (hg2 : G.sc.names.lookup cx = some .globalImplicit)
    (hc : ∃ CE, M.mg cx = some (.ref CE) ∧ ∀ c b, mt c = some b → ∀ C0, M.T.cls c = some C0 → ExcC M.T.K C0 ∧ PySem.W.kitOne M.T.K (.ref C0) (.ref CE) = some b)
    (hd : (x == ("__debug__" : Str)) = false := by decide) (hcd : (x == ("__classdict__" : Str)) = false := by decide) (hdb : (cx == ("__debug__" : Str)) = false := by decide) : SndE G M m (.Call (.Name "isinstance" p1) [.Name x pe, .Name cx p2] [] pos) (bXis i mt) := by
  intro X C gd
  obtain ⟨CE, hmg, hmt⟩ := hc
  cases q : C.B.ex with
  | none =>
    refine ⟨fun pins s σ H Q I ⟨w, env, st, s0, p⟩ => ?_⟩
    exfalso
    unfold bXis at p
    split at p
    · rename_i c g d hi
      obtain ⟨a, c, cls, dd, f, v0, e, e1, _⟩ := s0.slot i _ hi
      rw [q] at e1; cases e1
    · exact p
  | some z =>
    obtain ⟨a, c0, cls, dd⟩ := z
    obtain ⟨X0, oe, pn, hX, hz, hvs, C0, hc0, hcl⟩ := gd.exk a c0 cls dd q
    have gl : ∀ {y : Str}, G.sc.names.lookup y = some .globalImplicit → Gl X y := fun {y} z => by show X.env.scope.names.lookup _ = _; rw [gd.sc]; exact z
    cases qm : mt c0 with
    | none =>
      refine ⟨fun pins s σ H Q I ⟨w, env, st, s0, p⟩ => ?_⟩
      exfalso
      unfold bXis at p
      split at p
      · rename_i c g d hi
        obtain ⟨a', c', cls', dd', f', v0, e, e1, e2, e3, _⟩ := s0.slot i _ hi
        rw [q] at e1
        cases e1
        cases e3
        rw [qm] at p
        exact p
      · exact p
    | some b =>
      obtain ⟨g1, g2⟩ := hmt c0 b qm C0 (by rw [← gd.T]; exact hc0)
      have pv : PE X (.Name x pe) (tVar i) := pe_var (i := i) (x := x) (by rw [gd.N]; exact hN) (by rw [gd.sc]; exact hv) hd hcd
      have pc : PE X (.Name cx p2) (tC (.ref CE)) := pe_glob (gl hg2) (by rw [gd.mg]; exact hmg) rfl hdb
      have key : CallR X (.builtin "isinstance") (rIsX X.K C0 a dd) := by
        have hKX : X.K = M.T.K := gd.K
        subst hX
        exact call_isX (X := X0) (by rw [show X0.K = M.T.K from hKX]; exact g1) (by rw [← hcl]; exact hz) hvs
      refine (pe_callB key (gl hg) (by rw [gd.mg]; exact hm) (by decide +kernel) (pa_cons pv (pa_cons pc pa_nil) (by rfl)) (by decide) (by decide) (by rfl) (by rfl)).imp fun σ H Q ⟨w, env, st, s0, p⟩ => ?_
      unfold bXis at p
      split at p
      · rename_i c g d hi
        obtain ⟨a', c', cls', dd', f', v0, e, e1, e2, e3, e4, e5, e6, e7⟩ := s0.slot i _ hi
        rw [q] at e1
        cases e1
        cases e3
        rw [qm] at p
        exact ⟨.ref a, join_some e2, .ref CE, .ref CE, b, _, rfl, e4, fun u r => r, by rw [gd.K]; exact g2, p.done s0 (RepM.bl _)⟩
      · exact p.elim
end

/-- what isinstance asks of an own class -/
structure InsC (K : PySem.W.Frag) (C : Addr) : Prop where
  ha : PySem.W.findIn K (.ref C) "__class__" = some (some (.builtin "object.__class__"))
  hn : PySem.W.specialIn K (.builtin "object.__class__") "__get__" = some (some (.builtin "getset_descriptor.__get__"))
  ht : PySem.W.takesIn K (.builtin "object.__class__") = some true
  hm : PySem.W.mroIn K C (.type "object") = some true
def isC (mt : Str → Option Bool) (st : Sto) : D → R D
  | .loc n => match st[n]? with
    | some (.ins c _) => match mt c with
      | some b => .ok (.bl b) st
      | none => .stuck
    | _ => .stuck
  | _ => .stuck
/-- isinstance(o, C), o an instance of an own class -/
def bIsC (mt : Str → Option Bool) (f : F) : F := fun env st => (f env st).bind fun d st1 => isC mt st1 d
theorem isC_cases {mt : Str → Option Bool} {st : Sto} {n : Nat} : isC mt st (.loc n) = .stuck ∨ ∃ c fs b, st[n]? = some (.ins c fs) ∧ mt c = some b ∧ isC mt st (.loc n) = .ok (.bl b) st := by
  unfold isC
  dsimp only
  cases q : st[n]? with
  | none => exact .inl rfl
  | some z =>
    cases z with
    | ins c fs =>
      dsimp only
      cases q2 : mt c with
      | none => exact .inl rfl
      | some b => exact .inr ⟨c, fs, b, rfl, q2, rfl⟩
    | lst ds => exact .inl rfl
    | dic t kvs => exact .inl rfl
section
variable {G : Ct} {M : Mo} {m : Md} {a : Expr} {f : F} {x cx : Str} {p1 p2 pos : Pos} {mt : Str → Option Bool}
theorem sn_isC (hg : G.sc.names.lookup ("isinstance" : Str) = some .globalImplicit) (hm : M.mg ("isinstance" : Str) = none) (hg2 : G.sc.names.lookup cx = some .globalImplicit)
    (hc : ∃ CE, M.mg cx = some (.ref CE) ∧ ∀ c b, mt c = some b → ∀ C0, M.T.cls c = some C0 → InsC M.T.K C0 ∧ PySem.W.kitOne M.T.K (.ref C0) (.ref CE) = some b)
    (ha : SndE G M .rd a f) (hs : ∀ env, starEach (a :: [.Name cx p2]) env = (false, eval a env) :: starEach [.Name cx p2] env := by intro _; rfl) (hdb : (cx == ("__debug__" : Str)) = false := by decide) :
    SndE G M m (.Call (.Name "isinstance" p1) [a, .Name cx p2] [] pos) (bIsC mt f) := by
  intro X C gd
  obtain ⟨CE, hmg, hmt⟩ := hc
  have gl : ∀ {y : Str}, G.sc.names.lookup y = some .globalImplicit → Gl X y := fun {y} z => by show X.env.scope.names.lookup _ = _; rw [gd.sc]; exact z
  have pc : PE X (.Name cx p2) (tC (.ref CE)) := pe_glob (gl hg2) (by rw [gd.mg]; exact hmg) rfl hdb
  have hK : X.K = C.T.K := by rw [gd.K, gd.T]
  refine (pe_callB call_isi (gl hg) (by rw [gd.mg]; exact hm) (by decide +kernel) (pa_cons (ha X C gd) (pa_cons pc pa_nil) (hs _)) (by decide) (by decide) (hs _) (by rfl)).imp fun σ H Q ⟨w, env, st, s, p⟩ => ⟨w, env, st, s, ?_⟩
  refine PostE.bind p fun d st1 w1 v1 H1 l1 s1 r1 p1 => ?_
  cases d with
  | loc n =>
    obtain ⟨aa, rfl, e3⟩ := RepR.loc r1
    rcases isC_cases (mt := mt) (st := st1) (n := n) with z | ⟨c, fs, b, q, q2, z⟩
    · rw [z] at p1; exact p1.elim
    · rw [z] at p1
      obtain ⟨C0, dx, fv, ⟨k0, k1, k2⟩, k3, k4⟩ := s1.sto.at_ n _ aa q e3
      obtain ⟨g1, g2⟩ := hmt c b q2 C0 (by rw [← gd.T]; exact k0)
      have hKM : X.K = M.T.K := gd.K
      exact ⟨.ref aa, .ref CE, .ref C0, .ref CE, b, rfl, .own CE, .base (.ins k3 (by rw [hK]; exact k1) (by rw [hKM]; exact g1.ha) (by rw [hKM]; exact g1.hn) (by rw [hKM]; exact g1.ht) (by rw [hKM]; exact g1.hm)), by rw [hKM]; exact g2, PostE.done p1 s1 (RepM.bl _)⟩
  | _ => exact p1.elim
end
end NC

/-! ### defs that a suite calls -/
namespace NC
open PySem L2
section
variable {P : Program} {w0 : World} {T : Tb} {mg : Str → Option Value} {base : Heap} {cl cl' : Calls} {n : Nat} {x nm qual : Str} {st : Stmt} {f : Addr} {fd : FuncData} {N ps : List Str} {sh : FS}
theorem fn_okH (F : Fun T.K nm qual st f fd) (S : FnScope N ps (defScope st)) (snd : SndB ⟨N, defScope st, none⟩ ⟨P, w0, T, mg, base, cl, n, true⟩ (defBody st) sh)
    (hcl : ∀ as s, cl' x as s = runD ps.length N.length sh as s) : L2H.FnH P w0 T.K mg base (L2N.CX P w0) (n + 1) f fd ps (spOf T cl' x) := by
  have hpl : ps.length ≤ N.length := by have := congrArg List.length S.pre; rw [List.length_take] at this; omega
  have asl : ∀ {as s T B Q E}, PostC T B (cl' x as s) Q E → as.length = ps.length := by
    intro as s T B Q E h
    rw [hcl] at h
    unfold runD at h
    split at h
    · assumption
    · exact h.elim
  obtain ⟨oc, od, kV, doc, pm, an, cdv, ct, osl, rfl, lk, hcd⟩ := F.ex
  refine L2H.fn_ofH lk hcd S (fun vs H Q E ⟨as, w, s, r, hs, al, p⟩ => ?_) (fun A outer s0 H vs Q E pp hot hr ⟨as, w, s, r, hs, al, p⟩ => ?_)
  · rw [r.len, List.length_map]; exact asl p
  · have hal := asl p
    rw [hcl] at p
    unfold runD at p
    rw [if_pos hal] at p
    let C : Cf := ⟨T, ⟨w, H, [], none⟩, fun c dx _ H => E c dx H⟩
    have gd : Gd ⟨N, defScope st, none⟩ ⟨P, w0, T, mg, base, cl, n, true⟩ (L2H.cxH (L2N.CX P w0) P w0 T.K mg base N qual (defScope st) f cdv A outer s0 H E pp) C :=
      ⟨rfl, rfl, rfl, rfl, rfl, rfl, rfl, rfl, S.nd, (fun h => Bool.noConfusion h), (fun _ => ⟨rfl, rfl⟩), (fun _ => ⟨hr, ⟨pp, hot, List.mem_cons_self⟩⟩), (fun a c cls dd e => by cases e), rfl, passes_of rfl, L2N.takes_of rfl rfl rfl rfl⟩
    refine ⟨_, snd _ C gd, w, startE as N.length, s, sim_start r hs al (by omega), ?_⟩
    have shrink : ∀ {w' : Wd} {env st σ H'}, Sim T C.B w' env st σ H' → Le w H ⟨w.S, w'.r⟩ H' ∧ Stok T ⟨w.S, w'.r⟩ H' st ∧ Ok2 w' H' ⟨w.S, w'.r⟩ H' := fun {w' env st σ H'} s' => by
      have ok : Ok2 w' H' ⟨w.S, w'.r⟩ H' := ⟨fun _ _ e => e, fun _ _ e _ => e, fun a o e n1 n2 => ⟨e, fun z => n1 (s'.sub a z), n2⟩⟩
      exact ⟨⟨s'.le.pre, s'.le.fr, s'.le.live, s'.le.new, fun a z => .inl z, fun a z => z⟩, s'.sto.to ok (fun _ _ => rfl) rfl, ok⟩
    cases e : sh (startE as N.length) s with
    | next env st' => rw [e] at p; exact fun w' σ H' s' => p .non H' (s'.ret .non)
    | ret d st' => rw [e] at p; exact fun v H' r' => p v H' r'
    | exc x env st' =>
      rw [e] at p
      intro w' σ H' c dx s' xr
      obtain ⟨l, hs', ok⟩ := shrink s'
      refine p w'.r H' c dx l hs' ?_
      obtain ⟨C', h1, h2, h3⟩ := xr
      refine ⟨C', h1, h2, h3.imp (fun z => z) fun ⟨d, fv, k1, k2, k3, k4, k5⟩ => ⟨d, fv, k1, k2, ⟨k3.1, Reps.to ok _ _ k3.2⟩, fun z => k4 (s'.sub d z), k5⟩⟩
    | brk env st' => rw [e] at p; exact p.elim
    | cont env st' => rw [e] at p; exact p.elim
    | stuck => rw [e] at p; exact p.elim
theorem fn_okH0 (hcl : ∀ as s, cl' x as s = .stuck) : L2H.FnH P w0 T.K mg base (L2N.CX P w0) 0 f fd ps (spOf T cl' x) := by
  refine ⟨fun vs H Q E ⟨as, w, s, r, hs, al, p⟩ => ?_, fun A outer s0 H args us vs Q E pp hr hot hpin e0 hb hv ⟨as, w, s, r, hs, al, p⟩ => ?_⟩
  · rw [hcl] at p; exact p.elim
  · rw [hcl] at p; exact p.elim
end
end NC

/-! ### exceptions at the head -/
namespace NC
open PySem L2
structure ExcAt (P : Program) (K : PySem.W.Frag) (mg : Str → Option Value) (c fld : Str) : Prop where
  ex : ∃ (C fI : Addr) (fd : FuncData) (prm : Str), mg c = some (.ref C) ∧ PySem.W.nsIn K mainGlobals c = some (some (.ref C)) ∧ ExAt P K C fI fd prm fld ∧ PySem.W.findIn K (.ref C) "__init__" = some (some (.ref fI)) ∧ PySem.W.typeIn K (.ref fI) = some (.type "function") ∧ Binds K fd ["self", prm] []
section
variable {P : Program} {w : World} {K : PySem.W.Frag} {mg : Str → Option Value} {base : Heap} {Δ : Str → Option Df} {n : Nat} {c fld : Str}
theorem raiseOk_zero (A : ExcAt P K mg c fld) : RaiseOk (MoN P w (Tx K) mg base Δ 0) c fld := by
  obtain ⟨C, fI, fd, prm, h1, h2, h3, h4, h5, h6⟩ := A.ex
  exact ⟨C, fI, fd, prm, h1, Tx_cls h2, h3, h4, h5, h6, .inl fun _ _ => rfl⟩
theorem raiseOk_succ (A : ExcAt P K mg c fld) (hΔ : Δ c = some (dfX c fld)) : RaiseOk (MoN P w (Tx K) mg base Δ (n + 1)) c fld := by
  obtain ⟨C, fI, fd, prm, h1, h2, h3, h4, h5, h6⟩ := A.ex
  exact ⟨C, fI, fd, prm, h1, Tx_cls h2, h3, h4, h5, h6, .inr ⟨Nat.le_add_left 1 n, fun m d st => interp_eq hΔ [(m, d)] st⟩⟩
end

theorem excAt_mk {P : Program} {K : PySem.W.Frag} {mg : Str → Option Value} {h : Heap} {c fld prm qual nm q : Str} {C fI N cda cc : Addr} {bs bm sub : List Value} {sn : List Str} {ab : Bool} {col : Option Bool} {dd an od cdd cld : Option Addr} {k0 k1 k2 k3 k5 : Option Value} {params : Arguments} {scope : Scope} {kV doc pm ct oc ccl cl : Value}
    {osl ccs csl : Array (Option Value)} {msg file : Str} {j : Nat} {p0 p1 p2 p3 p4 p5 p6 p7 p8 p9 : Pos} {vs : Array Value} {tf : Tok} {ar : Arg} (X : K.In h) (G : h.Ns mainGlobals mg)
    (a : PySem.W.nsIn K mainGlobals c = some (some (.ref C)))
    (lC : K.lookup C = some (excClassObj nm q C N bs bm true sn sub ab col dd k0 k1 k2 k3 k5 "ValueError.__new__")) (sa : PySem.W.findIn K (.ref C) "__setattr__" = some (some (.builtin "object.__setattr__")))
    (exC : PySem.W.subIn K (.ref C) (.type "BaseException") = some true) (tyC : PySem.W.typeIn K (.ref C) = some (.type "type")) (kC : PySem.W.keepIn K (.ref C) = true)
    (iC : PySem.W.findIn K (.ref C) "__init__" = some (some (.ref fI))) (tI : PySem.W.typeIn K (.ref fI) = some (.type "function"))
    (l : K.lookup fI = some ⟨oc, od, .func (PySem.W.ksFn "__init__" qual params [.Expr (.Call (.Attribute (.Call (.Name "super" p0) [] [] p1) "__init__" p2) [.Constant (.str msg) j p3] [] p4) p5, .Assign [.Attribute (.Name "self" p6) fld p7] (.Name prm p8) p9] scope .none kV doc pm an (.ref cda) ct cc), osl⟩)
    (cd : PySem.W.codeIn K (.ref cda) qual = true) (hcode : K.lookup cda = some ⟨ccl, cdd, .fields vs, ccs⟩) (hcell : K.lookup cc = some ⟨cl, cld, .cell (some (.ref C)), csl⟩)
    (sub_ : PySem.W.mroIn K C (.ref C) = some true) (sup : PySem.W.nsIn K mainGlobals "super" = some none) (opq : PySem.W.nsIn K cStatics "thirdparty.any" = some none)
    (nxt : PySem.W.ks_superIn K C C "__init__" = some (some (.builtin "ValueError.__init__"))) (isV : PySem.W.subIn K (.ref C) (.type "ValueError") = some true) (nof : PySem.W.findIn K (.ref C) fld = some none)
    (rv : PySem.HandSPX.refsVE bm = true) (hvs : vs[2]? = some (.str file tf)) (hfile : ((P.main.file : Str) == file) = true) (hp : (params.posonlyargs ++ params.args).head? = some ar) (har : ar.arg = "self")
    (S : NdefX.NScope ["self", prm, "__class__"] ["self", prm] ["__class__"] scope) (hks : scope.names.lookup ("super" : Str) = some .globalImplicit)
    (hev : ∀ env : Env, ∃ pl : Sem Bool, eval (.Call (.Attribute (.Call (.Name "super" p0) [] [] p1) "__init__" p2) [.Constant (.str msg) j p3] [] p4) env = (do
      let ov ← attributeBase (.Call (.Name "super" p0) [] [] p1) "__init__" env (eval (.Call (.Name "super" p0) [] [] p1) env)
      standAt p2.atName
      let (f, first) ← holding [ov] (getMethod ov "__init__" pl)
      callWith p4 f first (backTo p4 (starEach [.Constant (.str msg) j p3] env)) []))
    (top : (P.main.scope.names.lookup ("super" : Str)).isSome = false) (ne : prm ≠ "self") (db : (prm == ("__debug__" : Str)) = false) (cdt : (prm == ("__classdict__" : Str)) = false)
    (hb : ∀ us : List Value, us.length = 2 → bindArgs (PySem.W.ksFn "__init__" qual params [.Expr (.Call (.Attribute (.Call (.Name "super" p0) [] [] p1) "__init__" p2) [.Constant (.str msg) j p3] [] p4) p5, .Assign [.Attribute (.Name "self" p6) fld p7] (.Name prm p8) p9] scope .none kV doc pm an (.ref cda) ct cc) ⟨us, []⟩ = pure ((["self", prm] : List Str).zip us)) :
    ExcAt P K mg c fld :=
  ⟨C, fI, _, prm, PySem.W.mg_of X G a, a, ⟨⟨⟨nm, q, N, bs, bm, sn, sub, ab, col, dd, k0, k1, k2, k3, k5, lC, rv⟩, sa, exC, tyC, kC⟩, ⟨qual, params, scope, kV, doc, pm, ct, oc, an, od, osl, cda, cc, msg, j, p0, p1, p2, p3, p4, p5, p6, p7, p8, p9, vs, file, tf, ccl, cl, cdd, cld, ccs, csl, ar, rfl, l, cd, hcode, hvs, hfile, hcell, hp, har, S, hks, hev⟩, sub_, sup, opq, nxt, isV, top, nof, ne, db, cdt⟩, iC, tI, .all hb⟩
end NC

/-! ### short words, further -/
namespace NC
open PySem L2
theorem hotP {α β γ : Prop} (a : α) (b : β) (f : α → β → γ) : γ := f a b
section
variable {G : Ct} {M : Mo} {m : Md} {a : Expr} {f : F} {x cx fld : Str} {pe p1 p2 pos : Pos} {mt : Str → Option Bool} {cs : List Str}
theorem xat (i : Nat) (hc : ∀ c, cs.contains c = true → ∀ C0, M.T.cls c = some C0 → XfC M.T.K C0 ∧ PySem.W.findIn M.T.K (.ref C0) fld = some none) (h : varX G i x = true := by decide +kernel)
    (hb : ∀ env, attributeBase (.Name x pe) fld env (eval (.Name x pe) env) = eval (.Name x pe) env := by intro _; rfl) : SndE G M .esc (.Attribute (.Name x pe) fld pos) (bXat i cs fld) := let h := varX_ok h; sn_xat h.1 h.2.1 hc h.2.2.1 h.2.2.2 hb
theorem xis (hb : Bn M) (i : Nat) (hc : ∃ CE, M.mg cx = some (.ref CE) ∧ ∀ c b, mt c = some b → ∀ C0, M.T.cls c = some C0 → ExcC M.T.K C0 ∧ PySem.W.kitOne M.T.K (.ref C0) (.ref CE) = some b)
    (h : varX G i x = true := by decide +kernel) (h1 : glX G ("isinstance" : Str) = true := by decide +kernel) (h2 : glX G cx = true := by decide +kernel) : SndE G M m (.Call (.Name "isinstance" p1) [.Name x pe, .Name cx p2] [] pos) (bXis i mt) :=
  let h := varX_ok h; sn_xis h.1 h.2.1 (glX_ok h1).1 (hb _ (by decide +kernel)) (glX_ok h2).1 hc h.2.2.1 h.2.2.2 (glX_ok h2).2.1
theorem isc (hb : Bn M) (hc : ∃ CE, M.mg cx = some (.ref CE) ∧ ∀ c b, mt c = some b → ∀ C0, M.T.cls c = some C0 → InsC M.T.K C0 ∧ PySem.W.kitOne M.T.K (.ref C0) (.ref CE) = some b) (ha : SndE G M .rd a f)
    (h1 : glX G ("isinstance" : Str) = true := by decide +kernel) (h2 : glX G cx = true := by decide +kernel) (hs : ∀ env, starEach (a :: [.Name cx p2]) env = (false, eval a env) :: starEach [.Name cx p2] env := by intro _; rfl) :
    SndE G M m (.Call (.Name "isinstance" p1) [a, .Name cx p2] [] pos) (bIsC mt f) := sn_isC (glX_ok h1).1 (hb _ (by decide +kernel)) (glX_ok h2).1 hc ha hs (glX_ok h2).2.1
end
end NC

/-! ### tables of classes at the head -/
namespace NC
open PySem L2
structure PairAt (R : Addr → Addr → Bool → Prop) (K : PySem.W.Frag) (c cx : Str) (b : Bool) : Prop where
  ex : ∃ C0 CE : Addr, PySem.W.nsIn K mainGlobals c = some (some (.ref C0)) ∧ PySem.W.nsIn K mainGlobals cx = some (some (.ref CE)) ∧ R C0 CE b
theorem lookup_in {l : List (Str × Bool)} {c : Str} {b : Bool} (h : l.lookup c = some b) : (c, b) ∈ l := by
  induction l with
  | nil => cases h
  | cons p l ih =>
    obtain ⟨x, y⟩ := p
    by_cases hx : c = x
    · subst hx
      simp [List.lookup] at h
      subst h
      exact List.mem_cons_self
    · have hb : (c == x) = false := by simpa using hx
      simp only [List.lookup, hb] at h
      exact List.mem_cons_of_mem _ (ih h)
theorem tbl_mk {R : Addr → Addr → Bool → Prop} {K : PySem.W.Frag} {h : Heap} {mg : Str → Option Value} {cx : Str} {CE : Addr} {l : List (Str × Bool)} (X : K.In h) (G : h.Ns mainGlobals mg) (a : PySem.W.nsIn K mainGlobals cx = some (some (.ref CE))) (hp : ∀ p ∈ l, PairAt R K p.1 cx p.2) :
    ∃ CE, mg cx = some (.ref CE) ∧ ∀ c b, l.lookup c = some b → ∀ C0, (Tx K).cls c = some C0 → R C0 CE b := by
  refine ⟨CE, PySem.W.mg_of X G a, fun c b e C0 hc => ?_⟩
  obtain ⟨C1, CE1, h1, h2, h3⟩ := (hp _ (lookup_in e)).ex
  rw [a] at h2
  cases h2
  rw [Tx_cls h1] at hc
  cases hc
  exact h3
abbrev ExmR (K : PySem.W.Frag) (C0 CE : Addr) (b : Bool) : Prop := PySem.W.exmOne K (.ref C0) (.ref CE) = some b
abbrev IsxR (K : PySem.W.Frag) (C0 CE : Addr) (b : Bool) : Prop := ExcC K C0 ∧ PySem.W.kitOne K (.ref C0) (.ref CE) = some b
abbrev IscR (K : PySem.W.Frag) (C0 CE : Addr) (b : Bool) : Prop := InsC K C0 ∧ PySem.W.kitOne K (.ref C0) (.ref CE) = some b
section
variable {K : PySem.W.Frag} {c cx : Str} {C0 CE : Addr} {b : Bool}
theorem kitOne_self : PySem.W.kitOne K (.ref C0) (.ref C0) = some true := by
  unfold PySem.W.kitOne
  rw [if_pos (by simp)]
theorem kitOne_other (hne : (C0 == CE) = false) (hd : PySem.W.hasDictIn K CE = true) (ht : PySem.W.typeIn K (.ref CE) = some (.type "type")) (hs : PySem.W.subIn K (.ref C0) (.ref CE) = some b) : PySem.W.kitOne K (.ref C0) (.ref CE) = some b := by
  obtain ⟨cd, hc, _⟩ := PySem.W.any_some hd
  have hn : (Value.ref C0 == Value.ref CE) = false := by
    have : C0 ≠ CE := by simpa using hne
    simp [this]
  have e2 : ((PySem.W.clsIn K CE).isSome && PySem.W.typeIn K (.ref CE) == some (.type "type")) = true := by rw [hc, ht] <;> rfl
  unfold PySem.W.kitOne
  rw [if_neg (by rw [hn]; decide)]
  show (if ((PySem.W.clsIn K CE).isSome && PySem.W.typeIn K (.ref CE) == some (.type "type")) = true then PySem.W.subIn K (.ref C0) (.ref CE) else none) = some b
  rw [if_pos e2]
  exact hs
theorem exm_mk (a : PySem.W.nsIn K mainGlobals c = some (some (.ref C0))) (a2 : PySem.W.nsIn K mainGlobals cx = some (some (.ref CE))) (h1 : PySem.W.subIn K (.ref CE) (.type "BaseException") = some true) (hd : PySem.W.hasDictIn K CE = true) (ht : PySem.W.typeIn K (.ref CE) = some (.type "type")) (h4 : PySem.W.subIn K (.ref C0) (.ref CE) = some b) : PairAt (ExmR K) K c cx b :=
  ⟨C0, CE, a, a2, PySem.W.exm_ref h1 hd ht h4⟩
theorem isx_mk (a : PySem.W.nsIn K mainGlobals c = some (some (.ref C0))) (a2 : PySem.W.nsIn K mainGlobals cx = some (some (.ref CE))) (e : ExcC K C0) (k : PySem.W.kitOne K (.ref C0) (.ref CE) = some b) : PairAt (IsxR K) K c cx b := ⟨C0, CE, a, a2, e, k⟩
theorem isc_mk (a : PySem.W.nsIn K mainGlobals c = some (some (.ref C0))) (a2 : PySem.W.nsIn K mainGlobals cx = some (some (.ref CE))) (e : InsC K C0) (k : PySem.W.kitOne K (.ref C0) (.ref CE) = some b) : PairAt (IscR K) K c cx b := ⟨C0, CE, a, a2, e, k⟩
end
/-- fields of an exception -/
structure XfAt (K : PySem.W.Frag) (c f : Str) : Prop where
  ex : ∃ C0 : Addr, PySem.W.nsIn K mainGlobals c = some (some (.ref C0)) ∧ XfC K C0 ∧ PySem.W.findIn K (.ref C0) f = some none
theorem xf_mk {K : PySem.W.Frag} {cs : List Str} {f : Str} (h : ∀ c ∈ cs, XfAt K c f) : ∀ c, cs.contains c = true → ∀ C0, (Tx K).cls c = some C0 → XfC K C0 ∧ PySem.W.findIn K (.ref C0) f = some none := fun c hc C0 e => by
  obtain ⟨C1, h1, h2, h3⟩ := (h c (by simpa using hc)).ex
  rw [Tx_cls h1] at e
  cases e
  exact ⟨h2, h3⟩
end NC

/-! ### words: names, numbers, joined texts (no program in sight) -/
namespace NC
open PySem L2
def lets : List Nat := ("abcdefghijklmnopqrstuvwxyz" : Str).cps.toList
def digs : List Nat := ("0123456789" : Str).cps.toList
def keys : List Str := ["asset", "contract", "var", "hold", "proc", "shown", "hidden", "end", "set", "need", "give", "get", "move", "ask", "call", "if", "else", "given", "have", "out", "mod"]
/-- what a name is -/
def nameL (l : List Nat) : Bool := decide (0 < l.length) && decide (l.length ≤ 12) && decide (l.getD 0 0 ∈ lets) && !decide (tx l ∈ keys) && l.all fun c => decide (c ∈ lets) || decide (c ∈ digs)
def isNm (w : Str) : Bool := nameL w.cps.toList
/-- what a number is -/
def numOk (l : List Nat) : Bool := decide (0 < l.length) && decide (l.length ≤ 5) && (l.all fun c => decide (c ∈ digs)) && !(decide (ch (l.getD 0 0) = ("0" : Str)) && !decide (tx l = ("0" : Str))) && decide (NumText.digitsVal l ≤ 65535)
def numO (w : Str) : Option Nat := if numOk w.cps.toList = true then some (NumText.digitsVal w.cps.toList) else none
abbrev numW (n : Nat) : Str := Str.ofString (toString ((n : Nat) : Int))
theorem digs_iff (c : Nat) : c ∈ digs ↔ (48 ≤ c ∧ c ≤ 57) := by
  have key : digs = [48, 49, 50, 51, 52, 53, 54, 55, 56, 57] := by decide +kernel
  rw [key]; simp; omega
theorem numW_tl (n : Nat) : (numW n).cps.toList = TL.numL n := TL.tl_num n
theorem rev_ind {P : List Nat → Prop} (h0 : P []) (hs : ∀ l c, P l → P (l ++ [c])) (l : List Nat) : P l := by
  have : P l.reverse.reverse := by
    induction l.reverse with
    | nil => exact h0
    | cons c r ih => rw [List.reverse_cons]; exact hs _ _ ih
  rwa [List.reverse_reverse] at this
theorem numL_pos : ∀ (l : List Nat), NumText.AllDigits l → l ≠ [] → l.head? ≠ some 48 → 0 < NumText.digitsVal l := by
  intro l
  refine rev_ind (P := fun l => NumText.AllDigits l → l ≠ [] → l.head? ≠ some 48 → 0 < NumText.digitsVal l) ?_ ?_ l
  · intro _ h; exact absurd rfl h
  · intro l c ih
    intro ha _ hh
    rw [NumText.digitsVal_snoc]
    cases l with
    | nil =>
      have := ha c (by simp)
      simp at hh
      have : c ≠ 48 := hh
      have h2 := (ha c (by simp)).1
      show 0 < 0 * 10 + (c - 48)
      omega
    | cons d l =>
      have := ih (fun x hx => ha x (List.mem_append_left _ hx)) (by simp) (by simpa using hh)
      omega
theorem numL_back : ∀ (l : List Nat), NumText.AllDigits l → l ≠ [] → (l.head? ≠ some 48 ∨ l = [48]) → TL.numL (NumText.digitsVal l) = l := by
  intro l
  refine rev_ind (P := fun l => NumText.AllDigits l → l ≠ [] → (l.head? ≠ some 48 ∨ l = [48]) → TL.numL (NumText.digitsVal l) = l) ?_ ?_ l
  · intro _ h; exact absurd rfl h
  · intro l c ih
    intro ha _ hh
    have hc := ha c (by simp)
    rw [NumText.digitsVal_snoc]
    cases l with
    | nil =>
      show TL.numL (0 * 10 + (c - 48)) = [c]
      rw [TL.numL_lt (by omega), show 48 + (0 * 10 + (c - 48)) = c by omega]
    | cons d l =>
      have hh' : (d :: l).head? ≠ some 48 := by
        rcases hh with h | h
        · simpa using h
        · simp at h
      have hd : NumText.AllDigits (d :: l) := fun x hx => ha x (List.mem_append_left _ hx)
      have hp := numL_pos (d :: l) hd (by simp) hh'
      have hi := ih hd (by simp) (.inl hh')
      rw [TL.numL_step (by omega), show (NumText.digitsVal (d :: l) * 10 + (c - 48)) / 10 = NumText.digitsVal (d :: l) by omega, hi,
        show 48 + (NumText.digitsVal (d :: l) * 10 + (c - 48)) % 10 = c by omega]
theorem ch_zero (c : Nat) : ch c = ("0" : Str) ↔ c = 48 := by
  constructor
  · intro h
    have := congrArg (fun s : Str => s.cps.toList) h
    have h0 : (("0" : Str).cps.toList) = [48] := by decide +kernel
    simpa [h0] using this
  · intro h; subst h; decide +kernel
theorem tx_zero (l : List Nat) : tx l = ("0" : Str) ↔ l = [48] := by
  constructor
  · intro h
    have := congrArg (fun s : Str => s.cps.toList) h
    have h0 : (("0" : Str).cps.toList) = [48] := by decide +kernel
    simpa [h0] using this
  · intro h; subst h; decide +kernel
/-- THE WORD THAT WRITES A NUMBER is the number's own -/
theorem numO_back {w : Str} {n : Nat} (h : numO w = some n) : w = numW n ∧ n ≤ 65535 := by
  unfold numO at h
  split at h
  case isTrue h1 =>
    cases h
    unfold numOk at h1
    simp only [Bool.and_eq_true, decide_eq_true_eq] at h1
    obtain ⟨⟨⟨⟨h2, h3⟩, h4⟩, h5⟩, h6⟩ := h1
    refine ⟨TL.ext_tl ?_, h6⟩
    show w.cps.toList = (numW _).cps.toList
    rw [numW_tl]
    have ha : NumText.AllDigits w.cps.toList := fun c hc => by
      have := List.all_eq_true.mp h4 c hc
      exact (digs_iff c).mp (by simpa using this)
    refine (numL_back _ ha (by intro e; rw [e] at h2; cases h2) ?_).symm
    generalize w.cps.toList = l at *
    cases l with
    | nil => cases h2
    | cons c l =>
      by_cases hc : c = 48
      · right
        subst hc
        have h0 : ch 48 = ("0" : Str) := by decide +kernel
        simp [h0] at h5
        exact (tx_zero _).mp h5
      · left; simpa using hc
  case isFalse => cases h
theorem numO_num {n : Nat} (h : n ≤ 65535) : numO (numW n) = some n := by
  have hd := TL.numL_digits n
  have hv := TL.numL_val n
  have hne := TL.numL_ne n
  have hl := TL.numL_len (n := n) (k := 5) (by omega) (by omega)
  unfold numO numOk
  rw [numW_tl, hv]
  have h1 : 0 < (TL.numL n).length := by
    cases q : TL.numL n with
    | nil => exact absurd q hne
    | cons => simp
  have h4 : ((TL.numL n).all fun c => decide (c ∈ digs)) = true := List.all_eq_true.mpr fun c hc => by
    simpa using (digs_iff c).mpr (hd c hc)
  have h5 : (decide (ch ((TL.numL n).getD 0 0) = ("0" : Str)) && !decide (tx (TL.numL n) = ("0" : Str))) = false := by
    by_cases hn : n < 10
    · rw [TL.numL_lt hn]
      by_cases h0 : 48 + n = 48
      · rw [h0]; decide +kernel
      · have : ¬ ch (48 + n) = ("0" : Str) := fun e => h0 ((ch_zero _).mp e)
        simp [this]
    · have : ∀ m, 0 < m → (TL.numL m).getD 0 0 ≠ 48 := by
        intro m
        induction m using Nat.strongRecOn with
        | ind m ih =>
          intro hm
          by_cases h10 : m < 10
          · rw [TL.numL_lt h10]; simp; omega
          · rw [TL.numL_step (by omega)]
            have i := ih (m / 10) (by omega) (by omega)
            have hn := TL.numL_ne (m / 10)
            cases q : TL.numL (m / 10) with
            | nil => exact absurd q hn
            | cons c r => rw [q] at i; simpa using i
      have t := this n (by omega)
      have : ¬ ch ((TL.numL n).getD 0 0) = ("0" : Str) := fun e => t ((ch_zero _).mp e)
      simp only [this, decide_false, Bool.false_and]
  rw [if_pos]
  simp only [h5, h4, Bool.and_eq_true, decide_eq_true_eq, Bool.not_false, and_true]
  exact ⟨⟨h1, hl⟩, h⟩
theorem numW_len {n : Nat} (h : n ≤ 65535) : (numW n).length ≤ 5 := by
  rw [TL.len_tl]
  show (numW n).cps.toList.length ≤ 5
  rw [numW_tl]
  exact TL.numL_len (by omega) (by omega)
theorem numW_inj {m n : Nat} (h : numW m = numW n) : m = n := by
  have := congrArg (fun s : Str => s.cps.toList) h
  simp only [numW_tl] at this
  exact TL.numL_inj this
theorem isNm_len {w : Str} (h : isNm w = true) : w.length ≤ 12 := by
  unfold isNm nameL at h
  simp only [Bool.and_eq_true, decide_eq_true_eq] at h
  rw [TL.len_tl]
  exact h.1.1.1.2
theorem lets_rng {c : Nat} (h : c ∈ lets) : 97 ≤ c ∧ c ≤ 122 := by
  have key : ∀ c ∈ lets, 97 ≤ c ∧ c ≤ 122 := by decide +kernel
  exact key c h
/-- a word without blanks -/
def noSp (w : Str) : Prop := 32 ∉ w.cps.toList
theorem isNm_sp {w : Str} (h : isNm w = true) : noSp w := by
  unfold isNm nameL at h
  simp only [Bool.and_eq_true, decide_eq_true_eq] at h
  intro hm
  have := List.all_eq_true.mp h.2 32 hm
  simp at this
  rcases this with t | t
  · have := lets_rng t; omega
  · have := (digs_iff 32).mp t; omega
theorem numW_sp (n : Nat) : noSp (numW n) := by
  unfold noSp
  rw [numW_tl]
  exact TL.numL_free (by omega)
/-- THE READ-BACK -/
theorem split_sp {ws : List Str} (h : ws ≠ []) (hp : ∀ w ∈ ws, noSp w) : Txt.split (Txt.join (" " : Str) ws) (" " : Str) = ws :=
  TL.split_join (s := 32) (S := []) (by decide +kernel) (by decide +kernel) h hp
theorem join_ne {ws : List Str} (h : ws ≠ []) (h2 : ws ≠ [("" : Str)]) : Txt.join (" " : Str) ws ≠ ("" : Str) := by
  intro e
  rw [TL.join_eq] at e
  have t := TL.tl_join (" " : Str) ws
  rw [e] at t
  have e1 : TL.tl (" " : Str) = [32] := by decide +kernel
  have e0 : TL.tl ("" : Str) = [] := by decide +kernel
  rw [e1, e0] at t
  match ws, h, h2, t with
  | [w], _, h2, t => 
    apply h2
    have : TL.tl w = TL.tl ("" : Str) := by rw [e0]; exact t.symm
    rw [TL.ext_tl this]
  | w :: v :: r, _, _, t =>
    simp [TL.joinL] at t
theorem join_nil : Txt.join (" " : Str) [] = ("" : Str) := by decide +kernel
/-- how long the joined text is -/
theorem sum_le {ws : List Str} {k : Nat} (h : ∀ w ∈ ws, w.length ≤ k) : (ws.map (·.length)).sum ≤ ws.length * k := by
  induction ws with
  | nil => simp
  | cons w ws ih =>
    have h1 := h w (List.mem_cons_self ..)
    have h2 := ih fun x hx => h x (List.mem_cons_of_mem _ hx)
    rw [List.map_cons, List.sum_cons, List.length_cons, Nat.succ_mul]
    omega
theorem joinL_len : ∀ ps : List (List Nat), (TL.joinL [32] ps).length ≤ (ps.map (·.length)).sum + ps.length
  | [] => Nat.zero_le _
  | [p] => by simp [TL.joinL]
  | p :: q :: r => by
    have := joinL_len (q :: r)
    simp [TL.joinL] at this ⊢
    omega
theorem join_len (ws : List Str) : (Txt.join (" " : Str) ws).length ≤ (ws.map (·.length)).sum + ws.length := by
  rw [TL.join_eq, TL.len_tl, TL.tl_join, show TL.tl (" " : Str) = [32] by decide +kernel]
  refine Nat.le_trans (joinL_len _) ?_
  rw [List.map_map, List.length_map]
  have : ((fun p : List Nat => p.length) ∘ TL.tl) = fun w : Str => w.length := by
    funext w; exact (TL.len_tl w).symm
  rw [show (List.length ∘ TL.tl) = fun w : Str => w.length from this]
  exact Nat.le_refl _
/-! ### what reading words gives -/
inductive PR (α : Type) where
  | ok (v : α) (r : List Str)
  | bad (r : List Str)
def PR.bind {α β : Type} (p : PR α) (k : α → List Str → PR β) : PR β := match p with
  | .ok v r => k v r
  | .bad r => .bad r
@[simp] theorem PR.bind_ok {α β : Type} (v : α) (r : List Str) (k : α → List Str → PR β) : (PR.ok v r).bind k = k v r := rfl
@[simp] theorem PR.bind_bad {α β : Type} (r : List Str) (k : α → List Str → PR β) : (PR.bad r : PR α).bind k = .bad r := rfl
theorem PR.bind_eq_ok {α β : Type} {p : PR α} {k : α → List Str → PR β} {v : β} {r : List Str} (h : p.bind k = .ok v r) : ∃ u r1, p = .ok u r1 ∧ k u r1 = .ok v r := by
  cases p with
  | ok u r1 => exact ⟨u, r1, rfl, h⟩
  | bad r1 => cases h
end NC

/-! ### == of objects by their own __eq__ -/
namespace NC
open PySem L2
/-- two objects of one class: which def compares them -/
def eqTab (tab : List (Str × Str)) (st : Sto) : D → D → Option Str
  | .loc n, .loc k => match st[n]?, st[k]? with
    | some (.ins c _), some (.ins c2 _) => if c = c2 then tab.lookup c else none
    | _, _ => none
  | _, _ => none
def onlyB : R D → R D
  | .ok (.bl b) st => .ok (.bl b) st
  | _ => .stuck
def kEqO (cl : Calls) (tab : List (Str × Str)) (a b : D) (st : Sto) : R D := match eqTab tab st a b with
  | some x => onlyB (cl x [(.esc, a), (.esc, b)] st)
  | none => kEq a b st
theorem eqTab_cases (tab : List (Str × Str)) (st : Sto) (a b : D) : eqTab tab st a b = none ∨ ∃ n k c fs gs x, a = .loc n ∧ b = .loc k ∧ st[n]? = some (.ins c fs) ∧ st[k]? = some (.ins c gs) ∧ tab.lookup c = some x ∧ eqTab tab st a b = some x := by
  unfold eqTab
  split
  · rename_i n k
    split
    · rename_i c fs c2 gs q1 q2
      by_cases hc : c = c2
      · subst hc
        rw [if_pos rfl]
        cases q3 : tab.lookup c with
        | none => exact .inl rfl
        | some x => exact .inr ⟨n, k, c, fs, gs, x, rfl, rfl, q1, q2, q3, rfl⟩
      · rw [if_neg hc]; exact .inl rfl
    · exact .inl rfl
  · exact .inl rfl
def rEqO (X : Cx) : R2 := fun x y H Q => ∃ (a b C dx dy f : Addr) (fs gs : List (Str × V)) (k : Nat) (fd : FuncData) (ps : List Str) (sp : Sp), x = .ref a ∧ y = .ref b ∧ H a = some (.ins C dx fs) ∧ H b = some (.ins C dy gs) ∧ Meth X.K C "__eq__" f ∧ Binds X.K fd ps [] ∧ Room k X.A ∧ X.A.units + 64 < cLine ∧
  FnOk X.prog X.w X.K X.mg X.base (L2N.CX X.prog X.w) k f fd ps sp ∧ ∀ E, sp [.ref a, .ref b] H (fun v H' => (∃ r, v = .bl r) ∧ Q v H') E
theorem op_eqO {X : Cx} {W : WX} (hx : ∀ σ, PassesAt (L2N.CX X.prog X.w) X σ (WE W σ)) : OpR X (compareOp .Eq) (rEqO X) := by
  intro pins s σ H x y v u Q I rx ry hq
  obtain ⟨a, b, C, dx, dy, f, fs, gs, k, fd, ps, sp, rfl, rfl, ha, hb', hm, hb, hr, hu, F, hs⟩ := hq
  cases rx
  cases ry
  show wpAny (model X.prog X.w) X.A (richCompare .Eq (.ref a) (.ref b)) (EP X pins σ Q) X.xe s
  obtain ⟨mA, J, _⟩ := ins_get I.hok ha
  obtain ⟨mB, J', _⟩ := ins_get I.hok hb'
  obtain ⟨od, J, _⟩ := J.look
  obtain ⟨od', J', _⟩ := J'.look
  obtain ⟨m, hF⟩ := I.fr
  refine PySem.W.cmp_K (op := .Eq) (tb := .ref C) (by omega) hF I.ok.mod.kin J J'.type (by simp [PySem.W.notFirst]) hm.at_ hm.fn ?_
  have hsp := hs (WE W σ)
  have hl := F.len _ _ _ _ hsp
  have r2 : Vals [V.ref a, V.ref b] [Value.ref a, Value.ref b] := .cons rfl (.cons rfl .nil)
  refine wpAny_call (codeAny_mono (F.run X.A X.stack s H ⟨[.ref a, .ref b], []⟩ [.ref a, .ref b] [.ref a, .ref b] _ (WE W σ) hr I.env0 (by
    have := hb s [.ref a, .ref b] I.kIn (by simpa using hl)
    simpa using this) r2 hsp) fun r s' hq => ?_)
  cases r with
  | error e => exact hx σ pins H s e s' I hq
  | ok fl =>
    cases fl with
    | ret w =>
      obtain ⟨z, H', I', rz, ⟨r, ez⟩, ex⟩ := I.after hq
      subst ez
      cases rz
      exact ⟨.bl r, H', I', rfl, ex⟩
    | next => exact False.elim hq
    | brk => exact False.elim hq
    | cont => exact False.elim hq
section
variable {G : Ct} {M : Mo} {m : Md}
theorem os_eqO {tab : List (Str × Str)} (hm : M.hot = false) (htab : ∀ c y, tab.lookup c = some y → MethOk M c "__eq__" y) : OpS G M m (compareOp .Eq) (kEqO M.cl tab) := by
  intro X C gd
  obtain ⟨r, h1, h2⟩ := os_eq (G := G) (M := M) (m := m) X C gd
  have hK : X.K = C.T.K := by rw [gd.K, gd.T]
  refine ⟨_, h1.or (op_eqO (W := C.W) fun σ => L2N.passAt gd.tk σ), fun env σ w H st d1 d2 v1 v2 Q s r1 r2 p => ?_⟩
  unfold kEqO at p
  rcases eqTab_cases tab st d1 d2 with z | ⟨n, k, c, fs, gs, x, rfl, rfl, q1, q2, q3, z⟩
  · rw [z] at p
    exact .inl (h2 env σ w H st d1 d2 v1 v2 Q s r1 r2 p)
  · rw [z] at p
    obtain ⟨a, rfl, e1⟩ := RepR.loc r1
    obtain ⟨b, rfl, e2⟩ := RepR.loc r2
    obtain ⟨C0, dx, fv, ⟨k0, k1, k2⟩, k3, k4⟩ := s.sto.at_ n _ a q1 e1
    obtain ⟨C0', dy, gv, ⟨l0, l1, l2⟩, l3, l4⟩ := s.sto.at_ k _ b q2 e2
    obtain ⟨C1, fa, fd, ps, j0, j1, j2, j3⟩ := (htab c x q3).ex
    rw [k0] at l0
    cases l0
    rw [← gd.T, k0] at j0
    cases j0
    refine .inr ⟨a, b, C0, dx, dy, fa, fv, gv, M.n, fd, ps, spOf M.T M.cl x, rfl, rfl, k3, l3, by rw [gd.K]; exact j1, by rw [gd.K]; exact j2, (gd.cold hm).2.1, gd.units, by rw [gd.p, gd.w, gd.K, gd.mg, gd.base]; exact j3, fun E => ?_⟩
    rw [← gd.T]
    refine ⟨[(.esc, .loc n), (.esc, .loc k)], w, st, .esc (.loc e1) (.esc (.loc e2) .nil), s.sto, s.al, ?_⟩
    dsimp only at p
    cases q : M.cl x [(.esc, .loc n), (.esc, .loc k)] st with
    | stuck => rw [q] at p; exact p.elim
    | exc xx st2 => rw [q] at p; exact p.elim
    | ok d st2 =>
      rw [q] at p
      cases d with
      | bl t =>
        rintro v H' ⟨r, l, hst, rep⟩
        cases rep
        exact ⟨⟨t, rfl⟩, p ⟨w.S, r⟩ (.bl t) H' l (s.back l hst) (RepM.bl t)⟩
      | _ => exact p.elim
end
/-! reckoning -/
section
variable {cl : Calls} {tab : List (Str × Str)} {st : Sto}
@[simp] theorem kEqO_int (i : Int) (b : D) : kEqO cl tab (.int i) b st = kEq (.int i) b st := rfl
@[simp] theorem kEqO_str (i : Str) (b : D) : kEqO cl tab (.str i) b st = kEq (.str i) b st := rfl
@[simp] theorem kEqO_bl (i : Bool) (b : D) : kEqO cl tab (.bl i) b st = kEq (.bl i) b st := rfl
@[simp] theorem kEqO_non (b : D) : kEqO cl tab .non b st = kEq .non b st := rfl
@[simp] theorem kEqO_tup (i : List D) (b : D) : kEqO cl tab (.tup i) b st = kEq (.tup i) b st := rfl
@[simp] theorem kEqO_lst (i : List D) (b : D) : kEqO cl tab (.lst i) b st = kEq (.lst i) b st := rfl
theorem kEqO_loc {n k : Nat} {c x : Str} {fs gs : List (Str × D)} (h1 : st[n]? = some (.ins c fs)) (h2 : st[k]? = some (.ins c gs)) (h3 : tab.lookup c = some x) : kEqO cl tab (.loc n) (.loc k) st = onlyB (cl x [(.esc, .loc n), (.esc, .loc k)] st) := by
  unfold kEqO eqTab
  dsimp only
  rw [h1, h2]
  dsimp only
  rw [if_pos rfl, h3]
@[simp] theorem onlyB_bl (b : Bool) : onlyB (.ok (.bl b) st) = .ok (.bl b) st := rfl
end
end NC

/-! ### more reckoning -/
namespace NC
open PySem L2
section
variable {α : Type} {a b c d e : α} {l : List α}
@[simp] theorem atI_0 : atI (a :: l) 0 = some a := atI_nat (j := 0) rfl
@[simp] theorem atI_1 : atI (a :: b :: l) 1 = some b := atI_nat (j := 1) rfl
@[simp] theorem atI_2 : atI (a :: b :: c :: l) 2 = some c := atI_nat (j := 2) rfl
@[simp] theorem atI_3 : atI (a :: b :: c :: d :: l) 3 = some d := atI_nat (j := 3) rfl
@[simp] theorem atI_4 : atI (a :: b :: c :: d :: e :: l) 4 = some e := atI_nat (j := 4) rfl
@[simp] theorem atI_m1 : atI [a] (-1) = some a := rfl
@[simp] theorem atI_m2 : atI [a, b] (-1) = some b := rfl
@[simp] theorem atI_m3 : atI [a, b, c] (-1) = some c := rfl
@[simp] theorem atI_m4 : atI [a, b, c, d] (-1) = some d := rfl
@[simp] theorem atI_m5 : atI [a, b, c, d, e] (-1) = some e := rfl
end
@[simp] theorem cut_m1 (a : D) : cutD [a] none (some (-1)) = [] := rfl
@[simp] theorem cut_m2 (a b : D) : cutD [a, b] none (some (-1)) = [a] := rfl
@[simp] theorem cut_m3 (a b c : D) : cutD [a, b, c] none (some (-1)) = [a, b] := rfl
@[simp] theorem cut_m4 (a b c d : D) : cutD [a, b, c, d] none (some (-1)) = [a, b, c] := rfl
theorem cut_take (ds : List D) (k : Nat) : cutD ds none (some (k : Int)) = ds.take k := by
  unfold cutD
  rw [HT.sIx_nat, HT.sIx_none, List.drop_zero, Nat.sub_zero]
  by_cases h : k ≤ ds.length
  · rw [Nat.min_eq_left h]
  · rw [Nat.min_eq_right (by omega), List.take_of_length_le (Nat.le_refl _), List.take_of_length_le (by omega)]
theorem cut_drop (ds : List D) (k : Nat) : cutD ds (some (k : Int)) none = ds.drop k := by
  unfold cutD
  rw [HT.sIx_nat, HT.sIx_none]
  by_cases h : k ≤ ds.length
  · rw [Nat.min_eq_left h, List.take_of_length_le (by rw [List.length_drop]; exact Nat.le_refl _)]
  · rw [Nat.min_eq_right (by omega), List.drop_of_length_le (Nat.le_refl _), List.drop_of_length_le (by omega), List.take_nil]
theorem cut_mid (ds : List D) (a b : Nat) (h : b ≤ ds.length) (h2 : a ≤ b) : cutD ds (some (a : Int)) (some (b : Int)) = (ds.drop a).take (b - a) := by
  unfold cutD
  rw [HT.sIx_nat, HT.sIx_nat, Nat.min_eq_left h, Nat.min_eq_left (by omega)]
theorem log2_le {n : Nat} (h : n < 2 ^ 64) : (((n : Nat) : Int)).natAbs.log2 < 1920 := by
  rw [Int.natAbs_natCast]
  by_cases h0 : n = 0
  · subst h0; decide
  · exact (Nat.log2_lt h0).mpr (Nat.lt_of_lt_of_le h (Nat.pow_le_pow_right (by decide) (by decide)))
theorem kStr_num {n : Nat} (h : n < 2 ^ 64) (st : Sto) : kStr [.int n] st = .ok (.str (numW n)) st := by
  rw [kStr_int, if_pos (log2_le h)]
/-- texts that are written are told apart -/
theorem ofS_inj {a b : String} : Str.ofString a = Str.ofString b ↔ a = b := by
  constructor
  · intro h
    have := congrArg TL.tl h
    rw [TL.tl_ofString, TL.tl_ofString] at this
    have h2 : a.toList = b.toList := by
      have inj : ∀ (l m : List Char), l.map Char.toNat = m.map Char.toNat → l = m := by
        intro l
        induction l with
        | nil => intro m h; cases m with | nil => rfl | cons => cases h
        | cons c l ih =>
          intro m h
          cases m with
          | nil => cases h
          | cons d m =>
            rw [List.map_cons, List.map_cons] at h
            injection h with h1 h2
            rw [ih m h2, show c = d from Char.ext (UInt32.toNat_inj.mp h1)]
      exact inj _ _ this
    exact String.toList_inj.mp h2
  · intro h; rw [h]
theorem get_mid (A B : Sto) (x : Cell) : (A ++ x :: B)[A.length]? = some x := by simp
theorem set_mid (A B : Sto) (x y : Cell) : (A ++ x :: B).set A.length y = A ++ y :: B := by simp
theorem sz6 : 1000000 ≤ sizeLine := by rw [sizeLine_eq]; decide
theorem whL_step (c : FB) (body : FS) (n : Nat) (env : Ev) (st : Sto) : whL c body (n + 1) env st = (c env st).outB env fun b st1 => if b = true then (match body env st1 with
      | .next env2 st2 => whL c body n env2 st2
      | .cont env2 st2 => whL c body n env2 st2
      | .brk env2 st2 => .next env2 st2
      | o => o) else .next env st1 := rfl
/-- x of a written tuple or list -/
theorem kIx_tupM {α : Type} (g : α → D) (xs : List α) {i : Int} {st : Sto} (h0 : 0 ≤ i) (h1 : i < xs.length) : ∃ x, x ∈ xs ∧ kIx (.tup (xs.map g)) (.int i) st = .ok (g x) st := by
  obtain ⟨k, rfl⟩ := Int.eq_ofNat_of_zero_le h0
  have hk : k < xs.length := by omega
  exact ⟨xs[k], List.getElem_mem hk, kIx_tup_of (atI_nat (by rw [List.getElem?_map, List.getElem?_eq_getElem hk]; rfl))⟩
theorem kIx_lstM {α : Type} (g : α → D) (xs : List α) {i : Int} {st : Sto} (h0 : 0 ≤ i) (h1 : i < xs.length) : ∃ x, x ∈ xs ∧ kIx (.lst (xs.map g)) (.int i) st = .ok (g x) st := by
  obtain ⟨k, rfl⟩ := Int.eq_ofNat_of_zero_le h0
  have hk : k < xs.length := by omega
  exact ⟨xs[k], List.getElem_mem hk, kIx_lst_of (atI_nat (by rw [List.getElem?_map, List.getElem?_eq_getElem hk]; rfl))⟩
end NC

/-! ### a list or tuple times a number -/
namespace L2
open PySem PySem.Spec PyProof.Rows
open PySem.SeqAt PySem.MeetsSeq PySem.MeetsSeq2 PySem.MeetsSeq3 PySem.SeqRoads2 PySem.AutoSeq1
theorem op_repR {X : Cx} : OpR X (binaryOp .Mult) (fun x y H Q => ∃ l k xs, x = .ref l ∧ y = .int k ∧ NC.LstAt X.K H l xs ∧ -(2 ^ 63) ≤ k ∧ k < 2 ^ 63 ∧ xs.length * k.toNat ≤ sizeLine ∧
  ∀ p, H p = none → Q (.ref p) (upd H p (.lst (List.replicate k.toNat xs).flatten))) := by
  intro pins s σ H x y v u Q I rx ry h
  obtain ⟨l, k, xs, rfl, rfl, hH, h1, h2, hz, q⟩ := h
  cases rx
  obtain ⟨t, rfl⟩ := ry
  obtain ⟨z, its, n, r, hl, e⟩ := I.lstR hH
  have hlen : its.toArray.size * k.toNat ≤ sizeLine := by rw [List.size_toArray, ← hl]; exact hz
  have hcap : ¬ its.toArray.size * k.toNat > (2 ^ 63 - 1) / 8 := by
    have : (sizeLine : Nat) ≤ (2 ^ 63 - 1) / 8 := by decide
    omega
  have hfit : ¬ (!Builtin.List.listFitsIndex k) = true := by
    rw [fitsIndex_both h1 h2]
    exact Bool.false_ne_true
  have hlong : ¬ Builtin.List.listTooLong (its.toArray.size * k.toNat) = true := by
    rw [notLongL hlen]
    exact Bool.false_ne_true
  have hnew : List.foldl (fun x1 x2 => x1 ++ x2) #[] (List.replicate (if its.toArray.isEmpty = true then 0 else k.toNat) its.toArray) = (List.replicate k.toNat its).flatten.toArray := by
    have f0 : ∀ m : Nat, List.foldl (fun x1 x2 => x1 ++ x2) #[] (List.replicate m its.toArray) = (List.replicate m its).flatten.toArray := fun m => by
      have := foldl_rep its m []
      rw [List.nil_append] at this
      exact this
    rw [f0]
    cases its with
    | nil => simp
    | cons a r' => rw [if_neg (by simp)]
  refine wpAny_binaryOp_repeat_ref (T := "list") (U := "int") (by decide) ⟨_, e, rfl⟩ (fun s' => typeIs_int s' k t) noFill_list_mul F.fills_int_mul F.slot_int_rmul repeat_list F.slot_int_index.lookup
    (call_meets F.slot_int_rmul (typeIs_int s k t) F.entry_int_rmul (F.args_int_rmul_2 _ _) (int___rmul___int_list k t l its.toArray n)
      ⟨e, rfl, ⟨_, e, rfl⟩, call_meets F.slot_list_mul ⟨_, e, rfl⟩ F.entry_list_mul (F.args_list_mul_2 _ _) (AutoListH.list___mul___list_int_3 l its.toArray n k t hfit hcap hlong) ⟨e, ?_⟩⟩)
  rw [hnew]
  exact ⟨.ref _, _, I.lnew (t' := s.toks) (r.rep k.toNat) (by rw [PyProof.Rows.lm_len_rep_flat, Nat.mul_comm]; exact hz), rfl, q _ I.fresh⟩
end L2
namespace NC
open PySem L2
theorem Reps.rep {K : PySem.W.Frag} {w : Wd} {H : Hp} {vs : List V} {ds : List D} (h : Reps K w H vs ds) : ∀ k : Nat, Reps K w H (List.replicate k vs).flatten (List.replicate k ds).flatten
  | 0 => .nil
  | k + 1 => by
    rw [List.replicate_succ, List.flatten_cons, List.replicate_succ, List.flatten_cons]
    exact h.append (Reps.rep h k)
def kMulL : D → D → Sto → R D
  | .lst xs, .int k, st => if -(2 ^ 63) ≤ k ∧ k < 2 ^ 63 ∧ xs.length * k.toNat ≤ sizeLine then .ok (.lst (List.replicate k.toNat xs).flatten) st else .stuck
  | .tup xs, .int k, st => if xs ≠ [] ∧ 2 ≤ k ∧ k ≤ 1000 ∧ xs.length ≤ 1000 then .ok (.tup (List.replicate k.toNat xs).flatten) st else .stuck
  | a, b, st => kMul a b st
section
variable {G : Ct} {M : Mo} {m : Md} {X : Cx} {C : Cf}
theorem os_mulL : OpS G M .fr (binaryOp .Mult) kMulL := by
  intro X C g
  obtain ⟨r, h1, h2⟩ := os_mul (G := G) (M := M) (m := .fr) X C g
  refine ⟨_, h1.or (op_repR.or op_repT), fun env σ w H st d1 d2 v1 v2 Q s r1 r2 p => ?_⟩
  rw [show X.K = C.T.K from g.K.trans (by rw [g.T])]
  unfold kMulL at p
  split at p
  · split at p
    · rename_i hc
      obtain ⟨a, vs, rfl, e1, n1, q1⟩ := r1.lst
      cases r2.int
      exact .inr (.inl ⟨a, _, vs, rfl, rfl, e1, hc.1, hc.2.1, by rw [q1.length]; exact hc.2.2, fun pp hp => p.lst s (Reps.rep q1 _) hp⟩)
    · exact p.elim
  · split at p
    · rename_i hc
      obtain ⟨a, vs, rfl, e1, q1⟩ := r1.tup
      cases r2.int
      exact .inr (.inr ⟨a, _, vs, rfl, rfl, e1, (fun z => by subst z; cases q1; exact hc.1 rfl), hc.2.1, hc.2.2.1, by rw [q1.length]; exact hc.2.2.2, fun pp hp => p.tup s (Reps.rep q1 _) hp⟩)
    · exact p.elim
  · exact .inl (h2 env σ w H st _ _ v1 v2 Q s r1 r2 p)
end
section
variable {st : Sto}
@[simp] theorem kMulL_int (i : Int) (b : D) : kMulL (.int i) b st = kMul (.int i) b st := rfl
theorem kMulL_lst (xs : List D) (k : Nat) (h : k < 2 ^ 63) (h2 : xs.length * k ≤ sizeLine) : kMulL (.lst xs) (.int k) st = .ok (.lst (List.replicate k xs).flatten) st := by
  unfold kMulL
  dsimp only
  rw [Int.toNat_natCast]
  refine if_pos ⟨?_, ?_, h2⟩
  · have : (0 : Int) ≤ ((k : Nat) : Int) := Int.natCast_nonneg k
    exact Int.le_trans (by decide) this
  · exact Int.ofNat_lt.mpr h
end
end NC

/-! ### the law's own text: tests that say no, statements that go on -/
namespace NC
open PySem L2
section
variable {a b c : FB} {e r : F} {f : FS} {G : FS} {env : Ev} {st : Sto}
/-- a test that says no, whatever it makes -/
def No (c : FB) (env : Ev) (st : Sto) : Prop := ∃ T, c env st = .ok false (st ++ T)
/-- the rest says True -/
def Yes (G : FS) (env : Ev) (st : Sto) : Prop := ∃ st', fin (G env st) = .ok (.bl true) st'
theorem no_of (h : c env st = .ok false st) : No c env st := ⟨[], by rw [h, List.append_nil]⟩
theorem if_no (h : No c env st) (k : ∀ T, Yes G env (st ++ T)) : Yes (sCons (sIf c f sNil) G) env st := by
  obtain ⟨T, h⟩ := h
  obtain ⟨st', k⟩ := k T
  refine ⟨st', ?_⟩
  rw [sCons_eq, sIf_eq, h, outB_ok, if_neg Bool.false_ne_true, sNil_eq, seq_next, k]
theorem if_noN (h : No c env st) : ∃ T, sIf c f sNil env st = .next env (st ++ T) := by
  obtain ⟨T, h⟩ := h
  exact ⟨T, by rw [sIf_eq, h, outB_ok, if_neg Bool.false_ne_true, sNil_eq]⟩
theorem or_no (ha : No a env st) (hb : ∀ T, No b env (st ++ T)) : No (bOrT a b) env st := by
  obtain ⟨T, ha⟩ := ha
  obtain ⟨U, hb⟩ := hb T
  exact ⟨T ++ U, by rw [bOrT_eq, ha, bind_ok, if_neg Bool.false_ne_true, hb, List.append_assoc]⟩
theorem and_no (ha : No a env st) : No (bAndT a b) env st := by
  obtain ⟨T, ha⟩ := ha
  exact ⟨T, by rw [bAndT_eq, ha, bind_ok, if_neg Bool.false_ne_true]⟩
theorem and_no2 {T : Sto} (ha : a env st = .ok true (st ++ T)) (hb : No b env (st ++ T)) : No (bAndT a b) env st := by
  obtain ⟨U, hb⟩ := hb
  exact ⟨T ++ U, by rw [bAndT_eq, ha, bind_ok, if_pos rfl, hb, List.append_assoc]⟩
theorem not_no {T : Sto} (ha : a env st = .ok true (st ++ T)) : No (bNotT a) env st := ⟨T, by rw [bNotT_eq, ha]; rfl⟩
theorem set_yes {i : Nat} {d : D} (he : e env st = .ok d st) (hi : i < env.length) (k : Yes G (env.set i (slotOf d)) st) : Yes (sCons (sSet i e) G) env st := by
  obtain ⟨st', k⟩ := k
  exact ⟨st', by rw [sCons_eq, sSet_eq, he, out_ok, if_pos hi, seq_next, k]⟩
theorem asg_yes {i : Nat} {d : D} {st1 : Sto} (he : e env st = .ok d st1) (hi : i < env.length) (k : Yes G (env.set i (some (.frz, d))) st1) : Yes (sCons (sAsg (tgName i) e) G) env st := by
  obtain ⟨st', k⟩ := k
  exact ⟨st', by rw [sCons_eq, sAsg_eq, he, out_ok, setE_name, if_pos hi, seq_next, k]⟩
theorem stm_yes {s : FS} {env' : Ev} {st1 : Sto} (h : s env st = .next env' st1) (k : Yes G env' st1) : Yes (sCons s G) env st := by
  obtain ⟨st', k⟩ := k
  exact ⟨st', by rw [sCons_eq, h, seq_next, k]⟩
/-- a loop that changes its own name alone -/
theorem for_keep {i : Nat} {b : FS} : ∀ {ds : List D} {env : Ev} {st : Sto}, i < env.length → (∀ d ∈ ds, ∀ T, ∃ U, b (env.set i (some (.frz, d))) (st ++ T) = .next (env.set i (some (.frz, d))) (st ++ T ++ U)) → ∃ T s, forL (tgName i) b ds env st = .next (env.set i s) (st ++ T)
  | [], env, st, hi, h => ⟨[], env[i], by rw [List.set_getElem_self, List.append_nil]; rfl⟩
  | d :: ds, env, st, hi, h => by
    obtain ⟨U, hU⟩ := h d (List.mem_cons_self ..) []
    rw [List.append_nil] at hU
    obtain ⟨T, s, ih⟩ := for_keep (i := i) (b := b) (ds := ds) (env := env.set i (some (.frz, d))) (st := st ++ U) (by rw [List.length_set]; exact hi) (fun x hx T => by
      rw [List.set_set, List.append_assoc]
      exact h x (List.mem_cons_of_mem _ hx) (U ++ T))
    exact ⟨U ++ T, s, by rw [forL_name _ _ _ _ hi, hU, turn_next, ih, List.set_set, List.append_assoc]⟩
theorem for_yes {fi : FL} {i : Nat} {b : FS} {ds : List D} {st1 : Sto} (hf : fi env st = .ok ds st1) (hi : i < env.length) (h : ∀ d ∈ ds, ∀ T, ∃ U, b (env.set i (some (.frz, d))) (st1 ++ T) = .next (env.set i (some (.frz, d))) (st1 ++ T ++ U))
    (k : ∀ T s, Yes G (env.set i s) (st1 ++ T)) : Yes (sCons (sFor fi (tgName i) b) G) env st := by
  obtain ⟨T, s, hT⟩ := for_keep hi h
  exact stm_yes (by rw [sFor_L, hf, outL_ok, hT]) (k T s)
end
theorem cut_takeM (g : α → D) (ws : List α) (k : Nat) : cutD (ws.map g) none (some (k : Int)) = (ws.take k).map g := by rw [cut_take, List.map_take]
theorem cut_dropM (g : α → D) (ws : List α) (k : Nat) : cutD (ws.map g) (some (k : Int)) none = (ws.drop k).map g := by rw [cut_drop, List.map_drop]
theorem keep_at {st T : Sto} {c : Nat} {x : Cell} (h : st[c]? = some x) : (st ++ T)[c]? = some x := by
  rw [List.getElem?_append_left]
  · exact h
  · exact (List.getElem?_eq_some_iff.mp h).1
end NC

/-! ### list(range(n)), sorted of two ints, a list that is unpacked -/
namespace NC
open PySem L2
def bLRg (f : F) : F := fun env st => (f env st).bind fun d st1 => match d with
  | .int n => if 0 ≤ n ∧ n ≤ 16777216 then .ok (.lst (rngD 0 n)) st1 else .stuck
  | _ => .stuck
theorem reps_rg {K : PySem.W.Frag} {w : Wd} {H : Hp} (n : Int) : Reps K w H (rgV 0 n) (rngD 0 n) := by
  unfold rgV rngD
  induction List.range (n - 0).toNat with
  | nil => exact .nil
  | cons i l ih => exact .cons (.int _) ih
section
variable {G : Ct} {M : Mo} {m : Md} {ms : List Md} {X : Cx} {C : Cf} {a b c e o tg : Expr} {es : List Expr} {f g h fe fo : F} {fl : FL} {p1 p2 pos pos2 : Pos}
theorem sn_lrg (hm : M.hot = false) (hb : Bn M) (he : SndE G M .rd e f) (h : glX G ("range" : Str) = true := by decide +kernel) (h2 : glX G ("list" : Str) = true := by decide +kernel)
    (na : ∀ env, starEach [e] env = (false, eval e env) :: starEach [] env := by intro _; rfl)
    (na2 : ∀ env, starEach [.Call (.Name "range" p2) [e] [] pos2] env = (false, eval (.Call (.Name "range" p2) [e] [] pos2) env) :: starEach [] env := by intro _; rfl) :
    SndE G M .fr (.Call (.Name "list" p1) [.Call (.Name "range" p2) [e] [] pos2] [] pos) (bLRg f) := by
  intro X C gd
  have hr := glX_ok h
  have hl := glX_ok h2
  have g1 : Gl X ("range" : Str) := by show X.env.scope.names.lookup _ = _; rw [gd.sc]; exact hr.1
  have g2 : Gl X ("list" : Str) := by show X.env.scope.names.lookup _ = _; rw [gd.sc]; exact hl.1
  refine (pe_listRg (gd.cold hm).1 g2 (by rw [gd.mg]; exact hb "list" (by decide +kernel)) (prg_1 g1 (by rw [gd.mg]; exact hb "range" (by decide +kernel)) (he X C gd) (na _)) (na2 _)).imp fun σ H Q ⟨w, env, st, s, p⟩ => ⟨w, env, st, s, PostE.bind p fun d st1 w1 v1 H1 l1 s1 r1 p1 => ?_⟩
  cases d with
  | int n =>
    have p' : PostE C .fr env σ w1 H1 (if 0 ≤ n ∧ n ≤ 16777216 then .ok (.lst (rngD 0 n)) st1 else .stuck) Q := p1
    split at p'
    · rename_i hn
      have r2 : RepR C.T.K w1 H1 v1 (.int n) := r1
      cases r2.int
      exact ⟨n, rfl, RgOk.of_le (by omega) hn.2 (by omega) hn.1, fun q hq => PostE.lst p' s1 (reps_rg n) hq⟩
    · exact p'.elim
  | _ => exact p1.elim
/-- sorted of two ints -/
def kSort2 : List D → Sto → R D
  | [.lst [.int i, .int j]], st => .ok (.lst (if i ≤ j then [.int i, .int j] else [.int j, .int i])) st
  | _, _ => .stuck
theorem bu_sort2 : BuS G M .fr [.rd] (.builtin "sorted") kSort2 := by
  refine fun X C gd => ⟨_, cr_sortedI, fun env σ w H st ds vs Q s r0 p => ?_⟩
  rw [show X.K = C.T.K from gd.K.trans (by rw [gd.T])]
  obtain ⟨v, d, rfl, rfl, r⟩ := r0.rd1
  cases d with
  | lst ds =>
    obtain ⟨a, us, rfl, e3, n, rs⟩ := r.lst
    match ds, p, rs with
    | [.int i, .int j], p, rs =>
      cases rs with
      | cons r1 rs =>
        cases rs with
        | cons r2 rs =>
          cases rs
          cases r1
          cases r2
          refine ⟨a, [i, j], rfl, e3.sq, fun ns' pp hperm hpw hp => ?_⟩
          have hl := hperm.length_eq
          match ns', hl, hperm, hpw with
          | [x, y], _, hperm, hpw =>
            have hxy : x ≤ y := by
              cases hpw with
              | cons h1 _ => exact h1 y (List.mem_singleton.mpr rfl)
            have key : [x, y] = if i ≤ j then [i, j] else [j, i] := by
              have hx : x ∈ [i, j] := hperm.mem_iff.mp (by simp)
              have hi : i ∈ [x, y] := hperm.mem_iff.mpr (by simp)
              have hj : j ∈ [x, y] := hperm.mem_iff.mpr (by simp)
              have hy : y ∈ [i, j] := hperm.mem_iff.mp (by simp)
              simp at hx hi hj hy
              split
              · have : x = i ∧ y = j := by omega
                rw [this.1, this.2]
              · have : x = j ∧ y = i := by omega
                rw [this.1, this.2]
            rw [key]
            have p' : PostE C .fr env σ w H (.ok (.lst (if i ≤ j then [D.int i, .int j] else [.int j, .int i])) st) Q := p
            refine PostE.lst p' s ?_ hp
            split
            · exact .cons (.int _) (.cons (.int _) .nil)
            · exact .cons (.int _) (.cons (.int _) .nil)
    | [], p, _ => exact p.elim
    | [.int _], p, _ => exact p.elim
    | .int _ :: .int _ :: _ :: _, p, _ => exact p.elim
    | .non :: _, p, _ => exact p.elim
    | .bl _ :: _, p, _ => exact p.elim
    | .str _ :: _, p, _ => exact p.elim
    | .tup _ :: _, p, _ => exact p.elim
    | .lst _ :: _, p, _ => exact p.elim
    | .loc _ :: _, p, _ => exact p.elim
    | .int _ :: .non :: _, p, _ => exact p.elim
    | .int _ :: .bl _ :: _, p, _ => exact p.elim
    | .int _ :: .str _ :: _, p, _ => exact p.elim
    | .int _ :: .tup _ :: _, p, _ => exact p.elim
    | .int _ :: .lst _ :: _, p, _ => exact p.elim
    | .int _ :: .loc _ :: _, p, _ => exact p.elim
  | _ => exact p.elim
@[simp] theorem kSort2_eq (i j : Int) (st : Sto) : kSort2 [.lst [.int i, .int j]] st = .ok (.lst (if i ≤ j then [.int i, .int j] else [.int j, .int i])) st := rfl
end
/-- a list, unpacked -/
def tgUnl (u : List D → Ev → Option Ev) : Tg
  | .lst ds, env => u ds env
  | _, _ => none
section
variable {G : Ct} {M : Mo} {pos : Pos}
theorem sg_unl {es : List Expr} {is : List Nat} {k : Nat} {u : List D → Ev → Option Ev} (hm : M.hot = false) (h : SndGs G M es is u) (hn : ∀ ds env env', u ds env = some env' → ds.length = es.length)
    (hl : ∀ env, (assignEach es env).length = es.length := by intro _; rfl) (hst : ∀ env, (assignEach es env).findIdx? (·.1) = none := by intro _; rfl) : SndG G M (.Tuple es k pos) is (tgUnl u) := by
  intro X C gd
  refine (pg_unl (gd.cold hm).1 (h X C gd) (hl _) (hst _)).imp fun v σ H Q ⟨w, env, st, d, s, r, hh⟩ => ?_
  rw [show X.K = C.T.K from gd.K.trans (by rw [gd.T])]
  cases d with
  | lst ds =>
    obtain ⟨a, us, rfl, e3, _, rs⟩ := RepR.lst (.inl r)
    refine ⟨_, _, rfl, e3.sq, ?_, w, env, st, ds, s, rs, hh⟩
    have hh' : (match u ds env with | some env' => ∀ σ' : St, Sim C.T C.B w env' st σ' H → Keep is σ σ' → Q σ' H | none => False) := hh
    rw [rs.length]
    cases q : u ds env with
    | none => rw [q] at hh'; exact hh'.elim
    | some env' => exact hn _ _ _ q
  | _ => exact hh.elim
end
end NC

/-! ### houses as data (no program in sight) -/
namespace NC
open PySem L2
def opS : List Str := ["+", "-", "*", "/", "mod", "<", "="]
inductive Ex where
  | num (n : Nat)
  | var (x : Str)
  | giv
  | hav (a : Str)
  | out (a : Str)
  | op (s : Str) (l r : Ex)
def Ex.d : Ex → D
  | .num n => .tup [.str "number", .int n]
  | .var x => .tup [.str "variable", .str x]
  | .giv => .tup [.str "given"]
  | .hav a => .tup [.str "have", .str a]
  | .out a => .tup [.str "out", .str a]
  | .op s l r => .tup [.str s, l.d, r.d]
/-- names that are known, at most k deep -/
def Ex.ok (V A : List Str) : Nat → Ex → Prop
  | _, .num n => n ≤ 3
  | _, .var x => x ∈ V
  | _, .giv => True
  | _, .hav a => a ∈ A
  | _, .out a => a ∈ A
  | 0, .op _ _ _ => False
  | k + 1, .op s l r => s ∈ opS ∧ l.ok V A k ∧ r.ok V A k
theorem Ex.ok_up {V A : List Str} : ∀ {k : Nat} {e : Ex}, e.ok V A k → e.ok V A (k + 1)
  | 0, .num _, h => h
  | _ + 1, .num _, h => h
  | 0, .var _, h => h
  | _ + 1, .var _, h => h
  | 0, .giv, h => h
  | _ + 1, .giv, h => h
  | 0, .hav _, h => h
  | _ + 1, .hav _, h => h
  | 0, .out _, h => h
  | _ + 1, .out _, h => h
  | 0, .op _ _ _, h => absurd h id
  | k + 1, .op s l r, h => ⟨h.1, Ex.ok_up h.2.1, Ex.ok_up h.2.2⟩
mutual
inductive Sm where
  | set (v : Str) (e : Ex)
  | need (e : Ex)
  | give (a : Str) (e : Ex)
  | get (a : Str) (e : Ex)
  | ask (v : Str) (n : Nat)
  | call (c p : Str) (e : Ex)
  | move (c a : Str) (e : Ex)
  | ife (e : Ex) (t o : Bl)
inductive Bl where
  | nil
  | cons (s : Sm) (b : Bl)
end
mutual
def Sm.d : Sm → D
  | .set v e => .tup [.str "set", .str v, e.d]
  | .need e => .tup [.str "need", e.d]
  | .give a e => .tup [.str "give", .str a, e.d]
  | .get a e => .tup [.str "get", .str a, e.d]
  | .ask v n => .tup [.str "ask", .str v, .int n]
  | .call c p e => .tup [.str "call", .str c, .str p, e.d]
  | .move c a e => .tup [.str "move", .str c, .str a, e.d]
  | .ife e t o => .tup [.str "if", e.d, .tup t.ds, .tup o.ds]
def Bl.ds : Bl → List D
  | .nil => []
  | .cons s b => s.d :: b.ds
end
mutual
/-- questions -/
def Sm.asks : Sm → Nat
  | .ask _ _ => 1
  | .ife _ t o => t.asks + o.asks
  | _ => 0
def Bl.asks : Bl → Nat
  | .nil => 0
  | .cons s b => s.asks + b.asks
end
def Bl.len : Bl → Nat
  | .nil => 0
  | .cons _ b => b.len + 1
mutual
/-- names that are known; ifs at most d deep -/
def Sm.ok (V A : List Str) (K : List (Str × Str)) : Nat → Sm → Prop
  | _, .set v e => v ∈ V ∧ e.ok V A 3
  | _, .need e => e.ok V A 3
  | _, .give a e => a ∈ A ∧ e.ok V A 3
  | _, .get a e => a ∈ A ∧ e.ok V A 3
  | _, .ask v n => v ∈ V ∧ 1 ≤ n ∧ n ≤ 2
  | _, .call c p e => (c, p) ∈ K ∧ e.ok V A 3
  | _, .move _ _ _ => False
  | 0, .ife _ _ _ => False
  | d + 1, .ife e t o => e.ok V A 3 ∧ t.ok V A K d ∧ o.ok V A K d ∧ t.len ≤ 1 ∧ o.len ≤ 1
def Bl.ok (V A : List Str) (K : List (Str × Str)) : Nat → Bl → Prop
  | _, .nil => True
  | d, .cons s b => s.ok V A K d ∧ b.ok V A K d
end
def Bl.app : Bl → Bl → Bl
  | .nil, c => c
  | .cons s b, c => .cons s (b.app c)
theorem Bl.ds_app : ∀ (b c : Bl), (b.app c).ds = b.ds ++ c.ds
  | .nil, c => by rw [Bl.app, Bl.ds]; rfl
  | .cons s b, c => by rw [Bl.app, Bl.ds, Bl.ds, Bl.ds_app b c]; rfl
theorem Bl.asks_app : ∀ (b c : Bl), (b.app c).asks = b.asks + c.asks
  | .nil, c => by rw [Bl.app, Bl.asks, Nat.zero_add]
  | .cons s b, c => by rw [Bl.app, Bl.asks, Bl.asks, Bl.asks_app b c, Nat.add_assoc]
theorem Bl.ok_app {V A : List Str} {K : List (Str × Str)} {d : Nat} : ∀ {b c : Bl}, b.ok V A K d → c.ok V A K d → (b.app c).ok V A K d
  | .nil, c, _, h => by rw [Bl.app]; exact h
  | .cons s b, c, h, h2 => by
    rw [Bl.app]
    rw [Bl.ok] at h ⊢
    exact ⟨h.1, Bl.ok_app h.2 h2⟩
theorem Bl.len_app : ∀ (b c : Bl), (b.app c).len = b.len + c.len
  | .nil, c => by rw [Bl.app, Bl.len, Nat.zero_add]
  | .cons s b, c => by rw [Bl.app, Bl.len, Bl.len, Bl.len_app b c]; omega
theorem Bl.ds_len : ∀ b : Bl, b.ds.length = b.len
  | .nil => by rw [Bl.ds, Bl.len]; rfl
  | .cons s b => by rw [Bl.ds, Bl.len, List.length_cons, Bl.ds_len b]
def Sm.isCall : Sm → Bool
  | .call _ _ _ => true
  | _ => false
def Bl.calls : Bl → Nat
  | .nil => 0
  | .cons s b => (if s.isCall = true then 1 else 0) + b.calls
structure Pr where
  n : Str
  z : Nat
  sh : Bool
  b : Bl
def Pr.d (p : Pr) : D := .tup [.str p.n, .int p.z, .bl p.sh, .tup p.b.ds]
def vrD (v : Str × Nat × Nat) : D := .tup [.str v.1, .int v.2.1, .int v.2.2]
def hdD (h : Str × Nat) : D := .tup [.str h.1, .int h.2]
structure Co where
  n : Str
  vs : List (Str × Nat × Nat)
  hs : List (Str × Nat)
  ps : List Pr
def Co.d (c : Co) : D := .tup [.str c.n, .tup (c.vs.map vrD), .tup (c.hs.map hdD), .tup (c.ps.map Pr.d)]
structure Ho where
  as : List (Str × Nat)
  cs : List Co
/-- a house as a law draws it -/
def Ho.d (h : Ho) : D := .tup [.lst (h.as.map hdD), .lst (h.cs.map Co.d)]
abbrev pairD (p : Str × Str) : D := .tup [.str p.1, .str p.2]
/-- procedures: links and questions that are left, before and behind -/
def PsOk (V A : List Str) (c : Str) : List Str → List (Str × Str) → Nat → List Pr → List (Str × Str) → Nat → Prop
  | _, K, a, [], K', a' => K' = K ∧ a' = a
  | [], _, _, _ :: _, _, _ => False
  | n :: ns, K, a, p :: ps, K', a' => p.n = n ∧ p.z ∈ [1, 2, 3, 5, 64] ∧ p.b.ok V A K 1 ∧ 1 ≤ p.b.len ∧ p.b.len ≤ 4 ∧ ∃ a1, a = a1 + p.b.asks ∧ (PsOk V A c ns (if p.b.calls = 0 then K ++ [(c, n)] else K) a1 ps K' a' ∨ PsOk V A c ns K a1 ps K' a')
theorem PsOk_nil {V A : List Str} {c : Str} {ns : List Str} {K : List (Str × Str)} {a : Nat} {K' : List (Str × Str)} {a' : Nat} : PsOk V A c ns K a [] K' a' ↔ (K' = K ∧ a' = a) := by cases ns <;> exact Iff.rfl
theorem PsOk.snoc {V A : List Str} {c : Str} : ∀ {ns : List Str} {K : List (Str × Str)} {a : Nat} {ps : List Pr} {K1 : List (Str × Str)} {a1 : Nat} {p : Pr} {n : Str} {K2 : List (Str × Str)} {a2 : Nat}, PsOk V A c ns K a ps K1 a1 → ns[ps.length]? = some n → p.n = n → p.z ∈ [1, 2, 3, 5, 64] → p.b.ok V A K1 1 → 1 ≤ p.b.len → p.b.len ≤ 4 → a1 = a2 + p.b.asks → (K2 = (if p.b.calls = 0 then K1 ++ [(c, n)] else K1) ∨ K2 = K1) → PsOk V A c ns K a (ps ++ [p]) K2 a2
  | [], K, a, [], K1, a1, p, n, K2, a2, h, hn, _, _, _, _, _, _, _ => by simp at hn
  | m :: ns, K, a, [], K1, a1, p, n, K2, a2, h, hn, h1, h2, h3, h4, h5, h6, h7 => by
    obtain ⟨rfl, rfl⟩ := h
    simp at hn
    subst hn
    refine ⟨h1, h2, h3, h4, h5, a2, h6, ?_⟩
    rcases h7 with h7 | h7
    · exact .inl (PsOk_nil.mpr ⟨h7, rfl⟩)
    · exact .inr (PsOk_nil.mpr ⟨h7, rfl⟩)
  | [], K, a, q :: ps, K1, a1, p, n, K2, a2, h, hn, _, _, _, _, _, _, _ => by simp at hn
  | m :: ns, K, a, q :: ps, K1, a1, p, n, K2, a2, h, hn, h1, h2, h3, h4, h5, h6, h7 => by
    obtain ⟨g1, g2, g3, g4, g5, b, g6, g7⟩ := h
    have hn' : ns[ps.length]? = some n := by simpa using hn
    refine ⟨g1, g2, g3, g4, g5, b, g6, ?_⟩
    rcases g7 with g7 | g7
    · exact .inl (PsOk.snoc g7 hn' h1 h2 h3 h4 h5 h6 h7)
    · exact .inr (PsOk.snoc g7 hn' h1 h2 h3 h4 h5 h6 h7)
theorem PsOk.len {V A : List Str} {c : Str} : ∀ {ns : List Str} {K : List (Str × Str)} {a : Nat} {ps : List Pr} {K1 : List (Str × Str)} {a1 : Nat}, PsOk V A c ns K a ps K1 a1 → ps.length ≤ ns.length ∧ K1.length ≤ K.length + ps.length ∧ a1 ≤ a
  | ns, K, a, [], K1, a1, h => by
    obtain ⟨rfl, rfl⟩ := PsOk_nil.mp h
    simp
  | [], K, a, p :: ps, K1, a1, h => h.elim
  | n :: ns, K, a, p :: ps, K1, a1, h => by
    obtain ⟨_, _, _, _, _, b, g6, g7⟩ := h
    rcases g7 with g7 | g7
    · have := PsOk.len g7
      simp only [List.length_cons]
      split at this
      · simp at this; omega
      · omega
    · have := PsOk.len g7
      simp only [List.length_cons]
      omega
structure CoOk (A : List Str) (c : Str) (K : List (Str × Str)) (a : Nat) (co : Co) (K' : List (Str × Str)) (a' : Nat) : Prop where
  n : co.n = c
  vs : ∃ k, co.vs.map (·.1) = ([("x" : Str), "y"]).take k
  vz : ∀ v ∈ co.vs, 2 ≤ v.2.1 ∧ v.2.1 ≤ 3 ∧ v.2.2 ≤ 1
  hs : co.hs.map (·.1) = A ∨ co.hs = []
  hz : ∀ h ∈ co.hs, h.2 ≤ 3
  ps : PsOk (co.vs.map (·.1)) A c ["p", "q"] K a co.ps K' a'
def CsOk (A : List Str) : List Str → List (Str × Str) → Nat → List Co → List (Str × Str) → Nat → Prop
  | _, K, a, [], K', a' => K' = K ∧ a' = a
  | [], _, _, _ :: _, _, _ => False
  | n :: ns, K, a, c :: cs, K2, a2 => ∃ K1 a1, CoOk A n K a c K1 a1 ∧ CsOk A ns K1 a1 cs K2 a2
theorem CsOk_nil {A : List Str} {ns : List Str} {K : List (Str × Str)} {a : Nat} {K' : List (Str × Str)} {a' : Nat} : CsOk A ns K a [] K' a' ↔ (K' = K ∧ a' = a) := by cases ns <;> exact Iff.rfl
theorem CsOk.snoc {A : List Str} : ∀ {ns : List Str} {K : List (Str × Str)} {a : Nat} {cs : List Co} {K1 : List (Str × Str)} {a1 : Nat} {c : Co} {n : Str} {K2 : List (Str × Str)} {a2 : Nat}, CsOk A ns K a cs K1 a1 → ns[cs.length]? = some n → CoOk A n K1 a1 c K2 a2 → CsOk A ns K a (cs ++ [c]) K2 a2
  | [], K, a, [], K1, a1, c, n, K2, a2, h, hn, _ => by simp at hn
  | m :: ns, K, a, [], K1, a1, c, n, K2, a2, h, hn, h1 => by
    obtain ⟨rfl, rfl⟩ := h
    simp at hn
    subst hn
    exact ⟨K2, a2, h1, CsOk_nil.mpr ⟨rfl, rfl⟩⟩
  | [], K, a, q :: cs, K1, a1, c, n, K2, a2, h, hn, _ => by simp at hn
  | m :: ns, K, a, q :: cs, K1, a1, c, n, K2, a2, h, hn, h1 => by
    obtain ⟨K0, a0, g1, g2⟩ := h
    exact ⟨K0, a0, g1, CsOk.snoc g2 (by simpa using hn) h1⟩
structure HoOk (ns : List Str) (h : Ho) : Prop where
  as : ∃ k, h.as.map (·.1) = ([("a" : Str), "b"]).take k
  az : ∀ a ∈ h.as, a.2 ≤ 2
  cn : h.cs ≠ []
  cs : ∃ a K' a', a ≤ 2 ∧ CsOk (h.as.map (·.1)) ns [] a h.cs K' a'
end NC

/-! ### dicts: keys as data -/
namespace NC
open PySem L2
def keyOf : D → Option Key
  | .int i => some (.inl i)
  | .str x => some (.inr x)
  | _ => none
def keysOf : List D → Option (List Key)
  | [] => some []
  | d :: r => match keyOf d, keysOf r with
    | some k, some ks => some (k :: ks)
    | _, _ => none
def keysEq : List D → List D → Bool
  | [], [] => true
  | .int i :: r, .int j :: s => decide (i = j) && keysEq r s
  | .str x :: r, .str y :: s => decide (x = y) && keysEq r s
  | _, _ => false
def keyEq : D → D → Bool
  | .int i, .int j => decide (i = j)
  | .str x, .str y => decide (x = y)
  | .tup xs, .tup ys => keysEq xs ys
  | _, _ => false
def lookD : List (D × D) → D → Option D
  | [], _ => none
  | p :: r, y => if keyEq p.1 y = true then some p.2 else lookD r y
def hasD (kvs : List (D × D)) (y : D) : Bool := kvs.any fun p => keyEq p.1 y
def putK' (kvs : List (D × D)) (y d : D) : List (D × D) := if hasD kvs y = true then kvs.map (fun p => if keyEq p.1 y = true then (p.1, d) else p) else kvs ++ [(y, d)]
theorem keyOf_keyD : ∀ k : Key, keyOf (keyD k) = some k
  | .inl _ => rfl
  | .inr _ => rfl
theorem keyOf_some {d : D} {k : Key} (h : keyOf d = some k) : d = keyD k := by
  cases d <;> simp only [keyOf, Option.some.injEq, reduceCtorEq] at h
  · subst h; rfl
  · subst h; rfl
theorem keysOf_some : ∀ {ds : List D} {ks : List Key}, keysOf ds = some ks → ds = ks.map keyD
  | [], ks, h => by simp only [keysOf, Option.some.injEq] at h; subst h; rfl
  | d :: r, ks, h => by
    unfold keysOf at h
    split at h
    · rename_i k ks' h1 h2
      cases h
      rw [List.map_cons, ← keyOf_some h1, ← keysOf_some h2]
    · cases h
theorem keysEq_map : ∀ a b : List Key, keysEq (a.map keyD) (b.map keyD) = decide (a = b)
  | [], [] => rfl
  | [], .inl _ :: _ => rfl
  | [], .inr _ :: _ => rfl
  | .inl _ :: _, [] => rfl
  | .inr _ :: _, [] => rfl
  | .inl i :: r, .inl j :: s => by
    show (decide (i = j) && keysEq (r.map keyD) (s.map keyD)) = _
    rw [keysEq_map r s, ← Bool.decide_and]
    simp
  | .inr i :: r, .inr j :: s => by
    show (decide (i = j) && keysEq (r.map keyD) (s.map keyD)) = _
    rw [keysEq_map r s, ← Bool.decide_and]
    simp
  | .inl i :: r, .inr j :: s => by
    show false = _
    simp
  | .inr i :: r, .inl j :: s => by
    show false = _
    simp
theorem keyEq_keyD : ∀ a b : Key, keyEq (keyD a) (keyD b) = decide (a = b)
  | .inl i, .inl j => by show decide (i = j) = _; simp
  | .inr i, .inr j => by show decide (i = j) = _; simp
  | .inl i, .inr j => by show false = _; simp
  | .inr i, .inl j => by show false = _; simp
theorem keyEq_tup (a b : List Key) : keyEq (.tup (a.map keyD)) (.tup (b.map keyD)) = decide (a = b) := keysEq_map a b
section
variable {κ : Type} [DecidableEq κ] {enc : κ → D} (he : ∀ a b, keyEq (enc a) (enc b) = decide (a = b)) {K : PySem.W.Frag} {w : Wd} {H : Hp}
include he
theorem look_rel (k : κ) : ∀ {kvs : List (D × D)} {ks : List (κ × V)}, kvs.map (·.1) = ks.map (fun p => enc p.1) → Reps K w H (ks.map (·.2)) (kvs.map (·.2)) →
    (lookD kvs (enc k) = none ∧ valV ks k = none) ∨ ∃ d v, lookD kvs (enc k) = some d ∧ valV ks k = some v ∧ Rep K w H v d
  | [], [], _, _ => .inl ⟨rfl, rfl⟩
  | [], _ :: _, h, _ => by cases h
  | _ :: _, [], h, _ => by cases h
  | p :: r, q :: s, h, rr => by
    rw [List.map_cons, List.map_cons] at h
    injection h with h1 h2
    rw [List.map_cons, List.map_cons] at rr
    cases rr with
    | cons r1 r2 =>
      by_cases e : q.1 = k
      · refine .inr ⟨p.2, q.2, ?_, valV_pos e, r1⟩
        unfold lookD
        rw [if_pos (by rw [h1, he, decide_eq_true e])]
      · rcases look_rel k h2 r2 with ⟨z1, z2⟩ | ⟨d, v, z1, z2, z3⟩
        · refine .inl ⟨?_, by rw [valV_neg e]; exact z2⟩
          unfold lookD
          rw [if_neg (by rw [h1, he, decide_eq_false e]; exact Bool.false_ne_true)]
          exact z1
        · refine .inr ⟨d, v, ?_, by rw [valV_neg e]; exact z2, z3⟩
          unfold lookD
          rw [if_neg (by rw [h1, he, decide_eq_false e]; exact Bool.false_ne_true)]
          exact z1
theorem has_rel (k : κ) : ∀ {kvs : List (D × D)} {ks : List (κ × V)}, kvs.map (·.1) = ks.map (fun p => enc p.1) → hasD kvs (enc k) = ks.any fun kv => decide (kv.1 = k)
  | [], [], _ => rfl
  | [], _ :: _, h => by cases h
  | _ :: _, [], h => by cases h
  | p :: r, q :: s, h => by
    rw [List.map_cons, List.map_cons] at h
    injection h with h1 h2
    have ih := has_rel k h2
    unfold hasD at ih ⊢
    rw [List.any_cons, List.any_cons, ih, h1, he]
theorem upd_rel (k : κ) {d : D} {v : V} (rv : Rep K w H v d) : ∀ {kvs : List (D × D)} {ks : List (κ × V)}, kvs.map (·.1) = ks.map (fun p => enc p.1) → Reps K w H (ks.map (·.2)) (kvs.map (·.2)) →
    (kvs.map (fun p => if keyEq p.1 (enc k) = true then (p.1, d) else p)).map (·.1) = (ks.map (fun kv => if kv.1 = k then (kv.1, v) else kv)).map (fun p => enc p.1) ∧
    Reps K w H ((ks.map (fun kv => if kv.1 = k then (kv.1, v) else kv)).map (·.2)) ((kvs.map (fun p => if keyEq p.1 (enc k) = true then (p.1, d) else p)).map (·.2))
  | [], [], _, _ => ⟨rfl, .nil⟩
  | [], _ :: _, h, _ => by cases h
  | _ :: _, [], h, _ => by cases h
  | p :: r, q :: s, h, rr => by
    rw [List.map_cons, List.map_cons] at h
    injection h with h1 h2
    rw [List.map_cons, List.map_cons] at rr
    cases rr with
    | cons r1 r2 =>
      obtain ⟨z1, z2⟩ := upd_rel k rv h2 r2
      by_cases e : q.1 = k
      · have c : keyEq p.1 (enc k) = true := by rw [h1, he, decide_eq_true e]
        simp only [List.map_cons, if_pos c, if_pos e]
        exact ⟨by rw [z1, h1], .cons rv z2⟩
      · have c : ¬ keyEq p.1 (enc k) = true := by rw [h1, he, decide_eq_false e]; exact Bool.false_ne_true
        simp only [List.map_cons, if_neg c, if_neg e]
        exact ⟨by rw [z1, h1], .cons r1 z2⟩
theorem put_rel (k : κ) {d : D} {v : V} (rv : Rep K w H v d) {kvs : List (D × D)} {ks : List (κ × V)} (h : kvs.map (·.1) = ks.map (fun p => enc p.1)) (rr : Reps K w H (ks.map (·.2)) (kvs.map (·.2))) :
    (putK' kvs (enc k) d).map (·.1) = (putK ks k v).map (fun p => enc p.1) ∧ Reps K w H ((putK ks k v).map (·.2)) ((putK' kvs (enc k) d).map (·.2)) := by
  unfold putK' putK
  rw [has_rel he k h]
  by_cases c : (ks.any fun kv => decide (kv.1 = k)) = true
  · rw [if_pos c, if_pos c]
    exact upd_rel he k rv h rr
  · rw [if_neg c, if_neg c]
    rw [List.map_append, List.map_append, List.map_append, List.map_append, h]
    exact ⟨rfl, rr.append (.cons rv .nil)⟩
end
theorem RepR.keyV {K : PySem.W.Frag} {w : Wd} {H : Hp} {v : V} {d : D} {k : Key} (r : RepR K w H v d) (h : keyOf d = some k) : v = kV k := by
  cases d <;> simp only [keyOf, Option.some.injEq, reduceCtorEq] at h
  · subst h; exact r.int
  · subst h; exact r.str
theorem Reps.keysV {K : PySem.W.Frag} {w : Wd} {H : Hp} : ∀ {vs : List V} {ds : List D} {ks : List Key}, Reps K w H vs ds → keysOf ds = some ks → vs = ks.map kV
  | _, _, ks, .nil, h => by simp only [keysOf, Option.some.injEq] at h; subst h; rfl
  | _, _, ks, .cons r t, h => by
    unfold keysOf at h
    split at h
    · rename_i k ks' h1 h2
      cases h
      rw [List.map_cons, ← RepR.keyV (.inl r) h1, ← Reps.keysV t h2]
    · cases h

/-! ### a new cell -/
def Wd.cellAt (w : Wd) (p : Addr) : Wd := ⟨fun b => w.S b ∧ b ≠ p, w.r ++ [p]⟩
theorem Sim.newCell {T : Tb} {B : Bs} {w0 w : Wd} {env : Ev} {st0 st : Sto} {σ : L2.St} {H0 H : Hp} {p : Addr} {o : HO} {c : Cell} (s0 : Sim T B w0 env st0 σ H0) (hp : H0 p = none) (l : Le w0 H0 w H) (s : Sim T B w env st σ H) (hS : w.S p)
    (hi : ∀ o', H p = some o' → ¬ Imm o') : Ok2 w H (w.cellAt p) (upd H p o) ∧ (CellOk T (w.cellAt p) (upd H p o) p c → Le w0 H0 (w.cellAt p) (upd H p o) ∧ Sim T B (w.cellAt p) env (st ++ [c]) σ (upd H p o)) ∧ (w.cellAt p).r[st.length]? = some p := by
  have nb : ∀ b, H0 b ≠ none → b ≠ p := fun b hb z => hb (z ▸ hp)
  have nr : p ∉ w.r := (s.al p hS).2
  have pre2 : ∀ (n : Nat) b, w.r[n]? = some b → (w.cellAt p).r[n]? = some b := fun n b e => by
    show (w.r ++ [p])[n]? = some b
    rw [List.getElem?_append_left]
    · exact e
    · rcases Nat.lt_or_ge n w.r.length with z | z
      · exact z
      · rw [List.getElem?_eq_none z] at e; cases e
  have nm : ∀ b, b ∉ w.r → b ≠ p → b ∉ (w.cellAt p).r := fun b h1 h2 z => by
    rcases List.mem_append.mp z with z | z
    · exact h1 z
    · exact h2 (List.mem_singleton.mp z)
  have ok : Ok2 w H (w.cellAt p) (upd H p o) := ⟨pre2, fun b u e im => by
    rw [upd_ne (fun z => hi u (by rw [← z]; exact e) im)]; exact e, fun b u e n1 n2 => by
    have hb : b ≠ p := fun z => n1 (z ▸ hS)
    exact ⟨by rw [upd_ne hb]; exact e, fun z => n1 z.1, nm b n2 hb⟩⟩
  have Ba : B.H p = none := by
    cases q1 : B.H p with
    | none => rfl
    | some o => obtain ⟨o', e'⟩ := s0.le.live p o q1; rw [hp] at e'; cases e'
  have nB : ∀ b, B.H b ≠ none → b ≠ p := fun b z e => z (e ▸ Ba)
  have hat : (w.cellAt p).r[st.length]? = some p := by
    show (w.r ++ [p])[st.length]? = some p
    rw [s.sto.len, List.getElem?_append_right (Nat.le_refl _), Nat.sub_self]; rfl
  refine ⟨ok, fun hc => ⟨⟨fun n b e => pre2 n b (l.pre n b e), fun b u e n => ?_, fun b u e => ?_, fun b z => ?_, fun b z => l.S b z.1, fun b z => ⟨l.Sm b z, nb b (s0.al b z).1⟩⟩, ?_⟩, hat⟩
  · rw [upd_ne (nb b (by rw [e]; exact fun z => nomatch z))]; exact l.fr b u e n
  · rw [upd_ne (nb b (by rw [e]; exact fun z => nomatch z))]; exact l.live b u e
  · rcases List.mem_append.mp z with z | z
    · exact l.new b z
    · rw [List.mem_singleton.mp z]; exact .inr hp
  refine ⟨s.len, fun i sl e => ?_, s.dist, ⟨?_, ?_, fun i c b h1 h2 => ?_⟩, fun b z => ⟨?_, nm b (s.al b z.1).2 z.2⟩, ⟨fun n b e => pre2 n b (s.le.pre n b e), fun b u e n => ?_, fun b u e => ?_, fun b z => ?_, fun b z => s.le.S b z.1, fun b z => ⟨s.sub b z, nB b (s.bal b z)⟩⟩, fun b z => ⟨s.sub b z, nB b (s.bal b z)⟩, s.bal,
          fun pp hp => (s.pin pp hp).to ok fun a0 u e n b => ⟨by rw [upd_ne (nB a0 b)]; exact e, nm a0 n (nB a0 b)⟩⟩
  · have q := s.slot i sl e
    have q0 := s0.slot i sl e
    match sl, q, q0 with
    | none, _, _ => trivial
    | some (.frz, d), ⟨v, e, r⟩, _ => exact ⟨v, e, Rep.to ok _ _ r⟩
    | some (.own, d), ⟨b, us, ds, f1, f2, f3, r, f4, f5⟩, ⟨b', us', ds', g1, g2, g3, _⟩ =>
      rw [g1] at f1; cases f1
      have hb : b ≠ p := nb _ (by rw [g3]; intro z; cases z)
      exact ⟨_, us, ds, g1, f2, by rw [upd_ne hb]; exact f3, Reps.to ok _ _ r, ⟨f4, hb⟩, f5⟩
    | some (.bor, d), ⟨b, us, ds, f1, f2, r, f4⟩, _ => exact ⟨b, us, ds, f1, f2, Reps.to ok _ _ r, f4.to fun a0 u e n bb => ⟨by rw [upd_ne (nB a0 bb)]; exact e, nm a0 n (nB a0 bb)⟩⟩
    | some (.exc, d), ⟨b, c, cls, dd, f, v0, ee, g1, g2, g3, g4, g5, g6, r⟩, _ =>
      have hd : dd ≠ p := fun z => g5 (by rw [z]; exact hS)
      exact ⟨b, c, cls, dd, f, v0, ee, g1, g2, g3, by rw [upd_ne hd]; exact g4, fun z => g5 z.1, nm dd g6 hd, Rep.to ok _ _ r⟩
  · show (st ++ [_]).length = (w.r ++ [p]).length
    rw [List.length_append, List.length_append, s.sto.len]; rfl
  · show (w.r ++ [p]).Nodup
    refine List.nodup_append.mpr ⟨s.sto.nd, by simp, fun b hb c hc e => nr ?_⟩
    rw [List.mem_singleton.mp hc] at e
    exact e ▸ hb
  · by_cases hi : i < st.length
    · rw [List.getElem?_append_left hi] at h1
      have h2' : w.r[i]? = some b := by
        have := h2
        rw [show (w.cellAt p).r = w.r ++ [p] from rfl, List.getElem?_append_left (by rw [← s.sto.len]; exact hi)] at this
        exact this
      have hb : b ≠ p := fun z => nr (z ▸ List.mem_of_getElem? h2')
      exact (s.sto.at_ i c b h1 h2').to ok (upd_ne hb)
    · have hi2 : st.length ≤ i := Nat.le_of_not_lt hi
      rw [List.getElem?_append_right hi2] at h1
      rw [show (w.cellAt p).r = w.r ++ [p] from rfl, List.getElem?_append_right (by rw [← s.sto.len]; exact hi2), ← s.sto.len] at h2
      match hk : i - st.length, h1, h2 with
      | 0, h1, h2 =>
        cases h1; cases h2
        exact hc
      | k + 1, h1, h2 => simp at h1
  · rw [upd_ne z.2]; exact (s.al b z.1).1
  · rw [upd_ne (nB b (by rw [e]; exact fun z => nomatch z))]; exact s.le.fr b u e n
  · rw [upd_ne (nB b (by rw [e]; exact fun z => nomatch z))]; exact s.le.live b u e
  · rcases List.mem_append.mp z with z | z
    · exact s.le.new b z
    · rw [List.mem_singleton.mp z]; exact .inr Ba

theorem upd_twice {H : Hp} {p : Addr} {o o2 : HO} : upd (upd H p o) p o2 = upd H p o2 := by
  funext a
  by_cases h : a = p
  · rw [h, upd_same, upd_same]
  · rw [upd_ne h, upd_ne h, upd_ne h]
/-! ### {} -/
def bDNew (t : Bool) : F := fun _ st => .ok (.loc st.length) (st ++ [.dic t []])
section
variable {G : Ct} {M : Mo} {m : Md} {X : Cx} {C : Cf} {a b c e o i : Expr} {es : List Expr} {f g h fo fk fv : F} {fl : FL} {pos pos' p1 p2 : Pos} {x : Str}
theorem sn_dnewK : SndE G M .esc (.Dict [] [] pos) (bDNew false) := fun X C gd => pe_dnewK.imp fun σ H Q ⟨w, env, st, s, p⟩ p0 hp => by
  have s1 := s.pushO (o := .dK []) hp
  have l1 : Le w H (w.add p0) (upd H p0 (.dK [])) := (Le.push hp).add hp
  obtain ⟨k1, k2, k3⟩ := Sim.newCell (o := .dK []) (c := .dic false []) s hp l1 s1 (.inr rfl) (fun o' e im => by rw [upd_same] at e; cases e; exact im)
  obtain ⟨l2, s2⟩ := k2 ⟨[], upd_same, rfl, .nil⟩
  rw [upd_twice] at l2 s2
  exact p _ (.ref p0) _ l2 s2 (.loc k3)
theorem sn_dnewT : SndE G M .esc (.Dict [] [] pos) (bDNew true) := fun X C gd => pe_dnewT.imp fun σ H Q ⟨w, env, st, s, p⟩ p0 hp => by
  have s1 := s.pushO (o := .dT []) hp
  have l1 : Le w H (w.add p0) (upd H p0 (.dT [])) := (Le.push hp).add hp
  obtain ⟨k1, k2, k3⟩ := Sim.newCell (o := .dT []) (c := .dic true []) s hp l1 s1 (.inr rfl) (fun o' e im => by rw [upd_same] at e; cases e; exact im)
  obtain ⟨l2, s2⟩ := k2 ⟨[], upd_same, rfl, .nil⟩
  rw [upd_twice] at l2 s2
  exact p _ (.ref p0) _ l2 s2 (.loc k3)

/-! ### {k: v, ..} -/
inductive PRep (K : PySem.W.Frag) (w : Wd) (H : Hp) : List (V × V) → List (D × D) → Prop where
  | nil : PRep K w H [] []
  | cons {x y : V} {c d : D} {vs : List (V × V)} {ds : List (D × D)} : RepR K w H x c → Rep K w H y d → PRep K w H vs ds → PRep K w H ((x, y) :: vs) ((c, d) :: ds)
theorem PRep.keys {K : PySem.W.Frag} {w : Wd} {H : Hp} {ps : List (V × V)} {ds : List (D × D)} (r : PRep K w H ps ds) : ∀ {ks : List Key}, keysOf (ds.map (·.1)) = some ks →
    ∃ kvs : List (Key × V), ps = kvs.map (fun kv => (kV kv.1, kv.2)) ∧ ds.map (·.1) = kvs.map (fun p => keyD p.1) ∧ Reps K w H (kvs.map (·.2)) (ds.map (·.2)) := by
  induction r with
  | nil => intro ks h; exact ⟨[], rfl, rfl, .nil⟩
  | @cons x y c d vs ds r1 r2 r3 ih =>
    intro ks h
    rw [List.map_cons] at h
    unfold keysOf at h
    split at h
    · rename_i k ks' h1 h2
      obtain ⟨kvs, e1, e2, e3⟩ := ih h2
      refine ⟨(k, y) :: kvs, ?_, ?_, .cons r2 e3⟩
      · rw [List.map_cons, ← e1, r1.keyV h1]
      · rw [List.map_cons, List.map_cons, ← e2, keyOf_some h1]
    · cases h
def mergeD (kvs more : List (D × D)) : List (D × D) := more.foldl (fun acc p => putK' acc p.1 p.2) kvs
theorem merge_rel {K : PySem.W.Frag} {w : Wd} {H : Hp} : ∀ {more : List (D × D)} {more' : List (Key × V)} {kvs : List (D × D)} {ks : List (Key × V)}, more.map (·.1) = more'.map (fun p => keyD p.1) → Reps K w H (more'.map (·.2)) (more.map (·.2)) →
    kvs.map (·.1) = ks.map (fun p => keyD p.1) → Reps K w H (ks.map (·.2)) (kvs.map (·.2)) →
    (mergeD kvs more).map (·.1) = (mergeK ks more').map (fun p => keyD p.1) ∧ Reps K w H ((mergeK ks more').map (·.2)) ((mergeD kvs more).map (·.2))
  | [], [], _, _, _, _, h, r => ⟨h, r⟩
  | [], _ :: _, _, _, h, _, _, _ => by cases h
  | _ :: _, [], _, _, h, _, _, _ => by cases h
  | p :: r, q :: s, kvs, ks, h, rr, h0, r0 => by
    rw [List.map_cons, List.map_cons] at h
    injection h with h1 h2
    rw [List.map_cons, List.map_cons] at rr
    cases rr with
    | cons r1 r2 =>
      obtain ⟨z1, z2⟩ := put_rel (enc := keyD) keyEq_keyD q.1 r1 h0 r0
      rw [← h1] at z1 z2
      exact merge_rel (more := r) (more' := s) h2 r2 z1 z2
def lPairs : List (F × F) → Ev → Sto → R (List (D × D))
  | [], _, st => .ok [] st
  | q :: r, env, st => (q.1 env st).bind fun a st1 => (q.2 env st1).bind fun b st2 => (lPairs r env st2).bind fun l st3 => .ok ((a, b) :: l) st3
def trsOf (C : Cf) (fs : List (F × F)) : List (TE × TE) := fs.map fun q => (tE C .rd q.1, tE C .esc q.2)
def SndP (G : Ct) (M : Mo) (pos : Pos) (keys : List (Option Expr)) (values : List Expr) (fs : List (F × F)) : Prop := ∀ X C, Gd G M X C → PPs X pos keys values (trsOf C fs)
theorem sp_nil : SndP G M pos [] [] [] := fun X C gd => pps_nil
theorem sp_cons {ks : List (Option Expr)} {vs : List Expr} {fs : List (F × F)} (hk : SndE G M .rd a f) (hv : SndE G M .esc b g) (hr : SndP G M pos ks vs fs) : SndP G M pos (some a :: ks) (b :: vs) ((f, g) :: fs) :=
  fun X C gd => pps_cons (hk X C gd) (hv X C gd) (hr X C gd)
def PostP (C : Cf) (env : Ev) (σ : St) (w : Wd) (H : Hp) (r : R (List (D × D))) (Q : List (V × V) → Hp → Prop) : Prop := match r with
  | .ok ds st' => ∀ w' vs H', Le w H w' H' → Sim C.T C.B w' env st' σ H' → PRep C.T.K w' H' vs ds → Q vs H'
  | .exc x st' => ∀ w' H' c dx, Le w H w' H' → Sim C.T C.B w' env st' σ H' → XRep C.T w' H' x c dx → C.W c dx σ H'
  | .stuck => False
theorem PostP.le {C : Cf} {env : Ev} {σ : L2.St} {w w1 : Wd} {H H1 : Hp} {Q : List (V × V) → Hp → Prop} {r : R (List (D × D))} (h : PostP C env σ w H r Q) (l : Le w H w1 H1) : PostP C env σ w1 H1 r Q := by
  cases r with
  | ok d st' => exact fun w' v H' l' s rep => h w' v H' (l.trans l') s rep
  | exc x st' => exact fun w' H' c dx l' s xr => h w' H' c dx (l.trans l') s xr
  | stuck => exact h
theorem PostP.bind {C : Cf} {env : Ev} {σ : L2.St} {w : Wd} {H : Hp} {Q : List (V × V) → Hp → Prop} {r : R D} {k : D → Sto → R (List (D × D))} {R' : VK} (h : PostP C env σ w H (r.bind k) Q)
    (f : ∀ d st1 w1 v1 H1, Le w H w1 H1 → Sim C.T C.B w1 env st1 σ H1 → RepM C.T.K m H w1 H1 v1 d → PostP C env σ w1 H1 (k d st1) Q → R' v1 H1) : PostE C m env σ w H r R' := by
  cases r with
  | ok d st' => exact fun w' v H' l' s rep => f d st' w' v H' l' s rep (PostP.le (r := k d st') h l')
  | exc x st' => exact h
  | stuck => exact h
theorem PRep.le {T : Tb} {w w' : Wd} {H H' : Hp} {vs : List (V × V)} {ds : List (D × D)} {st : Sto} (l : Le w H w' H') (s : Stok T w H st) (h : PRep T.K w H vs ds) : PRep T.K w' H' vs ds := by
  induction h with
  | nil => exact .nil
  | cons h1 h2 _ ih => exact .cons (h1.le l s) (Rep.to (l.ok2 s) _ _ h2) ih
theorem pairs_post {C : Cf} : ∀ (fs : List (F × F)) {env : Ev} {σ : L2.St} {w : Wd} {H : Hp} {st : Sto} {Q : List (V × V) → Hp → Prop}, Sim C.T C.B w env st σ H → PostP C env σ w H (lPairs fs env st) Q → tPairs (trsOf C fs) σ H Q
  | [], env, σ, w, H, st, Q, s, p => p w [] H (.refl _ _) s .nil
  | q :: r, env, σ, w, H, st, Q, s, p => by
    refine ⟨w, env, st, s, PostP.bind (m := .rd) p fun d st1 w1 v1 H1 l1 s1 r1 p1 => ⟨w1, env, st1, s1, PostP.bind (m := .esc) p1 fun d2 st2 w2 v2 H2 l2 s2 r2 p2 => ?_⟩⟩
    refine pairs_post r s2 ?_
    cases e : lPairs r env st2 with
    | stuck => rw [e] at p2; exact p2.elim
    | exc x st' => rw [e] at p2; exact p2
    | ok ds st' =>
      rw [e] at p2
      intro w' vs H' l' s' rep
      have r1' : RepR C.T.K w1 H1 v1 d := r1
      have r2' : Rep C.T.K w2 H2 v2 d2 := r2
      exact p2 w' ((v1, v2) :: vs) H' l' s' (.cons (r1'.le (l2.trans l') s1.sto) (Rep.to (l'.ok2 s2.sto) _ _ r2') rep)
def bDisp (fs : List (F × F)) : F := fun env st => match lPairs fs env st with
  | .ok kvs st' => match keysOf (kvs.map (·.1)) with
    | some _ => if kvs.length ≤ 15 then .ok (.loc st'.length) (st' ++ [.dic false (mergeD [] kvs)]) else .stuck
    | none => .stuck
  | .exc x st' => .exc x st'
  | .stuck => .stuck
theorem sn_disp {keys : List (Option Expr)} {values : List Expr} {fs : List (F × F)} (h : SndP G M pos keys values fs) (hall : keys.all (·.isSome) = true := by rfl) (hl : keys.length = values.length := by rfl) (h0 : keys ≠ [] := by intro h; cases h)
    (h15 : keys.length ≤ 15 := by decide) : SndE G M .esc (.Dict keys values pos) (bDisp fs) := fun X C gd => (pe_disp (h X C gd) hall hl h0 h15).imp fun σ H Q ⟨w, env, st, s, p⟩ p0 hp => by
  have s1 := s.pushO (o := .dK []) hp
  have l1 : Le w H (w.add p0) (upd H p0 (.dK [])) := (Le.push hp).add hp
  refine pairs_post fs s1 ?_
  unfold bDisp at p
  cases e : lPairs fs env st with
  | stuck => rw [e] at p; exact p.elim
  | exc x st' =>
    rw [e] at p
    exact fun w' H' c dx l' s' xr => p w' H' c dx (l1.trans l') s' xr
  | ok kvs st' =>
    rw [e] at p
    dsimp only at p
    intro w' ps H' l' s' rep
    cases e2 : keysOf (kvs.map (·.1)) with
    | none => rw [e2] at p; exact p.elim
    | some ks =>
      rw [e2] at p
      dsimp only at p
      split at p
      · rename_i hz
        obtain ⟨kv2, q1, q2, q3⟩ := rep.keys e2
        have hp0 : H' p0 = some (.dK []) := l'.fr p0 _ upd_same (s1.al p0 (.inr rfl)).2
        have hlen : kv2.length = kvs.length := by have := congrArg List.length q2; simpa using this.symm
        refine ⟨hp0, kv2, q1, by rw [hlen]; exact hz, ?_⟩
        obtain ⟨k1, k2, k3⟩ := Sim.newCell (o := .dK (mergeK [] kv2)) (c := .dic false (mergeD [] kvs)) s hp (l1.trans l') s' (l'.Sm p0 (.inr rfl)) (fun o' e im => by rw [hp0] at e; cases e; exact im)
        obtain ⟨z1, z2⟩ := merge_rel (kvs := []) (ks := []) q2 q3 rfl .nil
        obtain ⟨l2, s2⟩ := k2 ⟨_, upd_same, z1, Reps.to k1 _ _ z2⟩
        exact p _ (.ref p0) _ l2 s2 (.loc k3)
      · exact p.elim

/-! ### d[k] -/
def dGetO : D → D → Sto → Option (Option D)
  | .loc n, y, st => match st[n]? with
    | some (.dic false kvs) => match keyOf y with
      | some _ => some (lookD kvs y)
      | none => none
    | _ => none
  | _, _, _ => none
def kDGet : D → D → Sto → R D := fun d y st => match dGetO d y st with
  | some (some v) => .ok v st
  | _ => .stuck
theorem dGetO_cases {n : Nat} {y : D} {st : Sto} {o : Option D} (h : dGetO (.loc n) y st = some o) : ∃ kvs k, st[n]? = some (.dic false kvs) ∧ keyOf y = some k ∧ o = lookD kvs y := by
  unfold dGetO at h
  dsimp only at h
  split at h
  · rename_i kvs q
    split at h
    · rename_i k q2
      cases h
      exact ⟨kvs, k, q, q2, rfl⟩
    · cases h
  · cases h
def GetRel (K : PySem.W.Frag) (w : Wd) (H : Hp) (r : Option D) (o : Option V) : Prop := match r with
  | none => o = none
  | some d => ∃ v, o = some v ∧ Rep K w H v d
theorem dget_ok {T : Tb} {B : Bs} {w : Wd} {env : Ev} {st : Sto} {σ : L2.St} {H : Hp} {x y : V} {d dy : D} {r : Option D} (s : Sim T B w env st σ H) (rx : RepR T.K w H x d) (ry : RepR T.K w H y dy) (h : dGetO d dy st = some r) :
    ∃ a o, x = .ref a ∧ DGet H a y o ∧ GetRel T.K w H r o := by
  cases d with
  | loc n =>
    obtain ⟨a, rfl, ea⟩ := rx.loc
    obtain ⟨kvs, k, q1, q2, q3⟩ := dGetO_cases h
    obtain ⟨ks, h1, h2, h3⟩ := s.sto.at_ n _ a q1 ea
    have ey := ry.keyV q2
    have ed := keyOf_some q2
    refine ⟨a, valV ks k, rfl, by rw [ey]; exact DGet.k h1, ?_⟩
    rcases look_rel (enc := keyD) keyEq_keyD k h2 h3 with ⟨z1, z2⟩ | ⟨d', v, z1, z2, z3⟩
    · rw [← ed] at z1
      rw [q3, z1]; exact z2
    · rw [← ed] at z1
      rw [q3, z1]; exact ⟨v, z2, z3⟩
  | _ => cases h
theorem sn_dget (ho : SndE G M .rd o fo) (hi : SndE G M .rd i fk) (hs : NoSl i := by intro _ _; rfl) : SndE G M .esc (.Subscript o i pos) (bBin kDGet fo fk) := by
  intro X C gd
  refine (pe_dget (by have := gd.un; omega) (ho X C gd) (hi X C gd) hs).imp fun σ H Q ⟨w, env, st, s, p⟩ => ⟨w, env, st, s, PostE.bind p fun d st1 w1 v1 H1 l1 s1 r1 p1 => ⟨w1, env, st1, s1, PostE.bind p1 fun d2 st2 w2 v2 H2 l2 s2 r2 p2 => ?_⟩⟩
  have r1' : RepR C.T.K w1 H1 v1 d := r1
  unfold kDGet at p2
  cases e : dGetO d d2 st2 with
  | none => rw [e] at p2; exact p2.elim
  | some r =>
    rw [e] at p2
    cases r with
    | none => exact p2.elim
    | some d' =>
      obtain ⟨a, oo, ex, g, v, rfl, rv⟩ := dget_ok s2 (r1'.le l2 s1.sto) r2 e
      exact ⟨a, v, ex, g, PostE.done (m := .esc) p2 s2 rv⟩
/-! ### d[k] = v -/
def dPutO : D → D → D → Sto → Option Sto
  | .loc n, y, v, st => match st[n]? with
    | some (.dic false kvs) => match keyOf y with
      | some _ => if kvs.length < 1000 then some (st.set n (.dic false (putK' kvs y v))) else none
      | none => none
    | _ => none
  | _, _, _, _ => none
theorem dPutO_cases {n : Nat} {y v : D} {st st' : Sto} (h : dPutO (.loc n) y v st = some st') : ∃ kvs k, st[n]? = some (.dic false kvs) ∧ keyOf y = some k ∧ kvs.length < 1000 ∧ st' = st.set n (.dic false (putK' kvs y v)) := by
  unfold dPutO at h
  dsimp only at h
  split at h
  · rename_i kvs q
    split at h
    · rename_i k q2
      split at h
      · rename_i q3
        cases h
        exact ⟨kvs, k, q, q2, q3, rfl⟩
      · cases h
    · cases h
  · cases h
/-- value, dict, key -/
def sDPut' (fo fk fv : F) : FS := fun env st => (fv env st).out env fun v st1 => (fo env st1).out env fun d st2 => (fk env st2).out env fun y st3 => match dPutO d y v st3 with
  | some st4 => .next env st4
  | none => .stuck
theorem ss_dput (ho : SndE G M .rd o fo) (hi : SndE G M .rd i fk) (hv : SndE G M .esc e fv) (hs : ∀ env, swapsWith e (some (.Subscript o i pos')) pos.line env = pure false := by intro _; rfl) : SndS G M (.Assign [.Subscript o i pos'] e pos) (sDPut' fo fk fv) := fun X C gd => by
  refine (ps_dput (by have := gd.un; omega) (ho X C gd) (hi X C gd) (hv X C gd) (hs _)).imp fun E σ H ⟨w, env, st, s, p⟩ => ⟨w, env, st, s, PostS.bind p fun d st1 w1 v1 H1 l1 s1 r1 p1 => ⟨w1, env, st1, s1, PostS.bind p1 fun oo st2 w2 v2 H2 l2 s2 r2 p2 =>
    ⟨w2, env, st2, s2, PostS.bind p2 fun y st3 w3 v3 H3 l3 s3 r3 p3 => ?_⟩⟩⟩
  cases z : dPutO oo y d st3 with
  | none => rw [z] at p3; exact p3.elim
  | some st4 =>
    rw [z] at p3
    have r2' : RepR C.T.K w2 H2 v2 oo := r2
    have r2b := r2'.le l3 s2.sto
    have rv : Rep C.T.K w3 H3 v1 d := Rep.to ((l2.trans l3).ok2 s1.sto) _ _ r1
    cases oo with
    | loc n =>
      obtain ⟨a, rfl, ea⟩ := r2b.loc
      obtain ⟨kvs, k, q1, q2, q3, q4⟩ := dPutO_cases z
      obtain ⟨ks, h1, h2, h3⟩ := s3.sto.at_ n _ a q1 ea
      have ey := RepR.keyV r3 q2
      have ed := keyOf_some q2
      have hlen : ks.length = kvs.length := by have := congrArg List.length h2; simpa using this.symm
      refine ⟨a, _, rfl, by rw [ey]; exact DPut.k (k := k) (v := v1) h1 (by rw [hlen]; exact small1000 (Nat.le_of_lt q3)), ?_⟩
      have hm : a ∈ w3.r := List.mem_of_getElem? ea
      have kk := (Le.cell (H := H3) (o := .dK (putK ks k v1)) hm).ok2 s3.sto
      obtain ⟨z1, z2⟩ := put_rel (enc := keyD) keyEq_keyD k rv h2 h3
      rw [← ed] at z1 z2
      have hc : CellOk C.T w3 (upd H3 a (.dK (putK ks k v1))) a (.dic false (putK' kvs y d)) := ⟨_, upd_same, z1, Reps.to kk _ _ z2⟩
      subst q4
      exact p3 w3 σ _ (s3.cell ea hc)
    | _ => cases z
end
end NC

namespace NC
open PySem L2 PyProof.Rows PySem.Spec
/-! ### enumerate -/
def enumD : Nat → List D → List D
  | _, [] => []
  | n, d :: r => .tup [.int n, d] :: enumD (n + 1) r
theorem enumD_len : ∀ (n : Nat) (ds : List D), (enumD n ds).length = ds.length
  | _, [] => rfl
  | n, d :: r => by show (enumD (n + 1) r).length + 1 = r.length + 1; rw [enumD_len]
theorem enumD_get : ∀ (n : Nat) (ds : List D) (i : Nat), (enumD n ds)[i]? = ds[i]?.map fun d => D.tup [.int ((n + i : Nat) : Int), d]
  | _, [], _ => by simp [enumD]
  | n, d :: r, 0 => by simp [enumD]
  | n, d :: r, i + 1 => by
    show (enumD (n + 1) r)[i]? = _
    rw [enumD_get (n + 1) r i, List.getElem?_cons_succ, show n + 1 + i = n + (i + 1) by omega]
def iEnumD (f : F) : FL := fun env st => (f env st).bind fun d st1 => match d with
  | .lst ds => if ds.length ≤ sizeLine then .ok (enumD 0 ds) st1 else .stuck
  | _ => .stuck
theorem enum_it {C : Cf} {aa : Addr} {ds : List D} : ItOk C [(.ref aa, .lst ds)] (Ite C.T.K aa) (enumD 0 ds) := by
  intro B' _ _ hp w2 env2 st2 σ2 H2 s2 i
  obtain ⟨_, us, e0, k1, _, k4⟩ := PinOk.lst (s2.pin _ (hp (.ref aa, .lst ds) (by simp)))
  cases e0
  refine ⟨fun d hd => ?_, fun hi => ⟨_, k1.sq, by rw [k4.length, ← enumD_len 0]; exact hi⟩⟩
  rw [enumD_get] at hd
  obtain ⟨d0, hd0, rfl⟩ := Option.map_eq_some_iff.mp hd
  obtain ⟨v, hv, rv⟩ := k4.get hd0
  refine ⟨⟨_, v, k1.sq, hv⟩, fun x H' hy => ?_⟩
  obtain ⟨T, x0, rfl, hT, rfl, hy⟩ := hy
  have := hy _ k1.sq
  rw [hv] at this
  cases this
  have l : Le w2 H2 w2 (upd H2 T (.tup [.int (i : Nat), v])) := Le.push hT
  refine ⟨w2, l, s2.push hT, .tup (SqT.of upd_same) (Reps.to (l.ok2 s2.sto) _ _ (.cons ?_ (.cons rv .nil)))⟩
  rw [Nat.zero_add]
  exact .int _
section
variable {G : Ct} {M : Mo} {m : Md} {X : Cx} {C : Cf} {a b c e o i : Expr} {es : List Expr} {f g h fo fk fv : F} {fl : FL} {pos pos' tpos p1 p2 pe : Pos} {x cx : Str} {elts : List Expr} {kk n : Nat}
theorem si_enum (hg : G.sc.names.lookup ("enumerate" : Str) = some .globalImplicit) (hm : M.mg ("enumerate" : Str) = none) (he : SndE G M .esc e f) (hs : ∀ env, starEach [e] env = [(false, eval e env)] := by intro _; rfl) :
    SndI G M (.Tuple elts kk tpos) (.Call (.Name "enumerate" p1) [e] [] pos) (iEnumD f) := by
  intro X C gd
  refine (pi_enum (by show X.env.scope.names.lookup _ = _; rw [gd.sc]; exact hg) (by rw [gd.mg]; exact hm) (pa_cons (he X C gd) pa_nil (hs _)) (hs _)).imp fun σ H Q ⟨w, env, st, s, p⟩ => ⟨w, env, st, s, ?_⟩
  rw [show X.K = C.T.K from gd.K.trans (by rw [gd.T])]
  unfold iEnumD at p
  cases e1 : f env st with
  | stuck => rw [e1] at p; exact p.elim
  | exc x st' => rw [e1] at p; exact p
  | ok d st' =>
    rw [e1] at p
    intro w' v H' l s' r
    cases d with
    | lst ds =>
      have p' : PostI C env σ w H (if ds.length ≤ sizeLine then .ok (enumD 0 ds) st' else .stuck) Q := p
      split at p'
      · rename_i hz
        have r' : Rep C.T.K w' H' v (.lst ds) := r
        obtain ⟨aa, vs, rfl, h1, _, h4⟩ := RepR.lst (.inl r')
        refine ⟨aa, vs, rfl, h1.sq, p' w' H' _ [(.ref aa, .lst ds)] l s' (fun q hq => ?_) enum_it (by rw [enumD_len]; exact hz)⟩
        have : q = (.ref aa, .lst ds) := by simpa using hq
        subst this; exact .inl r'
      · exact p'.elim
    | _ => exact p.elim

/-! ### isinstance(e, (C1, ..)) in a suite -/
def rIsXT (K : PySem.W.Frag) (D a dd : Addr) : List V → Hp → VK → Prop := fun xs H Q => ∃ (tp : Addr) (cs : List V) (us : List Value) (b : Bool) (fs : List (Str × V)), xs = [.ref a, .ref tp] ∧ H tp = some (.tup cs) ∧ Paired ClsV cs us ∧ H dd = some (.xd fs) ∧ PySem.W.kitAny K (.ref D) us = some b ∧ Q (.bl b) H
theorem call_isXT {X : Cx} {a D dd : Addr} {oe : Obj} {pn : List (Addr × Obj)} (C : ExcC X.K D) (hz : Zc (.ref D) (some dd) oe) (hf : ∃ vs, oe.data = .fields vs) : CallR (L2.Cx.suite X a ((a, oe) :: pn)) (.builtin "isinstance") (rIsXT X.K D a dd) := by
  intro pins s σ H xs us Q I r h
  obtain ⟨tp, cs, ws, b, fs, rfl, hT, k, hx, e, q⟩ := h
  obtain ⟨u1, u2, rfl, r1, r2⟩ := vals2 r
  cases (show u1 = Value.ref a from r1)
  cases (show u2 = Value.ref tp from r2)
  obtain ⟨hget, _⟩ := I.pin (a, oe) (List.mem_append.mpr (.inl List.mem_cons_self))
  obtain ⟨vs, hv⟩ := hf
  obtain ⟨mA, hns, hr⟩ := (show ObjOk X.prog X.w H s.heap dd (.xd fs) from I.hok dd _ hx)
  obtain ⟨od, ho, hl⟩ := lookIn_ns hns
  have J : PySem.W.InstAt s.heap a oe D (some od) := ⟨hget, hz.1, by unfold PySem.W.notCls; rw [hv] <;> rfl, by rw [hz.2]; exact ho⟩
  obtain ⟨_, its, rv, o, h1, h2, n, h3⟩ := (show ObjOk X.prog X.w H s.heap tp (.tup cs) from I.hok tp _ hT)
  have e3 := ClsV.all k rv
  subst e3
  obtain ⟨oc, od', dt, sl⟩ := o
  simp only at h2 h3
  subst h2 h3
  exact PySem.W.kia_tup (PySem.W.nc_kitx C) I.kIn J h1 e (fun z => nomatch z) fun tk => ⟨.bl b, H, I.kept (t' := tk) fun _ _ z => z, rfl, q⟩
def anyMt : List (Str → Option Bool) → Str → Option Bool
  | [], _ => some false
  | m :: r, c => match m c with
    | some true => some true
    | some false => anyMt r c
    | none => none
inductive ClsL (G : Ct) (M : Mo) : List Expr → List (Str → Option Bool) → List Addr → Prop where
  | nil : ClsL G M [] [] []
  | cons {cx : Str} {p : Pos} {mt : Str → Option Bool} {CE : Addr} {es mts CEs} (hg : G.sc.names.lookup cx = some .globalImplicit) (hdb : (cx == ("__debug__" : Str)) = false) (hmg : M.mg cx = some (.ref CE))
      (hc : ∀ c b, mt c = some b → ∀ C0, M.T.cls c = some C0 → ExcC M.T.K C0 ∧ PySem.W.kitOne M.T.K (.ref C0) (.ref CE) = some b) : ClsL G M es mts CEs → ClsL G M (.Name cx p :: es) (mt :: mts) (CE :: CEs)
def tCs : List Addr → TA
  | [] => tNil
  | c :: r => tCons (tC (.ref c)) (tCs r)
theorem cl_pa {es : List Expr} {mts CEs} (h : ClsL G M es mts CEs) {X : Cx} {C : Cf} (gd : Gd G M X C) : PA X es (tCs CEs) := by
  induction h with
  | nil => exact pa_nil
  | cons hg hdb hmg _ _ ih => exact pa_cons (pe_glob (by show X.env.scope.names.lookup _ = _; rw [gd.sc]; exact hg) (by rw [gd.mg]; exact hmg) rfl hdb) ih rfl
theorem cl_run : ∀ {CEs : List Addr} {σ : L2.St} {H : Hp} {Q : List V → Hp → Prop}, Q (CEs.map V.ref) H → tCs CEs σ H Q
  | [], _, _, _, q => q
  | c :: r, σ, H, Q, q => (cl_run (CEs := r) (Q := fun vs H1 => Q (.ref c :: vs) H1) q : tCs r σ H fun vs H1 => Q (.ref c :: vs) H1)
theorem cl_kit {c : Str} {C0 : Addr} (h0 : M.T.cls c = some C0) : ∀ {es : List Expr} {mts CEs}, ClsL G M es mts CEs → ∀ {b : Bool}, anyMt mts c = some b → PySem.W.kitAny M.T.K (.ref C0) (CEs.map Value.ref) = some b := by
  intro es mts CEs h
  induction h with
  | nil => intro b e; exact e
  | @cons cx p mt CE es mts CEs hg hdb hmg hc _ ih =>
    intro b e
    unfold anyMt at e
    split at e
    · rename_i q
      cases e
      exact kitAny_cons (hc c true q C0 h0).2 (fun z => nomatch z) fun _ => rfl
    · rename_i q
      exact kitAny_cons (hc c false q C0 h0).2 (fun _ => ih e) fun z => nomatch z
    · cases e
theorem cl_exc {c : Str} {C0 : Addr} (h0 : M.T.cls c = some C0) {es : List Expr} {mt mts CEs} (h : ClsL G M es (mt :: mts) CEs) {b : Bool} (e : anyMt (mt :: mts) c = some b) : ExcC M.T.K C0 := by
  cases h with
  | cons hg hdb hmg hc _ =>
    unfold anyMt at e
    split at e
    · rename_i q; exact (hc c true q C0 h0).1
    · rename_i q; exact (hc c false q C0 h0).1
    · cases e
theorem cl_vs : ∀ CEs : List Addr, Paired ClsV (CEs.map V.ref) (CEs.map Value.ref)
  | [] => .nil
  | c :: r => .cons (.own c) (cl_vs r)
theorem cl_len {es : List Expr} {mts CEs} (h : ClsL G M es mts CEs) : CEs.length = es.length := by
  induction h with
  | nil => rfl
  | cons _ _ _ _ _ ih => rw [List.length_cons, List.length_cons, ih]
def bXisT (i : Nat) (mts : List (Str → Option Bool)) : F := fun env st => match env[i]? with
  | some (some (.exc, .tup [.str c, .str g, d])) => match anyMt mts c with
    | some b => .ok (.bl b) st
    | none => .stuck
  | _ => .stuck
theorem sn_xist {i : Nat} {mt : Str → Option Bool} {mts : List (Str → Option Bool)} {kt : Nat} (hN : G.N[i]? = some x) (hv : Vis G.sc x) (hg : G.sc.names.lookup ("isinstance" : Str) = some .globalImplicit) (hm : M.mg ("isinstance" : Str) = none)
    (hc : ∃ CEs, ClsL G M es (mt :: mts) CEs) (hlen : es.length ≤ 1000 := by decide)
    (hd : (x == ("__debug__" : Str)) = false := by decide) (hcd : (x == ("__classdict__" : Str)) = false := by decide) : SndE G M m (.Call (.Name "isinstance" p1) [.Name x pe, .Tuple es kt p2] [] pos) (bXisT i (mt :: mts)) := by
  intro X C gd
  obtain ⟨CEs, hcl⟩ := hc
  cases q : C.B.ex with
  | none =>
    refine ⟨fun pins s σ H Q I ⟨w, env, st, s0, p⟩ => ?_⟩
    exfalso
    unfold bXisT at p
    split at p
    · rename_i c g d hi
      obtain ⟨a, c, cls, dd, f, v0, e, e1, _⟩ := s0.slot i _ hi
      rw [q] at e1; cases e1
    · exact p
  | some z =>
    obtain ⟨a, c0, cls, dd⟩ := z
    obtain ⟨X0, oe, pn, hX, hz, hvs, C0, hc0, hcls⟩ := gd.exk a c0 cls dd q
    have gl : ∀ {y : Str}, G.sc.names.lookup y = some .globalImplicit → Gl X y := fun {y} z => by show X.env.scope.names.lookup _ = _; rw [gd.sc]; exact z
    cases qm : anyMt (mt :: mts) c0 with
    | none =>
      refine ⟨fun pins s σ H Q I ⟨w, env, st, s0, p⟩ => ?_⟩
      exfalso
      unfold bXisT at p
      split at p
      · rename_i c g d hi
        obtain ⟨a', c', cls', dd', f', v0, e, e1, e2, e3, _⟩ := s0.slot i _ hi
        rw [q] at e1
        cases e1
        cases e3
        rw [qm] at p
        exact p
      · exact p
    | some b =>
      have hc0' : M.T.cls c0 = some C0 := by rw [← gd.T]; exact hc0
      have g1 := cl_exc hc0' hcl qm
      have g2 := cl_kit hc0' hcl qm
      have pv : PE X (.Name x pe) (tVar i) := pe_var (i := i) (x := x) (by rw [gd.N]; exact hN) (by rw [gd.sc]; exact hv) hd hcd
      have pc : PE X (.Tuple es kt p2) (tTup (tCs CEs)) := pe_tup (cl_pa hcl gd)
      have key : CallR X (.builtin "isinstance") (rIsXT X.K C0 a dd) := by
        have hKX : X.K = M.T.K := gd.K
        subst hX
        exact call_isXT (X := X0) (by rw [show X0.K = M.T.K from hKX]; exact g1) (by rw [← hcls]; exact hz) hvs
      refine (pe_callB key (gl hg) (by rw [gd.mg]; exact hm) (by decide +kernel) (pa_cons pv (pa_cons pc pa_nil) (by rfl)) (by decide) (by decide) (by rfl) (by rfl)).imp fun σ H Q ⟨w, env, st, s0, p⟩ => ?_
      unfold bXisT at p
      split at p
      · rename_i c g d hi
        obtain ⟨a', c', cls', dd', f', v0, e, e1, e2, e3, e4, e5, e6, e7⟩ := s0.slot i _ hi
        rw [q] at e1
        cases e1
        cases e3
        rw [qm] at p
        refine ⟨.ref a, join_some e2, cl_run ⟨Nat.le_of_lt (small1000 (by rw [List.length_map, cl_len hcl]; exact hlen)), fun pp hp => ?_⟩⟩
        refine ⟨pp, _, _, b, _, rfl, upd_same, cl_vs CEs, by rw [upd_ne (ne_of_none e4 hp)]; exact e4, by rw [gd.K]; exact g2, ?_⟩
        exact p w (.bl b) _ (Le.push hp) (s0.push hp) (RepM.bl _)
      · exact p.elim
theorem cl_cons {mt : Str → Option Bool} {mts : List (Str → Option Bool)} (hc : ∃ CE, M.mg cx = some (.ref CE) ∧ ∀ c b, mt c = some b → ∀ C0, M.T.cls c = some C0 → ExcC M.T.K C0 ∧ PySem.W.kitOne M.T.K (.ref C0) (.ref CE) = some b)
    (h : ∃ CEs, ClsL G M es mts CEs) (h2 : glX G cx = true := by decide +kernel) : ∃ CEs, ClsL G M (.Name cx p2 :: es) (mt :: mts) CEs := by
  obtain ⟨CE, h1, hh⟩ := hc
  obtain ⟨CEs, k⟩ := h
  exact ⟨CE :: CEs, .cons (glX_ok h2).1 (glX_ok h2).2.1 h1 hh k⟩
theorem cl_nil : ∃ CEs, ClsL G M [] [] CEs := ⟨[], .nil⟩
theorem xist {mt : Str → Option Bool} {mts : List (Str → Option Bool)} {kt : Nat} (hb : Bn M) (i : Nat) (hc : ∃ CEs, ClsL G M es (mt :: mts) CEs) (h : varX G i x = true := by decide +kernel) (h1 : glX G ("isinstance" : Str) = true := by decide +kernel) (hlen : es.length ≤ 1000 := by decide +kernel) :
    SndE G M m (.Call (.Name "isinstance" p1) [.Name x pe, .Tuple es kt p2] [] pos) (bXisT i (mt :: mts)) :=
  let h := varX_ok h; sn_xist h.1 h.2.1 (glX_ok h1).1 (hb _ (by decide +kernel)) hc hlen h.2.2.1 h.2.2.2
theorem enu (hb : Bn M) (he : SndE G M .esc e f) (h : glX G ("enumerate" : Str) = true := by decide +kernel) (hs : ∀ env, starEach [e] env = [(false, eval e env)] := by intro _; rfl) : SndI G M (.Tuple elts kk tpos) (.Call (.Name "enumerate" p1) [e] [] pos) (iEnumD f) :=
  si_enum (glX_ok h).1 (hb _ (by decide +kernel)) he hs
end

section
variable {P : Program} {w : World} {T : Tb} {mg : Str → Option Value} {base : Heap} {Δ : Str → Option Df} {n : Nat} {x : Str} {st : Stmt} {N ps : List Str} {sh : Calls → FS}
theorem callOkH_zero (F : DefAt T.K mg x st)
    (hb : ∀ (kV doc pm : Value) (an : Option Addr) (cdv ct : Value) (us : List Value), us.length = ps.length → bindArgs (PySem.W.fnOf x x (defArgs st) (defBody st) (defScope st) .none kV doc pm an cdv ct) ⟨us, []⟩ = pure (ps.zip us)) : CallOk { MoN P w T mg base Δ 0 with hot := true } x := by
  obtain ⟨fa, fd, h1, h2⟩ := F.ex
  exact ⟨fa, fd, ps, h1, h2.kp, h2.binds hb, (fun h => Bool.noConfusion h), fun _ => fn_okH0 fun _ _ => rfl⟩
theorem callOkH_succ (F : DefAt T.K mg x st) (S : FnScope N ps (defScope st))
    (hb : ∀ (kV doc pm : Value) (an : Option Addr) (cdv ct : Value) (us : List Value), us.length = ps.length → bindArgs (PySem.W.fnOf x x (defArgs st) (defBody st) (defScope st) .none kV doc pm an cdv ct) ⟨us, []⟩ = pure (ps.zip us))
    (snd : SndB ⟨N, defScope st, none⟩ { MoN P w T mg base Δ n with hot := true } (defBody st) (sh (interp Δ n))) (hΔ : Δ x = some (dfD ps.length N.length sh)) : CallOk { MoN P w T mg base Δ (n + 1) with hot := true } x := by
  obtain ⟨fa, fd, h1, h2⟩ := F.ex
  exact ⟨fa, fd, ps, h1, h2.kp, h2.binds hb, (fun h => Bool.noConfusion h), fun _ => fn_okH h2 S snd fun as s => interp_eq hΔ as s⟩
end
end NC

/-! ### readings of houses, comprehensions, plain data, in -/
namespace NC
open PySem L2
theorem hd_ix0 (h : Str × Nat) (st : Sto) : kIx (hdD h) (.int 0) st = .ok (.str h.1) st := kIx_tup_of atI_0
theorem hd_ix1 (h : Str × Nat) (st : Sto) : kIx (hdD h) (.int 1) st = .ok (.int (h.2 : Nat)) st := kIx_tup_of atI_1
theorem vr_ix0 (h : Str × Nat × Nat) (st : Sto) : kIx (vrD h) (.int 0) st = .ok (.str h.1) st := kIx_tup_of atI_0
theorem vr_ix1 (h : Str × Nat × Nat) (st : Sto) : kIx (vrD h) (.int 1) st = .ok (.int (h.2.1 : Nat)) st := kIx_tup_of atI_1
theorem vr_ix2 (h : Str × Nat × Nat) (st : Sto) : kIx (vrD h) (.int 2) st = .ok (.int (h.2.2 : Nat)) st := kIx_tup_of atI_2
theorem co_ix0 (co : Co) (st : Sto) : kIx co.d (.int 0) st = .ok (.str co.n) st := kIx_tup_of atI_0
theorem co_ix1 (co : Co) (st : Sto) : kIx co.d (.int 1) st = .ok (.tup (co.vs.map vrD)) st := kIx_tup_of atI_1
theorem co_ix2 (co : Co) (st : Sto) : kIx co.d (.int 2) st = .ok (.tup (co.hs.map hdD)) st := kIx_tup_of atI_2
theorem co_ix3 (co : Co) (st : Sto) : kIx co.d (.int 3) st = .ok (.tup (co.ps.map Pr.d)) st := kIx_tup_of atI_3
theorem pr_ix0 (p : Pr) (st : Sto) : kIx p.d (.int 0) st = .ok (.str p.n) st := kIx_tup_of atI_0
theorem pr_ix1 (p : Pr) (st : Sto) : kIx p.d (.int 1) st = .ok (.int (p.z : Nat)) st := kIx_tup_of atI_1
theorem pr_ix2 (p : Pr) (st : Sto) : kIx p.d (.int 2) st = .ok (.bl p.sh) st := kIx_tup_of atI_2
theorem pr_ix3 (p : Pr) (st : Sto) : kIx p.d (.int 3) st = .ok (.tup p.b.ds) st := kIx_tup_of atI_3
theorem ho_ix0 (h : Ho) (st : Sto) : kIx h.d (.int 0) st = .ok (.lst (h.as.map hdD)) st := kIx_tup_of atI_0
theorem ho_ix1 (h : Ho) (st : Sto) : kIx h.d (.int 1) st = .ok (.lst (h.cs.map Co.d)) st := kIx_tup_of atI_1
/-- a comprehension over listed things -/
theorem compL_ex2 {α : Type} (h : α → D) {t : Tg} {c : FB} {f : F} {env : Ev} {st : Sto} (p : α → Bool) (g : α → D) : ∀ xs : List α, (∀ x ∈ xs, ∃ e1, t (h x) env = some e1 ∧ c e1 st = .ok (p x) st ∧ (p x = true → f e1 st = .ok (g x) st)) → compL t c f (xs.map h) env st = .ok ((xs.filter p).map g) st
  | [], _ => rfl
  | x :: xs, ht => by
    obtain ⟨env1, h1, h2, h3⟩ := ht x (List.mem_cons_self ..)
    have ih := compL_ex2 h p g xs fun y hy => ht y (List.mem_cons_of_mem _ hy)
    rw [List.map_cons]
    unfold compL
    rw [h1]
    dsimp only
    rw [h2]
    cases hp : p x with
    | true =>
      rw [List.filter_cons_of_pos hp, List.map_cons]
      show (if true = true then (f env1 st).nox.bind _ else compL t c f (xs.map h) env st) = _
      rw [if_pos rfl, h3 hp]
      show (compL t c f (xs.map h) env st).bind _ = _
      rw [ih]
      rfl
    | false =>
      rw [List.filter_cons_of_neg (by simp [hp])]
      exact ih
theorem comp_ex {α : Type} (h : α → D) {own : List Nat} {fi : FL} {t : Tg} {c : FB} {f : F} {env : Ev} {st : Sto} (xs : List α) (p : α → Bool) (g : α → D) (he : fi env st = .ok (xs.map h) st)
    (ht : ∀ x ∈ xs, ∃ e1, t (h x) (wipeE env own) = some e1 ∧ c e1 st = .ok (p x) st ∧ (p x = true → f e1 st = .ok (g x) st)) : bComp own fi t c f env st = .ok (.lst ((xs.filter p).map g)) st :=
  bComp_of he (compL_ex2 h p g xs ht)
theorem comp_all {α : Type} (h : α → D) {own : List Nat} {fi : FL} {t : Tg} {f : F} {env : Ev} {st : Sto} (xs : List α) (g : α → D) (he : fi env st = .ok (xs.map h) st)
    (ht : ∀ x ∈ xs, ∃ e1, t (h x) (wipeE env own) = some e1 ∧ f e1 st = .ok (g x) st) : bComp own fi t cYes f env st = .ok (.lst (xs.map g)) st := by
  have := comp_ex h (own := own) (fi := fi) (t := t) (c := cYes) (f := f) (env := env) (st := st) xs (fun _ => true) g he fun x hx => by
    obtain ⟨e1, h1, h2⟩ := ht x hx
    exact ⟨e1, h1, rfl, fun _ => h2⟩
  rwa [List.filter_eq_self.mpr fun _ _ => rfl] at this
/-- plain data, at most n deep -/
def gdP (n : Nat) (d : D) : Prop := d.plain = true ∧ d.dep ≤ n
theorem gdP.mono {n k : Nat} {d : D} (h : gdP n d) (hk : n ≤ k) : gdP k d := ⟨h.1, Nat.le_trans h.2 hk⟩
theorem gp_tup {n : Nat} {ds : List D} (h : ∀ d ∈ ds, gdP n d) : gdP (n + 1) (.tup ds) :=
  ⟨by rw [D.plain]; exact plains_all fun d hd => (h d hd).1, by rw [D.dep]; exact Nat.succ_le_succ (deps_all fun d hd => (h d hd).2)⟩
theorem gp_lst {n : Nat} {ds : List D} (h : ∀ d ∈ ds, gdP n d) : gdP (n + 1) (.lst ds) :=
  ⟨by rw [D.plain]; exact plains_all fun d hd => (h d hd).1, by rw [D.dep]; exact Nat.succ_le_succ (deps_all fun d hd => (h d hd).2)⟩
theorem gp_str {n : Nat} {w : Str} (h : PyData.strOk w = true) : gdP n (.str w) := ⟨h, Nat.zero_le _⟩
theorem gp_int {n : Nat} {i : Int} : gdP n (.int i) := ⟨rfl, Nat.zero_le _⟩
theorem gp_bl {n : Nat} {i : Bool} : gdP n (.bl i) := ⟨rfl, Nat.zero_le _⟩
theorem gp_non {n : Nat} : gdP n .non := ⟨rfl, Nat.zero_le _⟩
theorem gp1 {n : Nat} {a : D} (h : gdP n a) : gdP (n + 1) (.tup [a]) := gp_tup fun d hd => by
  rw [List.mem_singleton.mp hd]; exact h
theorem gp2 {n : Nat} {a b : D} (h1 : gdP n a) (h2 : gdP n b) : gdP (n + 1) (.tup [a, b]) := gp_tup fun d hd => by
  simp only [List.mem_cons, List.not_mem_nil, or_false] at hd
  rcases hd with rfl | rfl <;> assumption
theorem gp3 {n : Nat} {a b c : D} (h1 : gdP n a) (h2 : gdP n b) (h3 : gdP n c) : gdP (n + 1) (.tup [a, b, c]) := gp_tup fun d hd => by
  simp only [List.mem_cons, List.not_mem_nil, or_false] at hd
  rcases hd with rfl | rfl | rfl <;> assumption
theorem gp4 {n : Nat} {a b c e : D} (h1 : gdP n a) (h2 : gdP n b) (h3 : gdP n c) (h4 : gdP n e) : gdP (n + 1) (.tup [a, b, c, e]) := gp_tup fun d hd => by
  simp only [List.mem_cons, List.not_mem_nil, or_false] at hd
  rcases hd with rfl | rfl | rfl | rfl <;> assumption
theorem gp_map {α : Type} {n : Nat} {f : α → D} {xs : List α} (h : ∀ x ∈ xs, gdP n (f x)) : ∀ d ∈ xs.map f, gdP n d := fun d hd => by
  obtain ⟨x, hx, rfl⟩ := List.mem_map.mp hd
  exact h x hx
theorem kEq_gd {n : Nat} {d e : D} (h : gdP n d) (g : gdP n e) (hn : n ≤ 64 := by decide) (st : Sto) : kEq d e st = .ok (.bl (d.same e)) st := kEq_data h.1 (Nat.le_trans h.2 hn) g.1 (Nat.le_trans g.2 hn)
theorem kNe_gd {n : Nat} {d e : D} (h : gdP n d) (g : gdP n e) (hn : n ≤ 64 := by decide) (st : Sto) : kNe d e st = .ok (.bl (!d.same e)) st := kNe_data h.1 (Nat.le_trans h.2 hn) g.1 (Nat.le_trans g.2 hn)
theorem kEq_self {n : Nat} {d : D} (h : gdP n d) (hn : n ≤ 64 := by decide) (st : Sto) : kEq d d st = .ok (.bl true) st := by rw [kEq_gd h h hn, same_refl d h.1]
theorem kNe_self {n : Nat} {d : D} (h : gdP n d) (hn : n ≤ 64 := by decide) (st : Sto) : kNe d d st = .ok (.bl false) st := by rw [kNe_gd h h hn, same_refl d h.1]; rfl
/-- a tuple in a list of data -/
theorem kIn_gd {n : Nat} {ds es : List D} (h : gdP n (.tup ds)) (g : ∀ e ∈ es, gdP n e) (hn : n < 64 := by decide) (st : Sto) : kIn (.tup ds) (.lst es) st = .ok (.bl (es.any fun z => z.same (.tup ds))) st := by
  have g2 := gp_lst g
  have s1 := shaped_of h.1 (Nat.le_trans h.2 (Nat.le_of_lt hn))
  have s2 := shaped_of g2.1 (Nat.le_trans g2.2 hn)
  unfold kIn inD
  dsimp only
  rw [if_neg (fun z => by simp [D.atom] at z), if_pos ⟨s1, s2⟩]
  rfl
theorem in_inj {α : Type} [DecidableEq α] {f : α → D} (hf : ∀ a b, (f a).same (f b) = decide (a = b)) (x : α) (xs : List α) : ((xs.map f).any fun z => z.same (f x)) = decide (x ∈ xs) := by
  rw [List.any_map]
  induction xs with
  | nil => simp
  | cons y ys ih =>
    rw [List.any_cons, ih]
    show ((f y).same (f x) || _) = _
    rw [hf]
    by_cases h : y = x
    · subst h; simp
    · have h2 : ¬ x = y := fun z => h z.symm
      simp [h, h2]
theorem same_tup (ds es : List D) : (D.tup ds).same (.tup es) = PyData.eqvAll (D.pys ds) (D.pys es) := by rw [D.same, D.py, D.py, PyData.eqv]
theorem same_str (a b : Str) : (D.str a).same (.str b) = decide (a = b) := by simp [D.same, D.py, PyData.eqv, BEq.beq]
theorem same_int (a b : Int) : (D.int a).same (.int b) = decide (a = b) := by simp [D.same, D.py, PyData.eqv, BEq.beq]
theorem same_bl (a b : Bool) : (D.bl a).same (.bl b) = decide (a = b) := by cases a <;> cases b <;> simp [D.same, D.py, PyData.eqv]
theorem sames_cons (d e : D) (ds es : List D) : PyData.eqvAll (D.pys (d :: ds)) (D.pys (e :: es)) = (d.same e && PyData.eqvAll (D.pys ds) (D.pys es)) := by rw [D.pys, D.pys, PyData.eqvAll]; rfl
theorem sames_nil : PyData.eqvAll (D.pys []) (D.pys []) = true := rfl
theorem sames_l (d : D) (ds : List D) : PyData.eqvAll (D.pys (d :: ds)) (D.pys []) = false := by rw [D.pys, D.pys]; rfl
theorem sames_r (d : D) (ds : List D) : PyData.eqvAll (D.pys []) (D.pys (d :: ds)) = false := by rw [D.pys, D.pys]; rfl
/-! the dict's table -/
theorem kDGet_of {st : Sto} {n : Nat} {kvs : List (D × D)} {x : Str} {v : D} (h : st[n]? = some (.dic false kvs)) (h2 : lookD kvs (.str x) = some v) : kDGet (.loc n) (.str x) st = .ok v st := by
  unfold kDGet dGetO
  simp only [h, keyOf, h2]
theorem dPutO_of {st : Sto} {n : Nat} {kvs : List (D × D)} {y v : D} {k : Key} (h : st[n]? = some (.dic false kvs)) (h2 : keyOf y = some k) (h3 : kvs.length < 1000) : dPutO (.loc n) y v st = some (st.set n (.dic false (putK' kvs y v))) := by
  unfold dPutO
  simp only [h, h2, if_pos h3]
theorem sDPut_eq (fo fk fv : F) (env : Ev) (st : Sto) : sDPut' fo fk fv env st = (fv env st).out env fun v st1 => (fo env st1).out env fun d st2 => (fk env st2).out env fun y st3 => stO env (dPutO d y v st3) := rfl
/-- a table of texts -/
def enS (p : Str × Str) : D × D := (.str p.1, .str p.2)
theorem hasD_str (x : Str) : ∀ acc : List (Str × Str), hasD (acc.map enS) (.str x) = decide (x ∈ acc.map (·.1))
  | [] => by simp [hasD]
  | p :: r => by
    have ih := hasD_str x r
    unfold hasD at ih ⊢
    rw [List.map_cons, List.any_cons, ih, List.map_cons]
    show (decide (p.1 = x) || _) = _
    by_cases h : p.1 = x
    · subst h; simp
    · have h2 : ¬ x = p.1 := fun z => h z.symm
      simp [h, h2]
theorem putK_new {x y : Str} {acc : List (Str × Str)} (h : x ∉ acc.map (·.1)) : putK' (acc.map enS) (.str x) (.str y) = (acc ++ [(x, y)]).map enS := by
  unfold putK'
  rw [hasD_str, if_neg (by simpa using h), List.map_append]; rfl
theorem mergeD_new : ∀ (more acc : List (Str × Str)), ((acc ++ more).map (·.1)).Nodup → mergeD (acc.map enS) (more.map enS) = (acc ++ more).map enS
  | [], acc, _ => by simp [mergeD]
  | p :: r, acc, h => by
    have hn : p.1 ∉ acc.map (·.1) := fun z => by
      rw [List.map_append, List.nodup_append] at h
      exact h.2.2 _ z _ (by simp) rfl
    show mergeD (putK' (acc.map enS) (.str p.1) (.str p.2)) (r.map enS) = _
    rw [putK_new hn, mergeD_new r (acc ++ [(p.1, p.2)]) (by rw [List.append_assoc]; exact h), List.append_assoc]; rfl
theorem lookS_mem {x y : Str} : ∀ {kvs : List (Str × Str)}, kvs.lookup x = some y → lookD (kvs.map enS) (.str x) = some (.str y)
  | [], h => by simp at h
  | p :: r, h => by
    rw [List.map_cons]
    unfold lookD
    by_cases e : p.1 = x
    · rw [if_pos (by show decide (p.1 = x) = true; simp [e])]
      obtain ⟨a, b⟩ := p
      simp only at e
      subst e
      simp [List.lookup] at h
      subst h; rfl
    · rw [if_neg (by show ¬ decide (p.1 = x) = true; simp [e])]
      obtain ⟨a, b⟩ := p
      have hb : (x == a) = false := by simpa using fun z => e z.symm
      simp only [List.lookup, hb] at h
      exact lookS_mem h
/-- further entries, one by one -/
theorem loop_put {j k : Nat} {body : FS} {P : Ev → Prop} (c : Nat) (hb : ∀ env st x y, P env → ∃ e1, tgTup (tgCons (tgName j) (tgCons (tgName k) tgNil)) (.tup [.str x, .str y]) env = some e1 ∧ body e1 st = stO e1 (dPutO (.loc c) (.str x) (.str y) st) ∧ P e1) :
    ∀ (more acc : List (Str × Str)) (st : Sto) (env : Ev), st.length = c → ((acc ++ more).map (·.1)).Nodup → (acc ++ more).length < 1000 → P env →
      ∃ e1, forL (tgTup (tgCons (tgName j) (tgCons (tgName k) tgNil))) body (more.map pairD) env (st ++ [.dic false (acc.map enS)]) = .next e1 (st ++ [.dic false ((acc ++ more).map enS)]) ∧ P e1
  | [], acc, st, env, hc, hn, hl, hp => ⟨env, by rw [List.append_nil]; rfl, hp⟩
  | p :: r, acc, st, env, hc, hn, hl, hp => by
    obtain ⟨e1, h1, h2, h3⟩ := hb env (st ++ [.dic false (acc.map enS)]) p.1 p.2 hp
    have hn1 : p.1 ∉ acc.map (·.1) := fun z => by
      have h := hn
      rw [List.map_append, List.nodup_append] at h
      exact h.2.2 _ z _ (by simp) rfl
    obtain ⟨e2, g1, g2⟩ := loop_put c hb r (acc ++ [(p.1, p.2)]) st e1 hc (by rw [List.append_assoc]; exact hn) (by rw [List.append_assoc]; exact hl) h3
    refine ⟨e2, ?_, g2⟩
    have hget : (st ++ [Cell.dic false (acc.map enS)])[c]? = some (.dic false (acc.map enS)) := by subst hc; exact get_mid st [] _
    have hset : ∀ z, (st ++ [Cell.dic false (acc.map enS)]).set c z = st ++ [z] := fun z => by subst hc; exact set_mid st [] _ z
    rw [List.map_cons, forL_cons h1, h2, dPutO_of (k := .inr p.1) hget rfl (by rw [List.length_map]; rw [List.length_append] at hl; omega), hset, putK_new hn1, stO_some]
    show forL _ body (r.map pairD) e1 _ = _
    rw [g1, List.append_assoc]; rfl
end NC

/-! ### lists that are objects of the store: append, extend, pop, x[i] = e, bool, comprehensions over them -/
namespace NC
open PySem L2
def cellL (st : Sto) : D → Option (Nat × List D)
  | .loc n => match st[n]? with
    | some (.lst ds) => some (n, ds)
    | _ => none
  | _ => none
theorem cellL_some {st : Sto} {d : D} {n : Nat} {ds : List D} (h : cellL st d = some (n, ds)) : d = .loc n ∧ st[n]? = some (.lst ds) := by
  unfold cellL at h
  split at h
  · rename_i k
    split at h
    · rename_i es q
      cases h
      exact ⟨rfl, q⟩
    · cases h
  · cases h
theorem cellL_of {st : Sto} {n : Nat} {ds : List D} (h : st[n]? = some (.lst ds)) : cellL st (.loc n) = some (n, ds) := by
  unfold cellL
  simp only [h]
theorem Sim.lstCell {T : Tb} {B : Bs} {w : Wd} {env : Ev} {st : Sto} {σ : L2.St} {H : Hp} {n : Nat} {a : Addr} {vs : List V} {ds : List D} (s : Sim T B w env st σ H) (ha : w.r[n]? = some a) (r : Reps T.K w H vs ds) : Sim T B w env (st.set n (.lst ds)) σ (upd H a (.lst vs)) := by
  have hm : a ∈ w.r := List.mem_of_getElem? ha
  have k := (Le.cell (H := H) (o := .lst vs) hm).ok2 s.sto
  exact s.cell ha ⟨vs, upd_same, Reps.to k _ _ r⟩
/-- o.append(e) -/
def sAppC (fo fe : F) : FS := fun env st => (fo env st).out env fun o st1 => match cellL st1 o with
  | none => .stuck
  | some _ => (fe env st1).out env fun d st2 => match cellL st2 o with
    | some (n, ds) => if ds.length < sizeLine then .next env (st2.set n (.lst (ds ++ [d]))) else .stuck
    | none => .stuck
/-- o.extend(e) -/
def sExtC (fo fe : F) : FS := fun env st => (fo env st).out env fun o st1 => match cellL st1 o with
  | none => .stuck
  | some _ => (fe env st1).out env fun d st2 => match cellL st2 o, d with
    | some (n, ds), .lst es => if ds.length + es.length ≤ sizeLine then .next env (st2.set n (.lst (ds ++ es))) else .stuck
    | _, _ => .stuck
/-- o[k] = e -/
def sSetC (fo fk fe : F) : FS := fun env st => (fe env st).out env fun d st1 => (fo env st1).out env fun o st2 => (fk env st2).out env fun k st3 => match cellL st3 o, k with
  | some (n, ds), .int k => match ixN ds.length k with
    | some j => .next env (st3.set n (.lst (ds.set j d)))
    | none => .stuck
  | _, _ => .stuck
/-- o.pop() -/
def bPopC (fo : F) : F := fun env st => (fo env st).bind fun o st1 => match cellL st1 o with
  | some (n, ds) => match ds[ds.length - 1]? with
    | some d => .ok d (st1.set n (.lst ds.dropLast))
    | none => .stuck
  | none => .stuck
theorem Reps.dropLast {K : PySem.W.Frag} {w : Wd} {H : Hp} {vs : List V} {ds : List D} (h : Reps K w H vs ds) : Reps K w H vs.dropLast ds.dropLast := by
  rw [List.dropLast_eq_take, List.dropLast_eq_take, h.length]
  exact h.take _
section
variable {G : Ct} {M : Mo} {m : Md} {X : Cx} {C : Cf} {a b c e o k : Expr} {es : List Expr} {f g fo fk fe : F} {fb : FB} {fi fl : FL} {pos p1 p2 p3 p4 : Pos} {x : Str}
theorem cell_at {T : Tb} {B : Bs} {w : Wd} {env : Ev} {st : Sto} {σ : L2.St} {H : Hp} {v : V} {d : D} {n : Nat} {ds : List D} (s : Sim T B w env st σ H) (r : RepR T.K w H v d) (h : cellL st d = some (n, ds)) :
    ∃ a vs, v = .ref a ∧ w.r[n]? = some a ∧ H a = some (.lst vs) ∧ Reps T.K w H vs ds := by
  obtain ⟨rfl, q⟩ := cellL_some h
  obtain ⟨a, rfl, ea⟩ := RepR.loc r
  obtain ⟨vs, h1, h2⟩ := s.sto.at_ n _ a q ea
  exact ⟨a, vs, rfl, ea, h1, h2⟩
theorem ss_appC (ho : SndE G M .rd o fo) (he : SndE G M .esc e fe) (hs : ∀ env, starEach (e :: []) env = (false, eval e env) :: starEach [] env := by intro _; rfl) (hb : ∀ env, attributeBase o "append" env (eval o env) = eval o env := by intro _; rfl) (hline : (p3.endLine == p4.line) = true := by rfl)
    (hfew : ∀ env, ((backTo p4 (starEach (e :: []) env)).all (fun x => !x.1) && (backToKw p4 (keywordEach [] env)).all (fun x => x.1.isSome) && decide ((e :: []).length + ([] : List Keyword).length + (if ([] : List Keyword).isEmpty then 0 else 1) < 30)) = true := by intro _; rfl) :
    SndS G M (.Expr (.Call (.Attribute o "append" p3) [e] [] p4) pos) (sAppC fo fe) := by
  intro X C gd
  refine (ps_expr (pe_bm F.plainAttrs_list F.slot_list_append F.type_list_append mt_append (ho X C gd) (pa_cons (he X C gd) pa_nil (hs _)) (hb _) (hfew _) hline (hs _) rfl) rfl).imp fun E σ H ⟨w, env, st, s, p⟩ => ⟨w, env, st, s, ?_⟩
  rw [show X.K = C.T.K from gd.K.trans (by rw [gd.T])]
  refine PostS.bind p fun oo st1 w1 v1 H1 l1 s1 r1 p1 => ?_
  have r1' : RepR C.T.K w1 H1 v1 oo := r1
  cases q : cellL st1 oo with
  | none => rw [q] at p1; exact p1.elim
  | some z =>
    obtain ⟨n, ds⟩ := z
    rw [q] at p1
    obtain ⟨a, vs, rfl, ea, h1, h2⟩ := cell_at s1 r1' q
    refine ⟨.inl ⟨rfl, _, SqL.of h1⟩, w1, env, st1, s1, PostS.bind p1 fun d st2 w2 v2 H2 l2 s2 r2 p2 => ?_⟩
    cases q2 : cellL st2 oo with
    | none => rw [q2] at p2; exact p2.elim
    | some z2 =>
      obtain ⟨n2, es⟩ := z2
      rw [q2] at p2
      obtain ⟨a2, us, e2, ea2, k1, k2⟩ := cell_at s2 (r1'.le l2 s1.sto) q2
      cases e2
      dsimp only at p2
      split at p2
      · rename_i hz
        exact ⟨a, us, v2, rfl, rfl, k1, by rw [k2.length]; exact hz, p2 w2 σ _ (s2.lstCell ea2 (k2.append (.cons r2 .nil)))⟩
      · exact p2.elim
theorem ss_extC (ho : SndE G M .rd o fo) (he : SndE G M .rd e fe) (hs : ∀ env, starEach (e :: []) env = (false, eval e env) :: starEach [] env := by intro _; rfl) (hb : ∀ env, attributeBase o "extend" env (eval o env) = eval o env := by intro _; rfl) (hline : (p3.endLine == p4.line) = true := by rfl)
    (hfew : ∀ env, ((backTo p4 (starEach (e :: []) env)).all (fun x => !x.1) && (backToKw p4 (keywordEach [] env)).all (fun x => x.1.isSome) && decide ((e :: []).length + ([] : List Keyword).length + (if ([] : List Keyword).isEmpty then 0 else 1) < 30)) = true := by intro _; rfl) :
    SndS G M (.Expr (.Call (.Attribute o "extend" p3) [e] [] p4) pos) (sExtC fo fe) := by
  intro X C gd
  refine (ps_expr (pe_bm F.plainAttrs_list F.slot_list_extend F.type_list_extend mt_extendR (ho X C gd) (pa_cons (he X C gd) pa_nil (hs _)) (hb _) (hfew _) hline (hs _) rfl) rfl).imp fun E σ H ⟨w, env, st, s, p⟩ => ⟨w, env, st, s, ?_⟩
  rw [show X.K = C.T.K from gd.K.trans (by rw [gd.T])]
  refine PostS.bind p fun oo st1 w1 v1 H1 l1 s1 r1 p1 => ?_
  have r1' : RepR C.T.K w1 H1 v1 oo := r1
  cases q : cellL st1 oo with
  | none => rw [q] at p1; exact p1.elim
  | some z =>
    obtain ⟨n, ds⟩ := z
    rw [q] at p1
    obtain ⟨a, vs, rfl, ea, h1, h2⟩ := cell_at s1 r1' q
    refine ⟨.inl ⟨rfl, _, SqL.of h1⟩, w1, env, st1, s1, PostS.bind p1 fun d st2 w2 v2 H2 l2 s2 r2 p2 => ?_⟩
    cases q2 : cellL st2 oo with
    | none => rw [q2] at p2; exact p2.elim
    | some z2 =>
      obtain ⟨n2, es⟩ := z2
      rw [q2] at p2
      obtain ⟨a2, us, e2, ea2, k1, k2⟩ := cell_at s2 (r1'.le l2 s1.sto) q2
      cases e2
      cases d with
      | lst fs =>
        have p2' : PostS C E (if es.length + fs.length ≤ sizeLine then .next env (st2.set n2 (.lst (es ++ fs))) else .stuck) := p2
        split at p2'
        · rename_i hz
          obtain ⟨b, zs, rfl, e5, _, rs⟩ := RepR.lst r2
          exact ⟨a, b, us, zs, rfl, rfl, k1, e5, by rw [k2.length, rs.length]; exact hz, p2' w2 σ _ (s2.lstCell ea2 (k2.append rs))⟩
        · exact p2'.elim
      | _ => exact p2.elim
theorem sn_popC (ho : SndE G M .rd o fo) (hb : ∀ env, attributeBase o "pop" env (eval o env) = eval o env := by intro _; rfl) (hline : (p3.endLine == p4.line) = true := by rfl) :
    SndE G M .esc (.Call (.Attribute o "pop" p3) [] [] p4) (bPopC fo) := by
  intro X C gd
  refine (pe_bm0 F.plainAttrs_list F.slot_list_pop F.type_list_pop mt_pop (ho X C gd) (hb _) hline).imp fun σ H Q ⟨w, env, st, s, p⟩ => ⟨w, env, st, s, ?_⟩
  rw [show X.K = C.T.K from gd.K.trans (by rw [gd.T])]
  refine PostE.bind p fun oo st1 w1 v1 H1 l1 s1 r1 p1 => ?_
  have r1' : RepR C.T.K w1 H1 v1 oo := r1
  cases q : cellL st1 oo with
  | none => rw [q] at p1; exact p1.elim
  | some z =>
    obtain ⟨n, ds⟩ := z
    rw [q] at p1
    obtain ⟨a, vs, rfl, ea, h1, h2⟩ := cell_at s1 r1' q
    refine ⟨.inl ⟨rfl, _, SqL.of h1⟩, ?_⟩
    dsimp only at p1
    cases q2 : ds[ds.length - 1]? with
    | none => rw [q2] at p1; exact p1.elim
    | some d =>
      rw [q2] at p1
      obtain ⟨y, hy, ry⟩ := h2.get q2
      refine ⟨a, vs, y, rfl, rfl, h1, by rw [h2.length]; exact hy, ?_⟩
      have hm : a ∈ w1.r := List.mem_of_getElem? ea
      have l : Le w1 H1 w1 (upd H1 a (.lst vs.dropLast)) := Le.cell hm
      exact p1 w1 y _ l (s1.lstCell ea h2.dropLast) (Rep.to (l.ok2 s1.sto) _ _ ry)
theorem ss_setC (ho : SndE G M .rd o fo) (hk : SndE G M .rd k f) (he : SndE G M .esc e fe)
    (hs : ∀ env, swapsWithSole [.Subscript o k p3] e pos.line env = pure false := by intro _; rfl) (hw : ∀ env, swappedStores [.Subscript o k p3] e env = pure none := by intro _; rfl)
    (h1 : ∀ env, (assignEach [.Subscript o k p3] env).map (·.2) = [assign (.Subscript o k p3) env] := by intro _; rfl)
    (ha : ∀ env v, assign (.Subscript o k p3) env v = (do
      let ov ← holding [v] (eval o env)
      let iv ← holding [v, ov] (eval k env)
      standAt p3
      holding [v, ov, iv] (setItem ov iv v)
      release [v, ov, iv] []) := by intro _ _; rfl) : SndS G M (.Assign [.Subscript o k p3] e pos) (sSetC fo f fe) := by
  intro X C gd
  refine (ps_asg (he X C gd) (pg_sub (ho X C gd) (hk X C gd) set_list (ha _)) (hs _) (hw _) (h1 _)).imp fun E σ H ⟨w, env, st, s, p⟩ => ⟨w, env, st, s, ?_⟩
  refine PostS.bind p fun d st1 w1 v1 H1 l1 s1 r1 p1 => ⟨w1, env, st1, s1, PostS.bind p1 fun oo st2 w2 v2 H2 l2 s2 r2 p2 => ⟨w2, env, st2, s2, PostS.bind p2 fun kk st3 w3 v3 H3 l3 s3 r3 p3 => ?_⟩⟩
  have r2' : RepR C.T.K w2 H2 v2 oo := r2
  cases q : cellL st3 oo with
  | none => rw [q] at p3; exact p3.elim
  | some z =>
    obtain ⟨n, ds⟩ := z
    rw [q] at p3
    obtain ⟨a, vs, rfl, ea, g1, g2⟩ := cell_at s3 (r2'.le l3 s2.sto) q
    cases kk with
    | int i =>
      have p' : PostS C E (match ixN ds.length i with | some j => .next env (st3.set n (.lst (ds.set j d))) | none => .stuck) := p3
      cases e0 : ixN ds.length i with
      | none => rw [e0] at p'; exact p'.elim
      | some j =>
        rw [e0] at p'
        exact ⟨a, vs, i, j, rfl, RepR.int r3, g1, by rw [g2.length]; exact e0, p' w3 σ _ (s3.lstCell ea (g2.set (Rep.to ((l2.trans l3).ok2 s1.sto) _ _ r1) j))⟩
    | _ => exact p3.elim
/-- bool(x), lists too -/
def kBoolA : List D → Sto → R D
  | [.int i], st => .ok (.bl (i != 0)) st
  | [.bl b], st => .ok (.bl b) st
  | [.lst ds], st => .ok (.bl (!ds.isEmpty)) st
  | [.loc n], st => match st[n]? with
    | some (.lst ds) => .ok (.bl (!ds.isEmpty)) st
    | _ => .stuck
  | _, _ => .stuck
theorem isEmpty_len {α β : Type} {xs : List α} {ys : List β} (h : xs.length = ys.length) : xs.isEmpty = ys.isEmpty := by
  cases xs <;> cases ys <;> simp at h <;> rfl
theorem bu_boolA : BuS G M m [.rd] (.type "bool") kBoolA := by
  refine fun X C gd => ⟨_, call_bool1.or call_boolL, fun env σ w H st ds vs Q s r0 p => ?_⟩
  rw [show X.K = C.T.K from gd.K.trans (by rw [gd.T])]
  obtain ⟨v, d, rfl, rfl, r⟩ := r0.rd1
  cases d with
  | int i => exact .inl (.inl ⟨i, by rw [r.int], PostE.done p s (RepM.bl _)⟩)
  | bl b => exact .inl (.inr ⟨b, by rw [r.bl], PostE.done p s (RepM.bl _)⟩)
  | lst ds =>
    obtain ⟨a, us, rfl, e3, _, rs⟩ := r.lst
    exact .inr ⟨a, us, rfl, e3.sq, by rw [isEmpty_len rs.length]; exact PostE.done p s (RepM.bl _)⟩
  | loc n =>
    obtain ⟨a, rfl, ea⟩ := r.loc
    have p' : PostE C m env σ w H (match st[n]? with | some (.lst ds) => .ok (.bl (!ds.isEmpty)) st | _ => .stuck) Q := p
    cases q : st[n]? with
    | none => rw [q] at p'; exact p'.elim
    | some c =>
      rw [q] at p'
      cases c with
      | lst ds =>
        obtain ⟨us, h1, h2⟩ := s.sto.at_ _ _ _ q ea
        exact .inr ⟨a, us, rfl, SqL.of h1, by rw [isEmpty_len h2.length]; exact PostE.done p' s (RepM.bl _)⟩
      | _ => exact p'.elim
  | _ => exact p.elim
end
end NC

/-! ### comprehensions over lists of the store, whose elements change nothing -/
namespace NC
open PySem L2
def PureE (f : F) : Prop := ∀ env st d st', f env st = .ok d st' → st' = st
def PureB (f : FB) : Prop := ∀ env st d st', f env st = .ok d st' → st' = st
def PureL (f : FL) : Prop := ∀ env st d st', f env st = .ok d st' → st' = st
theorem pu_var (i : Nat) : PureE (bVar i) := fun env st d st' h => by
  unfold bVar at h
  split at h
  · cases h; rfl
  · cases h
theorem pu_varR (i : Nat) : PureE (bVarR i) := fun env st d st' h => by
  unfold bVarR at h
  split at h <;> first | (cases h; done) | (cases h; rfl)
theorem pu_c (d : D) : PureE (bC d) := fun env st x st' h => by cases h; rfl
theorem kEq_st {a b : D} {st st' : Sto} {d : D} (h : kEq a b st = .ok d st') : st' = st := by
  unfold kEq at h
  split at h
  · cases h; rfl
  · cases h
theorem kIx_st {a b : D} {st st' : Sto} {d : D} (h : kIx a b st = .ok d st') : st' = st := by
  unfold kIx at h
  repeat' (split at h)
  all_goals first | (cases h; rfl) | (cases h; done)
theorem pu_bin {k : D → D → Sto → R D} {f g : F} (hk : ∀ {a b st st' d}, k a b st = .ok d st' → st' = st) (hf : PureE f) (hg : PureE g) : PureE (bBin k f g) := fun env st d st' h => by
  rw [bBin_eq] at h
  cases e1 : f env st with
  | stuck => rw [e1] at h; cases h
  | exc x s => rw [e1] at h; cases h
  | ok a s1 =>
    rw [e1, bind_ok] at h
    have := hf _ _ _ _ e1
    subst this
    cases e2 : g env s1 with
    | stuck => rw [e2] at h; cases h
    | exc x s => rw [e2] at h; cases h
    | ok b s2 =>
      rw [e2, bind_ok] at h
      have := hg _ _ _ _ e2
      subst this
      exact hk h
theorem pu_yes : PureB cYes := fun env st d st' h => by cases h; rfl
theorem pu_tst {f : F} (hf : PureE f) : PureB (bTst f) := fun env st d st' h => by
  rw [bTst_eq] at h
  cases e : f env st with
  | stuck => rw [e] at h; cases h
  | exc x s => rw [e] at h; cases h
  | ok a s1 =>
    rw [e] at h
    have := hf _ _ _ _ e
    subst this
    cases a <;> first | (cases h; rfl) | (cases h; done)
def ItOkF (C : Cf) (pin : List (V × D)) (J : It) (ds : List D) (env0 : Ev) (σ0 : L2.St) (st0 : Sto) : Prop :=
  ∀ (B' : Bs), B'.w = C.B.w → B'.H = C.B.H → (∀ p ∈ pin, p ∈ B'.pin) → ∀ w H, Sim C.T B' w env0 st0 σ0 H → ∀ i : Nat,
    (∀ d, ds[i]? = some d → J.go i H ∧ ∀ x H', J.yld i H x H' → ∃ w', Le w H w' H' ∧ Sim C.T B' w' env0 st0 σ0 H' ∧ Rep C.T.K w' H' x d) ∧ (ds.length ≤ i → J.stop i H)
def PostIF (C : Cf) (own : List Nat) (env : Ev) (σ : L2.St) (w : Wd) (H : Hp) (r : R (List D)) (Q : It → Hp → Prop) : Prop := match r with
  | .ok ds st' => ∀ w' H' J pin, Le w H w' H' → Sim C.T C.B w' env st' σ H' → (∀ p ∈ pin, PinOk C.T.K C.B w' H' p) → ItOkF C pin J ds (wipeE env own) (L2.wipe σ own) st' → ds.length ≤ sizeLine → Q J H'
  | .exc x st' => ∀ w' H' c dx, Le w H w' H' → Sim C.T C.B w' env st' σ H' → XRep C.T w' H' x c dx → C.W c dx σ H'
  | .stuck => False
def tIF (C : Cf) (own : List Nat) (f : FL) : TI := fun σ H Q => ∃ w env st, Sim C.T C.B w env st σ H ∧ PostIF C own env σ w H (f env st) Q
def SndIf (G : Ct) (M : Mo) (own : List Nat) (tg e : Expr) (f : FL) : Prop := ∀ X C, Gd G M X C → PI X tg e (tIF C own f)
def iCell (f : F) : FL := fun env st => (f env st).bind fun d st1 => match cellL st1 d with
  | some (_, ds) => if ds.length ≤ sizeLine then .ok ds st1 else .stuck
  | none => .stuck
section
variable {G : Ct} {M : Mo} {m : Md} {X : Cx} {C : Cf} {a b c e tg : Expr} {es : List Expr} {f g h : F} {fb : FB} {fi fl : FL} {pos : Pos} {i : Nat} {x : Str} {t : Tg}
theorem si_cell {own : List Nat} (he : SndE G M .esc e f) : SndIf G M own tg e (iCell f) := by
  intro X C gd
  refine (pi_listB (he X C gd)).imp fun σ H Q ⟨w, env, st, s, p⟩ => ⟨w, env, st, s, ?_⟩
  rw [show X.K = C.T.K from gd.K.trans (by rw [gd.T])]
  unfold iCell at p
  cases e1 : f env st with
  | stuck => rw [e1] at p; exact p.elim
  | exc x st' => rw [e1] at p; exact p
  | ok d st' =>
    rw [e1] at p
    intro w' v H' l s' r
    have r' : Rep C.T.K w' H' v d := r
    have p' : PostIF C own env σ w H (match cellL st' d with | some (_, ds) => if ds.length ≤ sizeLine then .ok ds st' else .stuck | none => .stuck) Q := p
    cases q : cellL st' d with
    | none => rw [q] at p'; exact p'.elim
    | some z =>
      obtain ⟨n, ds⟩ := z
      rw [q] at p'
      obtain ⟨a, vs, rfl, ea, h1, h2⟩ := cell_at s' (.inl r') q
      obtain ⟨rfl, q0⟩ := cellL_some q
      dsimp only at p'
      split at p'
      · rename_i hz
        refine ⟨a, rfl, vs, SqL.of h1, fun _ => p' w' H' _ [(.ref a, .loc n)] l s' (fun z hz => ?_) ?_ hz⟩
        · have : z = (.ref a, .loc n) := by simpa using hz
          subst this; exact .inl r'
        · intro B' _ _ hp w2 H2 s2 j
          have rr : Rep C.T.K w2 H2 (.ref a) (.loc n) := by
            rcases s2.pin _ (hp (.ref a, .loc n) (by simp)) with z | ⟨_, _, _, _, z, _⟩
            · exact z
            · cases z
          obtain ⟨a2, us, ez, ea2, k1, k2⟩ := cell_at s2 (.inl rr) q
          cases ez
          refine ⟨fun d hd => ?_, fun hi => ⟨us, SqL.of k1, by rw [k2.length]; exact hi⟩⟩
          obtain ⟨v, hv, rv⟩ := k2.get hd
          refine ⟨⟨us, v, SqL.of k1, hv⟩, fun x H' hy => ?_⟩
          obtain ⟨rfl, hy⟩ := hy
          have := hy us (SqL.of k1)
          rw [hv] at this
          cases this
          exact ⟨w2, .refl _ _, s2, rv⟩
      · exact p'.elim
theorem sn_compF {elt iter : Expr} {ifs : List Expr} {scope : Scope} {own : List (Str × Nat)} {is : List Nat} (hm : M.hot = false) (hi : SndIf G M (own.map (·.2)) tg iter fi) (ok : blkC G.N G.sc scope own = true)
    (hg : SndG (G.blk scope) M tg is t) (ht : SndTs (G.blk scope) M ifs fb) (he : SndE (G.blk scope) M .esc elt f) (pb : PureB fb) (pf : PureE f) (hsub : ∀ j ∈ is, j ∈ own.map (·.2)) (hs : ∀ env x, foldedSetIterable iter env x = pure x := by intro _ _; rfl) :
    SndE G M .fr (.ListComp elt [⟨tg, iter, ifs, 0⟩] scope pos) (bComp (own.map (·.2)) fi t fb f) := by
  intro X C gd
  let Cb : Bs → Cf := fun B => ⟨C.T, B, fun _ _ _ _ => False⟩
  refine (pe_lc (wi := tIF C (own.map (·.2)) fi) (g := fun v σ H Q => ∃ B, B.ex = none ∧ tG (Cb B) is t v σ H Q) (tt := fun σ H Q => ∃ B, B.ex = none ∧ tT (Cb B) fb σ H Q) (te := fun σ H Q => ∃ B, B.ex = none ∧ tE (Cb B) .esc f σ H Q)
    (gd.cold hm).1 gd.nd (hi X C gd) (blkOk_by (by rw [gd.N, gd.sc]; exact ok))
    (fun s H Ce cl fp => ⟨fun pins s' σ H v u Q I r ⟨B, hB, q⟩ => (hg _ (Cb B) (gd.blk s _ scope Ce cl fp B hm hB)).run pins s' σ H v u Q I r q⟩)
    (fun s H Ce cl fp => ⟨fun pins s' σ H Q I ⟨B, hB, q⟩ => (ht _ (Cb B) (gd.blk s _ scope Ce cl fp B hm hB)).run pins s' σ H Q I q⟩)
    (fun s H Ce cl fp => ⟨fun pins s' σ H Q I ⟨B, hB, q⟩ => (he _ (Cb B) (gd.blk s _ scope Ce cl fp B hm hB)).run pins s' σ H Q I q⟩) (hs _)).imp fun σ H Q ⟨w, env, st, s, p⟩ => ⟨w, env, st, s, ?_⟩
  unfold bComp at p
  cases e1 : fi env st with
  | stuck => rw [e1] at p; exact p.elim
  | exc x st' => rw [e1] at p; exact p
  | ok ds st1 =>
    rw [e1] at p
    dsimp only at p
    intro w1 H1 J pin l1 s1 hpin hJ hz Dp hD
    have p1 := PostE.le p l1
    let B' : Bs := ⟨C.B.w, C.B.H, pin ++ C.B.pin, C.B.ex⟩
    have hBx : B'.ex = none := (gd.cold hm).2.2
    have l0 : Le w1 H1 (w1.add Dp) (upd H1 Dp (.lst [])) := (Le.push hD).add hD
    have BD : C.B.H Dp = none := s1.le.back hD
    have s1' : Sim C.T B' w1 env st1 σ H1 := s1.topin rfl rfl rfl fun q hq => (List.mem_append.mp hq).elim (hpin q) (s1.pin q)
    have s2 : Sim C.T B' (w1.add Dp) (wipeE env (own.map (·.2))) st1 (L2.wipe σ (own.map (·.2))) (upd H1 Dp (.lst [])) := (s1'.wipe _).pushO hD
    have noslot : ∀ (j : Nat) (d : D), (wipeE env (own.map (·.2)))[j]? = some (some (.own, d)) → ((L2.wipe σ (own.map (·.2)))[j]?).join ≠ some (.ref Dp) := fun j d hj hq => by
      obtain ⟨a', vs', ds', g1, g2, g3, _⟩ := (s1'.wipe (own.map (·.2))).slot j _ hj
      rw [g1] at hq
      cases hq
      rw [hD] at g3
      cases g3
    refine ⟨fun i m H2 => m = ds.length - i ∧ i ≤ ds.length ∧ ∃ w2 acc xs, Le w1 H1 w2 H2 ∧ Sim C.T B' w2 (wipeE env (own.map (·.2))) st1 (L2.wipe σ (own.map (·.2))) H2 ∧ H2 Dp = some (.lst acc) ∧ w2.S Dp ∧ Reps C.T.K w2 H2 acc xs ∧ acc.length ≤ i ∧
        PostE C .fr env σ w1 H1 ((compL t fb f (ds.drop i) (wipeE env (own.map (·.2))) st1).bind fun ys st3 => .ok (.lst (xs ++ ys)) st3) Q,
      ⟨ds.length, rfl, Nat.zero_le _, w1.add Dp, [], [], l0, s2, upd_same, .inr rfl, .nil, Nat.le_refl _, p1⟩, ?_⟩
    rintro i m H2 ⟨rfl, hi', w2, acc, xs, l2, s2, hacc, hS, rx, hl, p2⟩
    obtain ⟨j1, j2⟩ := hJ B' rfl rfl (fun q hq => List.mem_append_left _ hq) w2 H2 s2 i
    by_cases hlt : i < ds.length
    · have hd : ds[i]? = some ds[i] := List.getElem?_eq_getElem hlt
      obtain ⟨g1, g2⟩ := j1 _ hd
      rw [List.drop_eq_getElem_cons hlt] at p2
      refine .inr ⟨g1, fun H' => ∃ w2 acc xs, Le w1 H1 w2 H' ∧ Sim C.T B' w2 (wipeE env (own.map (·.2))) st1 (L2.wipe σ (own.map (·.2))) H' ∧ H' Dp = some (.lst acc) ∧ w2.S Dp ∧ Reps C.T.K w2 H' acc xs ∧ acc.length ≤ i + 1 ∧
        PostE C .fr env σ w1 H1 ((compL t fb f (ds.drop (i + 1)) (wipeE env (own.map (·.2))) st1).bind fun ys st3 => .ok (.lst (xs ++ ys)) st3) Q, fun H' hN => ⟨ds.length - (i + 1), by omega, rfl, hlt, hN⟩, fun x H' hy => ?_⟩
      obtain ⟨w3, l3, s3, r3⟩ := g2 x H' hy
      refine ⟨B', hBx, w3, _, st1, ds[i], s3, r3, ?_⟩
      unfold compL at p2
      cases q : t ds[i] (wipeE env (own.map (·.2))) with
      | none => rw [q] at p2; exact p2.elim
      | some env3 =>
        rw [q] at p2
        dsimp only at p2
        intro σ4 s4 hk
        have hwipe : L2.wipe σ4 (own.map (·.2)) = L2.wipe σ (own.map (·.2)) := by
          exact (wipe_eq (σ := L2.wipe σ (own.map (·.2))) (σ' := σ4) hk.1.symm fun j hj => hk.2 j fun z => hj (hsub j z)).trans (wipe_eq (wipe_length _ _).symm fun j hj => wipe_keep hj)
        refine ⟨hwipe, B', hBx, w3, env3, st1, s4, ?_⟩
        cases q2 : fb env3 st1 with
        | stuck => rw [q2] at p2; exact p2.elim
        | exc x st' => rw [q2] at p2; exact p2.elim
        | ok bb st3 =>
          have hst := pb _ _ _ _ q2
          subst hst
          rw [q2] at p2
          intro w5 H5 l5 s5
          have lA : Le w2 H2 w5 H5 := l3.trans l5
          have sA : Sim C.T B' w5 (wipeE env (own.map (·.2))) st3 (L2.wipe σ (own.map (·.2))) H5 := s2.go lA lA.Sm s5.sto s5.al
          have haccA : H5 Dp = some (.lst acc) := lA.fr _ _ hacc (s2.al _ hS).2
          have rxA : Reps C.T.K w5 H5 acc xs := Reps.to (lA.ok2 s2.sto) _ _ rx
          cases bb with
          | false =>
            rw [if_neg Bool.false_ne_true]
            exact ⟨w5, acc, xs, l2.trans lA, sA, haccA, lA.Sm _ hS, rxA, by omega, p2⟩
          | true =>
            rw [if_pos rfl]
            refine ⟨B', hBx, w5, env3, st3, s5, ?_⟩
            have p3 : PostE C .fr env σ w1 H1 (((f env3 st3).nox.bind fun x st2 => (compL t fb f (ds.drop (i + 1)) (wipeE env (own.map (·.2))) st2).bind fun xs st3 => .ok (x :: xs) st3).bind fun ys st3 => .ok (.lst (xs ++ ys)) st3) Q := p2
            cases q3 : f env3 st3 with
            | stuck => rw [q3] at p3; exact p3.elim
            | exc x st' => rw [q3] at p3; exact p3.elim
            | ok dd st4 =>
              have hst4 := pf _ _ _ _ q3
              subst hst4
              rw [q3] at p3
              intro w6 y H6 l6 s6 r6
              have lB : Le w2 H2 w6 H6 := lA.trans l6
              have haccB : H6 Dp = some (.lst acc) := lB.fr _ _ hacc (s2.al _ hS).2
              have sB : Sim C.T B' w6 (wipeE env (own.map (·.2))) st4 (L2.wipe σ (own.map (·.2))) H6 := s2.go lB lB.Sm s6.sto s6.al
              refine ⟨acc, haccB, by omega, ?_⟩
              have hS6 : w6.S Dp := lB.Sm _ hS
              have okg : Ok2 w6 H6 w6 (upd H6 Dp (.lst (acc ++ [y]))) := by
                refine ⟨fun _ _ e => e, fun b o e im => ?_, fun b o e n1 n2 => ⟨?_, n1, n2⟩⟩
                · rw [upd_ne (fun z => by subst z; rw [haccB] at e; cases e; exact im)]; exact e
                · rw [upd_ne (fun (z : b = Dp) => n1 (by rw [z]; exact hS6))]; exact e
              have lC : Le w1 H1 w6 (upd H6 Dp (.lst (acc ++ [y]))) := by
                have l7 : Le w1 H1 w6 H6 := l2.trans lB
                refine ⟨l7.pre, fun b o e n => ?_, fun b o e => ?_, l7.new, l7.S, l7.Sm⟩
                · rw [upd_ne (ne_of_none e hD)]; exact l7.fr b o e n
                · rw [upd_ne (ne_of_none e hD)]; exact l7.live b o e
              refine ⟨w6, acc ++ [y], xs ++ [dd], lC, sB.grow haccB hS6 BD noslot, upd_same, hS6, Reps.to okg _ _ ((Reps.to (lB.ok2 s2.sto) _ _ rx).append (.cons r6 .nil)), by rw [List.length_append, List.length_singleton]; omega, ?_⟩
              change PostE C .fr env σ w1 H1 (((compL t fb f (ds.drop (i + 1)) (wipeE env (own.map (·.2))) st4).bind fun xs st3 => .ok (dd :: xs) st3).bind fun ys st3 => .ok (.lst (xs ++ ys)) st3) Q at p3
              cases q4 : compL t fb f (ds.drop (i + 1)) (wipeE env (own.map (·.2))) st4 with
              | stuck => rw [q4] at p3; exact p3
              | exc x st' => rw [q4] at p3; exact p3
              | ok zs st5 =>
                rw [q4] at p3
                have p4 : PostE C .fr env σ w1 H1 (.ok (.lst (xs ++ dd :: zs)) st5) Q := p3
                show PostE C .fr env σ w1 H1 (.ok (.lst ((xs ++ [dd]) ++ zs)) st5) Q
                rw [List.append_assoc]
                exact p4
    · have e : ds.drop i = [] := List.drop_eq_nil_of_le (by omega)
      rw [e] at p2
      have p3 : PostE C .fr env σ w1 H1 (.ok (.lst (xs ++ [])) st1) Q := p2
      rw [List.append_nil] at p3
      exact .inl ⟨j2 (by omega), p3 w2 _ H2 l2 (s1.go l2 l2.Sm s2.sto s2.al) ⟨Dp, acc, rfl, hacc, hD, hS, rx⟩⟩
theorem lcf {elt iter : Expr} {ifs : List Expr} {scope : Scope} {is : List Nat} (hm : M.hot = false) (own : List (Str × Nat)) (hi : SndIf G M (own.map (·.2)) tg iter fi) (hg : SndG (G.blk scope) M tg is t) (ht : SndTs (G.blk scope) M ifs fb) (he : SndE (G.blk scope) M .esc elt f) (pb : PureB fb) (pf : PureE f)
    (ok : blkC G.N G.sc scope own = true := by decide +kernel) (hsub : ∀ j ∈ is, j ∈ own.map (·.2) := by decide +kernel) (hs : ∀ env x, foldedSetIterable iter env x = pure x := by intro _ _; rfl) :
    SndE G M .fr (.ListComp elt [⟨tg, iter, ifs, 0⟩] scope pos) (bComp (own.map (·.2)) fi t fb f) := sn_compF hm hi ok hg ht he pb pf hsub hs
end
end NC

/-! ### text * int, texts compared by order -/
namespace L2
open PySem PySem.Spec PyProof.Rows
theorem foldl_len (z : Array Nat) : ∀ (k : Nat) (a : Array Nat), ((List.replicate k z).foldl (· ++ ·) a).size = a.size + k * z.size
  | 0, a => by simp
  | k + 1, a => by
    rw [List.replicate_succ, List.foldl_cons, foldl_len z k, Array.size_append, Nat.succ_mul]; omega
theorem op_mulS {X : Cx} : OpR X (binaryOp .Mult) (fun x y H Q => ∃ z k, x = .str z ∧ y = .int k ∧ 2 ≤ k ∧ k ≤ 100000 ∧ 1 ≤ z.length ∧ z.length ≤ 100 ∧ Q (.str ⟨(List.replicate k.toNat z.cps).foldl (· ++ ·) #[]⟩) H) := by
  intro pins s σ H x y v u Q I rx ry h
  obtain ⟨z, k, rfl, rfl, h1, h2, h3, h4, q⟩ := h
  obtain ⟨t, rfl⟩ := rx
  obtain ⟨t2, rfl⟩ := ry
  have hp : z.length * k.toNat ≤ 100 * 100000 := Nat.mul_le_mul h4 (by omega)
  have hn1 : ¬ k < 1 := by omega
  have hk1 : (k == 1 || z.length == 0) = false := by
    rw [Bool.or_eq_false_iff]
    exact ⟨by simp; omega, by simp; omega⟩
  have hdiv : ((2 : Int) ^ 63 - 1) / k ≥ 1000 := by
    have : (1000 : Int) ≤ (2 ^ 63 - 1) / k := by
      rw [Int.le_ediv_iff_mul_le (by omega)]
      omega
    exact this
  have h7 : 10000000 ≤ sizeLine := by rw [sizeLine_eq]; decide
  have hlong : PySem.Builtin.Str.tooLong (z.length * k.toNat) = false := by
    unfold PySem.Builtin.Str.tooLong
    exact decide_eq_false (by omega)
  refine PySem.P.mul_str (by rw [Bool.or_eq_false_iff]; exact ⟨decide_eq_false (by omega), decide_eq_false (by omega)⟩) (fun _ _ => by omega) (fun _ _ => hlong) ?_
  rw [if_neg hn1, hk1, if_neg Bool.false_ne_true]
  have hs : ((List.replicate k.toNat z.cps).foldl (· ++ ·) #[]).size = z.length * k.toNat := by
    rw [foldl_len, Nat.mul_comm]
    show 0 + z.cps.size * k.toNat = z.cps.size * k.toNat
    omega
  exact ⟨by
    first
      | (show _ ≤ _; show ((List.replicate k.toNat z.cps).foldl (· ++ ·) #[]).size ≤ _; rw [hs]; omega)
      | (show _ < _; show ((List.replicate k.toNat z.cps).foldl (· ++ ·) #[]).size < _; rw [hs]; omega), .str ⟨(List.replicate k.toNat z.cps).foldl (· ++ ·) #[]⟩, H, I.tok _, ⟨_, rfl⟩, q⟩
end L2
namespace NC
open PySem L2
def repS (z : Str) (k : Nat) : Str := ⟨(List.replicate k z.cps).foldl (· ++ ·) #[]⟩
/-- *, a text times a number too -/
def kMulS : D → D → Sto → R D
  | .str z, .int k, st => if 2 ≤ k ∧ k ≤ 100000 ∧ 1 ≤ z.length ∧ z.length ≤ 100 then .ok (.str (repS z k.toNat)) st else .stuck
  | a, b, st => kMulL a b st
/-- <=, texts too -/
def kLeS : D → D → Sto → R D
  | .str i, .str j, st => .ok (.bl (!decide (j.cps.toList < i.cps.toList))) st
  | a, b, st => kLe a b st
section
variable {G : Ct} {M : Mo} {m : Md} {X : Cx} {C : Cf}
theorem os_mulS : OpS G M .fr (binaryOp .Mult) kMulS := by
  intro X C g
  obtain ⟨r, h1, h2⟩ := os_mulL (G := G) (M := M) X C g
  refine ⟨_, h1.or op_mulS, fun env σ w H st d1 d2 v1 v2 Q s r1 r2 p => ?_⟩
  unfold kMulS at p
  split at p
  · split at p
    · rename_i hc
      exact .inr ⟨_, _, r1.str, r2.int, hc.1, hc.2.1, hc.2.2.1, hc.2.2.2, p.done s (RepM.str _)⟩
    · exact p.elim
  · exact .inl (h2 env σ w H st _ _ v1 v2 Q s r1 r2 p)
theorem os_leS : OpS G M m (compareOp .LtE) kLeS := by
  intro X C g
  obtain ⟨r, h1, h2⟩ := os_le (G := G) (M := M) (m := m) X C g
  refine ⟨_, h1.or op_le_str, fun env σ w H st d1 d2 v1 v2 Q s r1 r2 p => ?_⟩
  unfold kLeS at p
  split at p
  · exact .inr ⟨_, _, r1.str, r2.str, p.done s (RepM.bl _)⟩
  · exact .inl (h2 env σ w H st _ _ v1 v2 Q s r1 r2 p)
end
section
variable {st : Sto}
@[simp] theorem kMulS_int (i : Int) (b : D) : kMulS (.int i) b st = kMulL (.int i) b st := rfl
@[simp] theorem kMulS_lst (xs : List D) (b : D) : kMulS (.lst xs) b st = kMulL (.lst xs) b st := rfl
@[simp] theorem kMulS_tup (xs : List D) (b : D) : kMulS (.tup xs) b st = kMulL (.tup xs) b st := rfl
@[simp] theorem kLeS_int (i j : Int) : kLeS (.int i) (.int j) st = .ok (.bl (decide (i ≤ j))) st := rfl
@[simp] theorem kLeS_str (i j : Str) : kLeS (.str i) (.str j) st = .ok (.bl (!decide (j.cps.toList < i.cps.toList))) st := rfl
end
end NC

/-! ### defs with defaults -/
namespace NC
open PySem L2
section
variable {P : Program} {w0 : World} {T : Tb} {mg : Str → Option Value} {base : Heap} {cl cl' : Calls} {n : Nat} {x nm qual : Str} {st : Stmt} {f : Addr} {N ps : List Str} {sh : FS}
theorem fn_okV {dV kV doc pm cdv ct oc : Value} {an od : Option Addr} {osl : Array (Option Value)} (lk : T.K.lookup f = some ⟨oc, od, .func (PySem.W.fnOf nm qual (defArgs st) (defBody st) (defScope st) dV kV doc pm an cdv ct), osl⟩) (hcd : PySem.W.codeIn T.K cdv qual = true)
    (S : FnScope N ps (defScope st)) (snd : SndB ⟨N, defScope st, none⟩ ⟨P, w0, T, mg, base, cl, n, false⟩ (defBody st) sh)
    (hcl : ∀ as s, cl' x as s = runD ps.length N.length sh as s) : FnOk P w0 T.K mg base (L2N.CX P w0) (n + 1) f (PySem.W.fnOf nm qual (defArgs st) (defBody st) (defScope st) dV kV doc pm an cdv ct) ps (spOf T cl' x) := by
  have hpl : ps.length ≤ N.length := by have := congrArg List.length S.pre; rw [List.length_take] at this; omega
  have asl : ∀ {as s T B Q E}, PostC T B (cl' x as s) Q E → as.length = ps.length := by
    intro as s T B Q E h
    rw [hcl] at h
    unfold runD at h
    split at h
    · assumption
    · exact h.elim
  refine fn_of lk hcd S (fun vs H Q E ⟨as, w, s, r, hs, al, p⟩ => ?_) (fun A outer s0 H vs Q E hr ⟨as, w, s, r, hs, al, p⟩ => ?_)
  · rw [r.len, List.length_map]; exact asl p
  · have hal := asl p
    rw [hcl] at p
    unfold runD at p
    rw [if_pos hal] at p
    let C : Cf := ⟨T, ⟨w, H, [], none⟩, fun c dx _ H => E c dx H⟩
    have gd : Gd ⟨N, defScope st, none⟩ ⟨P, w0, T, mg, base, cl, n, false⟩ (cxOf (L2N.CX P w0) P w0 T.K mg base N qual (defScope st) f cdv A outer s0 H E) C :=
      ⟨rfl, rfl, rfl, rfl, rfl, rfl, rfl, rfl, S.nd, (fun _ => ⟨rfl, hr, rfl⟩), (fun _ => ⟨rfl, rfl⟩), (fun h => Bool.noConfusion h), (fun a c cls dd e => by cases e), rfl, passes_of rfl, L2N.takes_of rfl rfl rfl rfl⟩
    refine ⟨_, snd _ C gd, w, startE as N.length, s, sim_start r hs al (by omega), ?_⟩
    have shrink : ∀ {w' : Wd} {env st σ H'}, Sim T C.B w' env st σ H' → Le w H ⟨w.S, w'.r⟩ H' ∧ Stok T ⟨w.S, w'.r⟩ H' st ∧ Ok2 w' H' ⟨w.S, w'.r⟩ H' := fun {w' env st σ H'} s' => by
      have ok : Ok2 w' H' ⟨w.S, w'.r⟩ H' := ⟨fun _ _ e => e, fun _ _ e _ => e, fun a o e n1 n2 => ⟨e, fun z => n1 (s'.sub a z), n2⟩⟩
      exact ⟨⟨s'.le.pre, s'.le.fr, s'.le.live, s'.le.new, fun a z => .inl z, fun a z => z⟩, s'.sto.to ok (fun _ _ => rfl) rfl, ok⟩
    cases e : sh (startE as N.length) s with
    | next env st' => rw [e] at p; exact fun w' σ H' s' => p .non H' (s'.ret .non)
    | ret d st' => rw [e] at p; exact fun v H' r' => p v H' r'
    | exc x env st' =>
      rw [e] at p
      intro w' σ H' c dx s' xr
      obtain ⟨l, hs', ok⟩ := shrink s'
      refine p w'.r H' c dx l hs' ?_
      obtain ⟨C', h1, h2, h3⟩ := xr
      refine ⟨C', h1, h2, h3.imp (fun z => z) fun ⟨d, fv, k1, k2, k3, k4, k5⟩ => ⟨d, fv, k1, k2, ⟨k3.1, Reps.to ok _ _ k3.2⟩, fun z => k4 (s'.sub d z), k5⟩⟩
    | brk env st' => rw [e] at p; exact p.elim
    | cont env st' => rw [e] at p; exact p.elim
    | stuck => rw [e] at p; exact p.elim
end
/-- a def of the top with defaults -/
structure DefAtD (K : PySem.W.Frag) (mg : Str → Option Value) (x : Str) (st : Stmt) (dvs : List V) : Prop where
  ex : ∃ (fa : Addr) (fd : FuncData), mg x = some (.ref fa) ∧ FunD K x x (defArgs st) (defBody st) (defScope st) dvs [] fa fd
theorem defAtD_mk {K : PySem.W.Frag} {mg : Str → Option Value} {h : Heap} {x : Str} {st : Stmt} {dvs : List V} {f : Addr} {oc : Value} {od an : Option Addr} {osl : Array (Option Value)} {kV doc pm cdv ct : Value} {TT : Addr} {cT : Value} {dT : Option Addr} {its : Array Value} {nT : Nat} {slT : Array (Option Value)} (X : K.In h) (G : h.Ns mainGlobals mg)
    (hd : dvs ≠ []) (a : PySem.W.nsIn K mainGlobals x = some (some (.ref f))) (l : K.lookup f = some ⟨oc, od, .func (PySem.W.fnOf x x (defArgs st) (defBody st) (defScope st) (.ref TT) kV doc pm an cdv ct), osl⟩)
    (lT : K.lookup TT = some ⟨cT, dT, .seq its nT, slT⟩) (v : Vals dvs its.toList) (c : PySem.W.codeIn K cdv x = true) (k : PySem.W.keepIn K (.ref f) = true) : DefAtD K mg x st dvs :=
  ⟨f, _, PySem.W.mg_of X G a, ⟨⟨oc, od, _, kV, doc, pm, an, cdv, ct, osl, rfl, l, c, .inr ⟨hd, TT, _, its.toList, nT, rfl, lT, by simp, v⟩, .inl rfl⟩, k⟩⟩
structure CallOkD (M : Mo) (x : Str) (dfl : List D) : Prop where
  ex : ∃ (fa : Addr) (fd : FuncData) (ps : List Str) (dvs : List V) (ds : List Value), M.mg x = some (.ref fa) ∧ PySem.W.keepIn M.T.K (.ref fa) = true ∧ Binds M.T.K fd ps ds ∧ Vals dvs ds ∧ (∀ w H, Reps M.T.K w H dvs dfl) ∧ (M.hot = false → FnOk M.P M.w M.T.K M.mg M.base (L2N.CX M.P M.w) M.n fa fd ps (spOf M.T M.cl x))
def bDefD (cl : Calls) (x : Str) (ms : List Md) (dfl : List D) (g : FL) : F := fun env st => (g env st).bind fun ds st1 => cl x (ms.zip ds ++ dfl.map esc1) st1
section
variable {G : Ct} {M : Mo} {m : Md} {ms : List Md} {X : Cx} {C : Cf} {a b c e tg : Expr} {es : List Expr} {f g h : F} {fb : FB} {fi fl : FL} {p1 pos : Pos} {i : Nat} {x : Str} {t : Tg} {dfl : List D}
theorem Reps.escs {K : PySem.W.Frag} {w : Wd} {H : Hp} : ∀ {us : List V} {es : List D}, Reps K w H us es → RepL K w H (es.map fun _ => .esc) us es
  | _, _, .nil => .nil
  | _, _, .cons r1 r2 => .esc r1 (Reps.escs r2)
theorem RepL.appE {K : PySem.W.Frag} {w : Wd} {H : Hp} {ms : List Md} {vs : List V} {ds : List D} (h : RepL K w H ms vs ds) {us : List V} {es : List D} (r : Reps K w H us es) : RepL K w H (ms ++ es.map fun _ => .esc) (vs ++ us) (ds ++ es) := by
  induction h with
  | nil =>
    rw [List.nil_append, List.nil_append, List.nil_append]
    exact r.escs
  | esc h _ ih => exact .esc h ih
  | rd h _ ih => exact .rd h ih
theorem sn_callD (hm : M.hot = false) (hc : CallOkD M x dfl) (hg : G.sc.names.lookup x = some .globalImplicit) (ha : SndL G M ms (e :: es) fl) (hdb : (x == ("__debug__" : Str)) = false := by decide)
    (he : ∀ env, starEach (e :: es) env = (false, eval e env) :: starEach es env := by intro _; rfl) (hpl : ∀ env, (backTo pos (starEach es env)).any (·.1) = false := by intro _; rfl) : SndE G M .esc (.Call (.Name x p1) (e :: es) [] pos) (bDefD M.cl x ms dfl fl) := by
  obtain ⟨fa, fd, ps, dvs, ds, h1, h2, h3, h4, h5, h6⟩ := hc.ex
  intro X C gd
  have gl : Gl X x := by show X.env.scope.names.lookup _ = _; rw [gd.sc]; exact hg
  have F : FnOk X.prog X.w X.K X.mg X.base (L2N.CX X.prog X.w) M.n fa fd ps (spOf M.T M.cl x) := by rw [gd.p, gd.w, gd.K, gd.mg, gd.base]; exact h6 hm
  refine (pe_callSD (E := WE C.W) F (gd.cold hm).2.1 gl (by rw [gd.mg]; exact h1) (by rw [gd.K]; exact h2) (by rw [gd.K]; exact h3) h4 (fun σ => L2N.passAt gd.tk σ) (ha X C gd) hdb (he _) (hpl _)).imp fun σ H Q ⟨w, env, st, s, p⟩ => ⟨w, env, st, s, ?_⟩
  refine PostE.bindL p fun as st1 w1 vs H1 l1 s1 r1 p1 => ?_
  have hK : C.T.K = M.T.K := by rw [gd.T]
  have r2 := r1.appE (show Reps C.T.K w1 H1 dvs dfl by rw [hK]; exact h5 w1 H1)
  have e1 : (ms.zip as ++ dfl.map esc1).map (·.1) = ms ++ dfl.map fun _ => Md.esc := by
    rw [List.map_append, zip_fst r1.len2, List.map_map]; rfl
  have e2 : (ms.zip as ++ dfl.map esc1).map (·.2) = as ++ dfl := by
    rw [List.map_append, zip_snd r1.len2, List.map_map]
    congr 1
    exact List.map_id' dfl
  rw [← gd.T]
  exact ⟨ms.zip as ++ dfl.map esc1, w1, st1, by rw [e1, e2]; exact r2, s1.sto, s1.al, p1.call s1⟩
end
section
variable {P : Program} {w : World} {T : Tb} {mg : Str → Option Value} {base : Heap} {Δ : Str → Option Df} {n : Nat} {x : Str} {st : Stmt} {N ps : List Str} {sh : Calls → FS} {dvs : List V} {dfl : List D}
/-- what binding wants of a def's text: its places are k, the last one has a default -/
def BindD (x : Str) (st : Stmt) (ps : List Str) (j : Nat) (dvs : List V) : Prop := ∀ (T : Addr) (kV doc pm : Value) (an : Option Addr) (cdv ct : Value) (us its : List Value), us.length + (dvs.length - j) = ps.length → its.length = dvs.length →
      ∃ k, bindArgs (PySem.W.fnOf x x (defArgs st) (defBody st) (defScope st) (.ref T) kV doc pm an cdv ct) ⟨us, []⟩ = seqItems? (.ref T) >>= k ∧ k (some its.toArray) = pure (ps.zip (us ++ its.drop j))
theorem FunD.bindJ {K : PySem.W.Frag} {f : Addr} {fd : FuncData} (F : FunD K x x (defArgs st) (defBody st) (defScope st) dvs [] f fd) (hd : dvs ≠ []) (j : Nat) (hj : dvs.length - j ≤ ps.length) (h : BindD x st ps j dvs) : ∃ ds, Vals (dvs.drop j) ds ∧ Binds K fd ps ds :=
  F.binds1 (ps.length - (dvs.length - j)) j hd (by omega) fun T kV doc pm an cdv ct us its h1 h2 => h T kV doc pm an cdv ct us its (by omega) h2
theorem callOkA_zero (F : DefAtD T.K mg x st dvs) (hd : dvs ≠ []) (h : BindD x st ps dvs.length dvs) : CallOk (MoN P w T mg base Δ 0) x := by
  obtain ⟨fa, fd, h1, h2⟩ := F.ex
  obtain ⟨ds, v, b⟩ := FunD.bindJ h2 hd dvs.length (by omega) h
  rw [List.drop_length] at v
  cases v
  exact ⟨fa, fd, ps, h1, h2.kp, b, (fun _ => fn_ok0 fun _ _ => rfl), fun h => Bool.noConfusion h⟩
theorem callOkA_succ (F : DefAtD T.K mg x st dvs) (hd : dvs ≠ []) (h : BindD x st ps dvs.length dvs) (S : FnScope N ps (defScope st))
    (snd : SndB ⟨N, defScope st, none⟩ (MoN P w T mg base Δ n) (defBody st) (sh (interp Δ n))) (hΔ : Δ x = some (dfD ps.length N.length sh)) : CallOk (MoN P w T mg base Δ (n + 1)) x := by
  obtain ⟨fa, fd, h1, h2⟩ := F.ex
  obtain ⟨ds, v, b⟩ := FunD.bindJ h2 hd dvs.length (by omega) h
  rw [List.drop_length] at v
  cases v
  obtain ⟨oc, od, dV, kV, doc, pm, an, cdv, ct, osl, rfl, lk, hcd, _, _⟩ := h2.ex
  exact ⟨fa, _, ps, h1, h2.kp, b, (fun _ => fn_okV lk hcd S snd fun as s => interp_eq hΔ as s), fun h => Bool.noConfusion h⟩
theorem callOkD_zero (F : DefAtD T.K mg x st dvs) (hd : dvs ≠ []) (hj : dvs.length ≤ ps.length) (h : BindD x st ps 0 dvs) (hr : ∀ w H, Reps T.K w H dvs dfl) : CallOkD (MoN P w T mg base Δ 0) x dfl := by
  obtain ⟨fa, fd, h1, h2⟩ := F.ex
  obtain ⟨ds, v, b⟩ := FunD.bindJ h2 hd 0 (by omega) h
  exact ⟨fa, fd, ps, dvs, ds, h1, h2.kp, b, v, hr, (fun _ => fn_ok0 fun _ _ => rfl)⟩
theorem callOkD_succ (F : DefAtD T.K mg x st dvs) (hd : dvs ≠ []) (hj : dvs.length ≤ ps.length) (h : BindD x st ps 0 dvs) (hr : ∀ w H, Reps T.K w H dvs dfl) (S : FnScope N ps (defScope st))
    (snd : SndB ⟨N, defScope st, none⟩ (MoN P w T mg base Δ n) (defBody st) (sh (interp Δ n))) (hΔ : Δ x = some (dfD ps.length N.length sh)) : CallOkD (MoN P w T mg base Δ (n + 1)) x dfl := by
  obtain ⟨fa, fd, h1, h2⟩ := F.ex
  obtain ⟨ds, v, b⟩ := FunD.bindJ h2 hd 0 (by omega) h
  obtain ⟨oc, od, dV, kV, doc, pm, an, cdv, ct, osl, rfl, lk, hcd, _, _⟩ := h2.ex
  exact ⟨fa, _, ps, dvs, ds, h1, h2.kp, b, v, hr, (fun _ => fn_okV lk hcd S snd fun as s => interp_eq hΔ as s)⟩
end
section
variable {G : Ct} {M : Mo} {ms : List Md} {e : Expr} {es : List Expr} {fl : FL} {p1 pos : Pos} {x : Str} {dfl : List D}
theorem cDd (hm : M.hot = false) (hc : CallOkD M x dfl) (ha : SndL G M ms (e :: es) fl) (h : glX G x = true := by decide +kernel) (he : ∀ env, starEach (e :: es) env = (false, eval e env) :: starEach es env := by intro _; rfl) (hpl : ∀ env, (backTo pos (starEach es env)).any (·.1) = false := by intro _; rfl) : SndE G M .esc (.Call (.Name x p1) (e :: es) [] pos) (bDefD M.cl x ms dfl fl) :=
  sn_callD hm hc (glX_ok h).1 ha (glX_ok h).2.1 he hpl
end
end NC

namespace NC
open PySem L2
/-! ### the plain reader of houses -/
/-- what may stand at a place: the scope of the reader -/
structure Sc where
  as : List Str
  known : List (Str × Str)
  vars : List Str
  names : List Str
  asks : Nat
  left : Nat
  links : Nat
inductive PH (α : Type) where
  | ok (v : α) (r : List Str) (s : Sc)
  | bad (r : List Str) (s : Sc)
def PH.bind {α β : Type} (p : PH α) (k : α → List Str → Sc → PH β) : PH β := match p with
  | .ok v r s => k v r s
  | .bad r s => .bad r s
@[simp] theorem PH.bind_ok {α β : Type} (v : α) (r : List Str) (s : Sc) (k : α → List Str → Sc → PH β) : (PH.ok v r s).bind k = k v r s := rfl
@[simp] theorem PH.bind_bad {α β : Type} (r : List Str) (s : Sc) (k : α → List Str → Sc → PH β) : (PH.bad r s : PH α).bind k = .bad r s := rfl
/-- a reading that leaves the scope as it is -/
def PR.up {α : Type} (s : Sc) : PR α → PH α
  | .ok v r => .ok v r s
  | .bad r => .bad r s
@[simp] theorem PR.up_ok {α : Type} (s : Sc) (v : α) (r : List Str) : (PR.ok v r).up s = .ok v r s := rfl
@[simp] theorem PR.up_bad {α : Type} (s : Sc) (r : List Str) : (PR.bad r : PR α).up s = .bad r s := rfl
def pW (w : Str) : List Str → PR Unit
  | [] => .bad []
  | x :: r => if x = w then .ok () r else .bad (x :: r)
def pOne (opts : List Str) : List Str → PR Str
  | [] => .bad []
  | x :: r => if x ∈ opts then .ok x r else .bad (x :: r)
def pNew (old : List Str) : List Str → PR Str
  | [] => .bad []
  | x :: r => if isNm x = true ∧ x ∉ old then .ok x r else .bad (x :: r)
def pNum (lo hi : Nat) : List Str → PR Nat
  | [] => .bad []
  | x :: r => match numO x with
    | some n => if lo ≤ n ∧ n ≤ hi then .ok n r else .bad (x :: r)
    | none => .bad (x :: r)
def pA (V A : List Str) : List Str → PR Ex
  | [] => .bad []
  | x :: r => if x = "given" then .ok .giv r
    else if A ≠ [] ∧ (x = "have" ∨ x = "out") then (pOne A r).bind fun a r1 => .ok (if x = "have" then .hav a else .out a) r1
    else if x ∈ V then .ok (.var x) r
    else (pNum 0 65535 (x :: r)).bind fun n r1 => .ok (.num n) r1
def pE (V A : List Str) : Nat → List Str → PR Ex
  | _, [] => .bad []
  | 0, x :: r => pA V A (x :: r)
  | k + 1, x :: r => if x ∈ opS then (pE V A k r).bind fun a r1 => (pE V A k r1).bind fun b r2 => .ok (.op x a b) r2 else pA V A (x :: r)
/-- does a statement begin with the word w? -/
def begS (s : Sc) (room : Nat) (w : Str) : Bool :=
  if s.left = 0 then false
  else if w = "set" then !s.vars.isEmpty
  else if w = "give" ∨ w = "get" then !s.as.isEmpty
  else if w = "move" then !s.as.isEmpty && !s.names.isEmpty
  else if w = "ask" then !s.vars.isEmpty && decide (s.asks < 6)
  else if w = "call" then !s.known.isEmpty
  else decide (w = "need") || (decide (w = "if") && decide (0 < room))
def hdW (r : List Str) : Str := r.headD ""
mutual
/-- a statement; f bounds the depth of the reading -/
def pSt : Nat → Nat → Sc → List Str → PH Sm
  | _, _, s, [] => .bad [] s
  | 0, _, s, r => .bad r s
  | f + 1, room, s, x :: r =>
    if x = "if" then
      ((pE s.vars s.as 9 r).up s).bind fun e r1 s1 => (pBl f (room - 1) s1 r1).bind fun t r2 s2 =>
        (if hdW r2 = "else" ∧ 0 < s2.left then (pBl f (room - 1) s2 r2.tail).bind fun o r3 s3 => if o.len = 0 then .bad r3 s3 else .ok o r3 s3 else .ok .nil r2 s2).bind fun o r3 s3 =>
          ((pW "end" r3).up s3).bind fun _ r4 s4 => .ok (.ife e t o) r4 s4
    else if x = "ask" then
      ((pOne s.vars r).up { s with asks := s.asks + 1 }).bind fun v r1 s1 => ((pNum 1 64 r1).up s1).bind fun n r2 s2 => .ok (.ask v n) r2 s2
    else if x = "set" then
      ((pOne s.vars r).up s).bind fun v r1 s1 => ((pE s1.vars s1.as 9 r1).up s1).bind fun e r2 s2 => .ok (.set v e) r2 s2
    else if x = "give" ∨ x = "get" then
      ((pOne s.as r).up s).bind fun v r1 s1 => ((pE s1.vars s1.as 9 r1).up s1).bind fun e r2 s2 => .ok (if x = "give" then .give v e else .get v e) r2 s2
    else if x = "move" then
      ((pOne s.names r).up s).bind fun c r1 s1 => ((pOne s1.as r1).up s1).bind fun v r2 s2 => ((pE s2.vars s2.as 9 r2).up s2).bind fun e r3 s3 => .ok (.move c v e) r3 s3
    else if x = "call" then
      ((pOne (s.known.map (·.1)) r).up { s with links := s.links + 1 }).bind fun c r1 s1 => ((pOne ((s1.known.filter fun p => decide (p.1 = c)).map (·.2)) r1).up s1).bind fun p r2 s2 => ((pE s2.vars s2.as 9 r2).up s2).bind fun e r3 s3 => .ok (.call c p e) r3 s3
    else ((pE s.vars s.as 9 r).up s).bind fun e r1 s1 => .ok (.need e) r1 s1
/-- statements -/
def pBl : Nat → Nat → Sc → List Str → PH Bl
  | 0, _, s, r => .bad r s
  | f + 1, room, s, r => if begS s room (hdW r) = true then (pSt f room { s with left := s.left - 1 } r).bind fun x r1 s1 => (pBl f room s1 r1).bind fun b r2 s2 => .ok (.cons x b) r2 s2 else .ok .nil r s
end
def pVs : Nat → List (Str × Nat × Nat) → List Str → PR (List (Str × Nat × Nat))
  | 0, acc, r => .ok acc r
  | k + 1, acc, r => if hdW r = "var" then (pNew (acc.map (·.1)) r.tail).bind fun v r1 => (pNum 1 65535 r1).bind fun z r2 => (pNum 0 (z - 1) r2).bind fun q r3 => pVs k (acc ++ [(v, z, q)]) r3 else .ok acc r
def pHs (A : List Str) : Nat → List (Str × Nat) → List Str → PR (List (Str × Nat))
  | 0, acc, r => .ok acc r
  | k + 1, acc, r => if hdW r = "hold" then (pOne (A.filter fun x => !decide (x ∈ acc.map (·.1))) r.tail).bind fun v r1 => (pNum 0 65535 r1).bind fun z r2 => pHs A k (acc ++ [(v, z)]) r2 else .ok acc r
def pAs : Nat → List (Str × Nat) → List Str → PR (List (Str × Nat))
  | 0, acc, r => .ok acc r
  | k + 1, acc, r => if hdW r = "asset" then (pNew (acc.map (·.1)) r.tail).bind fun v r1 => (pNum 0 65535 r1).bind fun z r2 => pAs k (acc ++ [(v, z)]) r2 else .ok acc r
/-- a procedure, behind its first word -/
def pProc (old : List Str) (s : Sc) (r : List Str) : PH Pr :=
  ((pNew old r).up s).bind fun n r1 s1 => ((pNum 1 64 r1).up s1).bind fun z r2 s2 => ((pOne ["shown", "hidden"] r2).up s2).bind fun h r3 s3 => (pBl 49 6 { s3 with left := 24 } r3).bind fun b r4 s4 => ((pW "end" r4).up s4).bind fun _ r5 s5 => .ok ⟨n, z, decide (h = "shown"), b⟩ r5 s5
def pPs (c : Str) : Nat → List Pr → Sc → List Str → PH (List Pr)
  | 0, acc, s, r => .ok acc r s
  | k + 1, acc, s, r => if hdW r = "proc" then (pProc (acc.map (·.n)) { s with links := 0 } r.tail).bind fun p r1 s1 => pPs c k (acc ++ [p]) (if s1.links = 0 then { s1 with known := s1.known ++ [(c, p.n)] } else s1) r1 else .ok acc r s
/-- a contract, behind its first word -/
def pCo (old : List Str) (s : Sc) (r : List Str) : PH Co :=
  ((pNew old r).up s).bind fun n r1 s1 => ((pVs 6 [] r1).up { s1 with names := old }).bind fun vs r2 s2 => ((pHs s2.as s2.as.length [] r2).up { s2 with vars := vs.map (·.1) }).bind fun hs r3 s3 => (pPs n 6 [] s3 r3).bind fun ps r4 s4 => ((pW "end" r4).up s4).bind fun _ r5 s5 => .ok ⟨n, vs, hs, ps⟩ r5 s5
def pCs : Nat → List Co → Sc → List Str → PH (List Co)
  | 0, acc, s, r => .ok acc r s
  | k + 1, acc, s, r => if hdW r = "contract" then (pCo (acc.map (·.n)) s r.tail).bind fun c r1 s1 => pCs k (acc ++ [c]) s1 r1 else .ok acc r s
def pHo (r : List Str) : PR Ho := (pAs 3 [] r).bind fun as r1 => match pCs 4 [] ⟨as.map (·.1), [], [], [], 0, 0, 0⟩ r1 with
  | .ok cs r2 _ => if r2 = [] then .ok ⟨as, cs⟩ [] else .bad r2
  | .bad r2 _ => .bad r2
end NC

namespace NC
open PySem L2
/-! ### what the plain reader of houses keeps -/
/-- the exception of an outcome -/
def Out.ex : Out → Option (Exn × Sto)
  | .exc x _ st => some (x, st)
  | _ => none
theorem ex_of {o : Out} {x : Exn} {st : Sto} (h : o.ex = some (x, st)) : ∃ e', o = .exc x e' st := by
  cases o with
  | exc y e st' => cases h; exact ⟨e, rfl⟩
  | _ => cases h
@[simp] theorem ex_exc (x : Exn) (e : Ev) (st : Sto) : (Out.exc x e st).ex = some (x, st) := rfl
theorem sfx_tl {x : Str} {r ws : List Str} (h : (x :: r) <:+ ws) : r <:+ ws := (List.suffix_cons x r).trans h
/-- a reading goes on in its words -/
def PR.Sfx {α : Type} (r : List Str) : PR α → Prop
  | .ok _ q => q <:+ r
  | .bad _ => True
theorem PR.Sfx.mono {α : Type} {p : PR α} {q r : List Str} (h : p.Sfx q) (h2 : q <:+ r) : p.Sfx r := by
  cases p with
  | ok v t => exact List.IsSuffix.trans h h2
  | bad t => trivial
theorem PR.Sfx.bind {α β : Type} {p : PR α} {k : α → List Str → PR β} {r : List Str} (h : p.Sfx r) (hk : ∀ v q, (k v q).Sfx q) : (p.bind k).Sfx r := by
  cases p with
  | ok v t => exact (hk v t).mono h
  | bad t => trivial
theorem PR.Sfx.of {α : Type} {p : PR α} {r q : List Str} {v : α} (h : p.Sfx r) (e : p = .ok v q) : q <:+ r := by rw [e] at h; exact h
theorem PR.Sfx.ws {α : Type} {p : PR α} {r q ws : List Str} {v : α} (h : p.Sfx r) (e : p = .ok v q) (h2 : r <:+ ws) : q <:+ ws := (h.of e).trans h2
theorem ok_sfx {α : Type} (v : α) (q : List Str) : (PR.ok v q).Sfx q := List.suffix_refl q
theorem pW_c (w x : Str) (r : List Str) : pW w (x :: r) = if x = w then .ok () r else .bad (x :: r) := rfl
theorem pOne_c (o : List Str) (x : Str) (r : List Str) : pOne o (x :: r) = if x ∈ o then .ok x r else .bad (x :: r) := rfl
theorem pNew_c (o : List Str) (x : Str) (r : List Str) : pNew o (x :: r) = if isNm x = true ∧ x ∉ o then .ok x r else .bad (x :: r) := rfl
theorem pNum_c (lo hi : Nat) (x : Str) (r : List Str) : pNum lo hi (x :: r) = match numO x with
    | some n => if lo ≤ n ∧ n ≤ hi then .ok n r else .bad (x :: r)
    | none => .bad (x :: r) := rfl
theorem pW_sfx (w : Str) (r : List Str) : (pW w r).Sfx r := by
  cases r with
  | nil => trivial
  | cons x r => rw [pW_c]; split <;> first | exact List.suffix_cons x r | trivial
theorem pOne_sfx (o r : List Str) : (pOne o r).Sfx r := by
  cases r with
  | nil => trivial
  | cons x r => rw [pOne_c]; split <;> first | exact List.suffix_cons x r | trivial
theorem pNew_sfx (o r : List Str) : (pNew o r).Sfx r := by
  cases r with
  | nil => trivial
  | cons x r => rw [pNew_c]; split <;> first | exact List.suffix_cons x r | trivial
theorem pNum_sfx (lo hi : Nat) (r : List Str) : (pNum lo hi r).Sfx r := by
  cases r with
  | nil => trivial
  | cons x r =>
    rw [pNum_c]
    cases numO x with
    | none => trivial
    | some n => dsimp only; split <;> first | exact List.suffix_cons x r | trivial
theorem pA_c (V A : List Str) (x : Str) (r : List Str) : pA V A (x :: r) = if x = "given" then .ok .giv r
    else if A ≠ [] ∧ (x = "have" ∨ x = "out") then (pOne A r).bind fun a r1 => .ok (if x = "have" then .hav a else .out a) r1
    else if x ∈ V then .ok (.var x) r
    else (pNum 0 65535 (x :: r)).bind fun n r1 => .ok (.num n) r1 := rfl
theorem pA_sfx (V A r : List Str) : (pA V A r).Sfx r := by
  cases r with
  | nil => trivial
  | cons x r =>
    rw [pA_c]
    split
    · exact List.suffix_cons x r
    · split
      · exact ((pOne_sfx A r).bind fun v q => ok_sfx _ q).mono (List.suffix_cons x r)
      · split
        · exact List.suffix_cons x r
        · exact (pNum_sfx _ _ _).bind fun v q => ok_sfx _ q
theorem pE_c (V A : List Str) (k : Nat) (x : Str) (r : List Str) : pE V A (k + 1) (x :: r) = if x ∈ opS then (pE V A k r).bind fun a r1 => (pE V A k r1).bind fun b r2 => .ok (.op x a b) r2 else pA V A (x :: r) := rfl
theorem pE_sfx (V A : List Str) : ∀ (k : Nat) (r : List Str), (pE V A k r).Sfx r
  | 0, [] => trivial
  | _ + 1, [] => trivial
  | 0, x :: r => pA_sfx V A (x :: r)
  | k + 1, x :: r => by
    rw [pE_c]
    split
    · exact ((pE_sfx V A k r).bind fun a q => (pE_sfx V A k q).bind fun b q2 => ok_sfx _ q2).mono (List.suffix_cons x r)
    · exact pA_sfx V A (x :: r)
/-- what reading statements keeps of the scope -/
structure Fn (s : Sc) (r : List Str) (s1 : Sc) (r1 : List Str) : Prop where
  sfx : r1 <:+ r
  as : s1.as = s.as
  known : s1.known = s.known
  vars : s1.vars = s.vars
  names : s1.names = s.names
  left : s1.left ≤ s.left
theorem Fn.refl (s : Sc) (r : List Str) : Fn s r s r := ⟨List.suffix_refl r, rfl, rfl, rfl, rfl, Nat.le_refl _⟩
theorem Fn.trans {s s1 s2 : Sc} {r r1 r2 : List Str} (h : Fn s r s1 r1) (g : Fn s1 r1 s2 r2) : Fn s r s2 r2 :=
  ⟨g.sfx.trans h.sfx, g.as.trans h.as, g.known.trans h.known, g.vars.trans h.vars, g.names.trans h.names, Nat.le_trans g.left h.left⟩
def PH.Fine {α : Type} (s : Sc) (r : List Str) : PH α → Prop
  | .ok _ q s1 => Fn s r s1 q
  | .bad _ _ => True
theorem PH.Fine.bind {α β : Type} {p : PH α} {k : α → List Str → Sc → PH β} {s : Sc} {r : List Str} (h : p.Fine s r) (hk : ∀ v q s1, (k v q s1).Fine s1 q) : (p.bind k).Fine s r := by
  cases p with
  | ok v q s1 =>
    have := hk v q s1
    rw [PH.bind_ok]
    cases e : k v q s1 with
    | ok w q2 s2 => rw [e] at this; exact Fn.trans h this
    | bad q2 s2 => trivial
  | bad q s1 => trivial
theorem PH.Fine.mono {α : Type} {p : PH α} {s s0 : Sc} {r r0 : List Str} (h : p.Fine s r) (g : Fn s0 r0 s r) : p.Fine s0 r0 := by
  cases p with
  | ok v q s1 => exact g.trans h
  | bad q s1 => trivial
theorem PR.Sfx.up {α : Type} {p : PR α} {r : List Str} (h : p.Sfx r) (s : Sc) : (p.up s).Fine s r := by
  cases p with
  | ok v q => exact ⟨h, rfl, rfl, rfl, rfl, Nat.le_refl _⟩
  | bad q => trivial
theorem PH.Fine.of {α : Type} {p : PH α} {s s1 : Sc} {r q : List Str} {v : α} (h : p.Fine s r) (e : p = .ok v q s1) : Fn s r s1 q := by rw [e] at h; exact h
theorem fn_tail (s : Sc) (x : Str) (r : List Str) : Fn s (x :: r) s r := ⟨List.suffix_cons x r, rfl, rfl, rfl, rfl, Nat.le_refl _⟩
theorem fn_tl (s : Sc) (r : List Str) : Fn s r s r.tail := ⟨List.tail_suffix r, rfl, rfl, rfl, rfl, Nat.le_refl _⟩
theorem ok_fine {α : Type} (v : α) (r : List Str) (s : Sc) : (PH.ok v r s).Fine s r := Fn.refl s r
/-! the words of a statement -/
def pIf (f room : Nat) (s : Sc) (r : List Str) : PH Sm :=
  ((pE s.vars s.as 9 r).up s).bind fun e r1 s1 => (pBl f (room - 1) s1 r1).bind fun t r2 s2 =>
        (if hdW r2 = "else" ∧ 0 < s2.left then (pBl f (room - 1) s2 r2.tail).bind fun o r3 s3 => if o.len = 0 then .bad r3 s3 else .ok o r3 s3 else .ok .nil r2 s2).bind fun o r3 s3 =>
          ((pW "end" r3).up s3).bind fun _ r4 s4 => .ok (.ife e t o) r4 s4
def pAsk (s : Sc) (r : List Str) : PH Sm := ((pOne s.vars r).up { s with asks := s.asks + 1 }).bind fun v r1 s1 => ((pNum 1 64 r1).up s1).bind fun n r2 s2 => .ok (.ask v n) r2 s2
def pSet (s : Sc) (r : List Str) : PH Sm := ((pOne s.vars r).up s).bind fun v r1 s1 => ((pE s1.vars s1.as 9 r1).up s1).bind fun e r2 s2 => .ok (.set v e) r2 s2
def pGv (x : Str) (s : Sc) (r : List Str) : PH Sm := ((pOne s.as r).up s).bind fun v r1 s1 => ((pE s1.vars s1.as 9 r1).up s1).bind fun e r2 s2 => .ok (if x = "give" then .give v e else .get v e) r2 s2
def pMv (s : Sc) (r : List Str) : PH Sm := ((pOne s.names r).up s).bind fun c r1 s1 => ((pOne s1.as r1).up s1).bind fun v r2 s2 => ((pE s2.vars s2.as 9 r2).up s2).bind fun e r3 s3 => .ok (.move c v e) r3 s3
def pCl (s : Sc) (r : List Str) : PH Sm := ((pOne (s.known.map (·.1)) r).up { s with links := s.links + 1 }).bind fun c r1 s1 => ((pOne ((s1.known.filter fun p => decide (p.1 = c)).map (·.2)) r1).up s1).bind fun p r2 s2 => ((pE s2.vars s2.as 9 r2).up s2).bind fun e r3 s3 => .ok (.call c p e) r3 s3
def pNd (s : Sc) (r : List Str) : PH Sm := ((pE s.vars s.as 9 r).up s).bind fun e r1 s1 => .ok (.need e) r1 s1
theorem pSt_c (f room : Nat) (s : Sc) (x : Str) (r : List Str) : pSt (f + 1) room s (x :: r) = if x = "if" then pIf f room s r else if x = "ask" then pAsk s r else if x = "set" then pSet s r else if x = "give" ∨ x = "get" then pGv x s r else if x = "move" then pMv s r else if x = "call" then pCl s r else pNd s r := by
  rw [pSt]; rfl
theorem pBl_c (f room : Nat) (s : Sc) (r : List Str) : pBl (f + 1) room s r = if begS s room (hdW r) = true then (pSt f room { s with left := s.left - 1 } r).bind fun x r1 s1 => (pBl f room s1 r1).bind fun b r2 s2 => .ok (.cons x b) r2 s2 else .ok .nil r s := by
  rw [pBl]
theorem pAsk_fine (s : Sc) (r : List Str) : (pAsk s r).Fine s r :=
  (((pOne_sfx s.vars r).up _).bind fun v r1 s1 => ((pNum_sfx _ _ _).up s1).bind fun n r2 s2 => ok_fine _ _ _).mono ⟨List.suffix_refl r, rfl, rfl, rfl, rfl, Nat.le_refl _⟩
theorem pSet_fine (s : Sc) (r : List Str) : (pSet s r).Fine s r :=
  ((pOne_sfx s.vars r).up _).bind fun v r1 s1 => ((pE_sfx _ _ _ _).up s1).bind fun n r2 s2 => ok_fine _ _ _
theorem pGv_fine (x : Str) (s : Sc) (r : List Str) : (pGv x s r).Fine s r :=
  ((pOne_sfx s.as r).up _).bind fun v r1 s1 => ((pE_sfx _ _ _ _).up s1).bind fun n r2 s2 => ok_fine _ _ _
theorem pMv_fine (s : Sc) (r : List Str) : (pMv s r).Fine s r :=
  ((pOne_sfx s.names r).up _).bind fun v r1 s1 => ((pOne_sfx s1.as r1).up s1).bind fun a r2 s2 => ((pE_sfx _ _ _ _).up s2).bind fun n r3 s3 => ok_fine _ _ _
theorem pCl_fine (s : Sc) (r : List Str) : (pCl s r).Fine s r :=
  (((pOne_sfx _ r).up _).bind fun v r1 s1 => ((pOne_sfx _ r1).up s1).bind fun a r2 s2 => ((pE_sfx _ _ _ _).up s2).bind fun n r3 s3 => ok_fine _ _ _).mono ⟨List.suffix_refl r, rfl, rfl, rfl, rfl, Nat.le_refl _⟩
theorem pNd_fine (s : Sc) (r : List Str) : (pNd s r).Fine s r := ((pE_sfx _ _ _ _).up s).bind fun n r2 s2 => ok_fine _ _ _
theorem pIf_fine (f room : Nat) (ih : ∀ (room : Nat) (s : Sc) (r : List Str), (pBl f room s r).Fine s r) (s : Sc) (r : List Str) : (pIf f room s r).Fine s r := by
  unfold pIf
  refine ((pE_sfx _ _ _ _).up s).bind fun e r1 s1 => (ih _ _ _).bind fun t r2 s2 => PH.Fine.bind ?_ fun o r3 s3 => ((pW_sfx _ _).up s3).bind fun _ r4 s4 => ok_fine _ _ _
  split
  · refine PH.Fine.mono ((ih _ s2 r2.tail).bind fun o r3 s3 => ?_) (fn_tl s2 r2)
    split
    · trivial
    · exact ok_fine _ _ _
  · exact ok_fine _ _ _
theorem pStBl_fine : ∀ f : Nat, (∀ (room : Nat) (s : Sc) (r : List Str), (pSt f room s r).Fine s r) ∧ (∀ (room : Nat) (s : Sc) (r : List Str), (pBl f room s r).Fine s r)
  | 0 => ⟨fun room s r => by
      cases r with
      | nil => rw [pSt]; trivial
      | cons x r => rw [pSt] <;> first | trivial | (intro z; cases z), fun room s r => by rw [pBl]; trivial⟩
  | f + 1 => by
    obtain ⟨h1, h2⟩ := pStBl_fine f
    constructor
    · intro room s r
      cases r with
      | nil => rw [pSt]; trivial
      | cons x r =>
        rw [pSt_c]
        refine PH.Fine.mono ?_ (fn_tail s x r)
        split
        · exact pIf_fine f room h2 s r
        · split
          · exact pAsk_fine s r
          · split
            · exact pSet_fine s r
            · split
              · exact pGv_fine x s r
              · split
                · exact pMv_fine s r
                · split
                  · exact pCl_fine s r
                  · exact pNd_fine s r
    · intro room s r
      rw [pBl_c]
      split
      · exact PH.Fine.mono ((h1 room _ r).bind fun x r1 s1 => (h2 room s1 r1).bind fun b r2 s2 => ok_fine _ _ _) ⟨List.suffix_refl r, rfl, rfl, rfl, rfl, Nat.sub_le _ _⟩
      · exact ok_fine _ _ _
theorem pSt_fine (f room : Nat) (s : Sc) (r : List Str) : (pSt f room s r).Fine s r := (pStBl_fine f).1 room s r
theorem pBl_fine (f room : Nat) (s : Sc) (r : List Str) : (pBl f room s r).Fine s r := (pStBl_fine f).2 room s r
theorem hdW_nil : hdW [] = "" := rfl
theorem hdW_c (x : Str) (r : List Str) : hdW (x :: r) = x := rfl
/-- where a statement begins -/
theorem begS_ok {s : Sc} {room : Nat} {r : List Str} (h : begS s room (hdW r) = true) : 0 < s.left ∧ ∃ x q, r = x :: q ∧ (x = "if" → 0 < room) ∧ (x = "if" ∨ x = "ask" ∨ x = "set" ∨ x = "give" ∨ x = "get" ∨ x = "move" ∨ x = "call" ∨ x = "need") := by
  unfold begS at h
  split at h
  · cases h
  · rename_i h0
    refine ⟨Nat.pos_of_ne_zero h0, ?_⟩
    have hn : hdW r ≠ "" := by
      intro e
      rw [e] at h
      have e1 : ¬ ("" : Str) = "set" := by decide +kernel
      have e2 : ¬ (("" : Str) = "give" ∨ ("" : Str) = "get") := by decide +kernel
      have e3 : ¬ ("" : Str) = "move" := by decide +kernel
      have e4 : ¬ ("" : Str) = "ask" := by decide +kernel
      have e5 : ¬ ("" : Str) = "call" := by decide +kernel
      have e6 : ¬ ("" : Str) = "need" := by decide +kernel
      have e7 : ¬ ("" : Str) = "if" := by decide +kernel
      rw [if_neg e1, if_neg e2, if_neg e3, if_neg e4, if_neg e5, decide_eq_false e6, decide_eq_false e7] at h
      cases h
    cases r with
    | nil => exact absurd rfl hn
    | cons x q =>
      refine ⟨x, q, rfl, ?_⟩
      rw [hdW_c] at h
      by_cases e1 : x = "set"
      · exact ⟨fun e => by rw [e] at e1; exact absurd e1 (by decide +kernel), .inr (.inr (.inl e1))⟩
      rw [if_neg e1] at h
      by_cases e2 : x = "give" ∨ x = "get"
      · refine ⟨fun e => by rw [e] at e2; exact absurd e2 (by decide +kernel), ?_⟩
        rcases e2 with e | e
        · exact .inr (.inr (.inr (.inl e)))
        · exact .inr (.inr (.inr (.inr (.inl e))))
      rw [if_neg e2] at h
      by_cases e3 : x = "move"
      · exact ⟨fun e => by rw [e] at e3; exact absurd e3 (by decide +kernel), .inr (.inr (.inr (.inr (.inr (.inl e3)))))⟩
      rw [if_neg e3] at h
      by_cases e4 : x = "ask"
      · exact ⟨fun e => by rw [e] at e4; exact absurd e4 (by decide +kernel), .inr (.inl e4)⟩
      rw [if_neg e4] at h
      by_cases e5 : x = "call"
      · exact ⟨fun e => by rw [e] at e5; exact absurd e5 (by decide +kernel), .inr (.inr (.inr (.inr (.inr (.inr (.inl e5))))))⟩
      rw [if_neg e5] at h
      by_cases e6 : x = "need"
      · exact ⟨fun e => by rw [e] at e6; exact absurd e6 (by decide +kernel), .inr (.inr (.inr (.inr (.inr (.inr (.inr e6))))))⟩
      rw [decide_eq_false e6, Bool.false_or, Bool.and_eq_true, decide_eq_true_eq, decide_eq_true_eq] at h
      exact ⟨fun _ => h.2, .inl h.1⟩
end NC

namespace NC
open PySem L2
/-! ### the words of a house, and that the plain reader reads just them -/
def Ex.w : Ex → List Str
  | .num n => [numW n]
  | .var x => [x]
  | .giv => ["given"]
  | .hav a => ["have", a]
  | .out a => ["out", a]
  | .op s l r => s :: (l.w ++ r.w)
/-- numbers in their range, known operators, at most k deep -/
def Ex.fit : Nat → Ex → Prop
  | _, .num n => n ≤ 65535
  | _, .var _ => True
  | _, .giv => True
  | _, .hav _ => True
  | _, .out _ => True
  | 0, .op _ _ _ => False
  | k + 1, .op s l r => s ∈ opS ∧ l.fit k ∧ r.fit k
theorem Ex.fit_up : ∀ {k : Nat} {e : Ex}, e.fit k → e.fit (k + 1)
  | 0, .num _, h => h
  | _ + 1, .num _, h => h
  | 0, .var _, _ => trivial
  | _ + 1, .var _, _ => trivial
  | 0, .giv, _ => trivial
  | _ + 1, .giv, _ => trivial
  | 0, .hav _, _ => trivial
  | _ + 1, .hav _, _ => trivial
  | 0, .out _, _ => trivial
  | _ + 1, .out _, _ => trivial
  | 0, .op _ _ _, h => absurd h id
  | k + 1, .op s l r, h => ⟨h.1, Ex.fit_up h.2.1, Ex.fit_up h.2.2⟩
mutual
def Sm.w : Sm → List Str
  | .set v e => "set" :: v :: e.w
  | .need e => "need" :: e.w
  | .give a e => "give" :: a :: e.w
  | .get a e => "get" :: a :: e.w
  | .ask v n => ["ask", v, numW n]
  | .call c p e => "call" :: c :: p :: e.w
  | .move c a e => "move" :: c :: a :: e.w
  | .ife e t o => "if" :: (e.w ++ (t.w ++ ((if o.len = 0 then [] else ("else" : Str) :: o.w) ++ [("end" : Str)])))
def Bl.w : Bl → List Str
  | .nil => []
  | .cons s b => s.w ++ b.w
end
mutual
def Sm.fit : Nat → Sm → Prop
  | _, .set _ e => e.fit 9
  | _, .need e => e.fit 9
  | _, .give _ e => e.fit 9
  | _, .get _ e => e.fit 9
  | _, .ask _ n => n ≤ 65535
  | _, .call _ _ e => e.fit 9
  | _, .move _ _ e => e.fit 9
  | 0, .ife _ _ _ => False
  | d + 1, .ife e t o => e.fit 9 ∧ t.fit d ∧ o.fit d
def Bl.fit : Nat → Bl → Prop
  | _, .nil => True
  | d, .cons s b => s.fit d ∧ b.fit d
end
def vrW (v : Str × Nat × Nat) : List Str := ["var", v.1, numW v.2.1, numW v.2.2]
def hdW2 (k : Str) (h : Str × Nat) : List Str := [k, h.1, numW h.2]
def Pr.w (p : Pr) : List Str := "proc" :: p.n :: numW p.z :: (if p.sh = true then "shown" else "hidden") :: (p.b.w ++ [("end" : Str)])
def Co.w (c : Co) : List Str := "contract" :: c.n :: (c.vs.flatMap vrW ++ (c.hs.flatMap (hdW2 "hold") ++ (c.ps.flatMap Pr.w ++ [("end" : Str)])))
def Ho.w (h : Ho) : List Str := h.as.flatMap (hdW2 "asset") ++ h.cs.flatMap Co.w
structure Pr.fit (p : Pr) : Prop where
  z : p.z ≤ 65535
  b : p.b.fit 6
structure Co.fit (c : Co) : Prop where
  vs : ∀ v ∈ c.vs, v.2.1 ≤ 65535 ∧ v.2.2 ≤ 65535
  hs : ∀ v ∈ c.hs, v.2 ≤ 65535
  ps : ∀ p ∈ c.ps, p.fit
structure Ho.fit (h : Ho) : Prop where
  as : ∀ v ∈ h.as, v.2 ≤ 65535
  cs : ∀ c ∈ h.cs, c.fit
theorem pW_snd {w : Str} {r q : List Str} {u : Unit} (h : pW w r = .ok u q) : r = w :: q := by
  cases r with
  | nil => cases h
  | cons x r =>
    rw [pW_c] at h
    split at h
    · rename_i e; cases h; rw [e]
    · cases h
theorem pOne_snd {o r q : List Str} {x : Str} (h : pOne o r = .ok x q) : r = x :: q ∧ x ∈ o := by
  cases r with
  | nil => cases h
  | cons y r =>
    rw [pOne_c] at h
    split at h
    · rename_i e; cases h; exact ⟨rfl, e⟩
    · cases h
theorem pNew_snd {o r q : List Str} {x : Str} (h : pNew o r = .ok x q) : r = x :: q ∧ isNm x = true ∧ x ∉ o := by
  cases r with
  | nil => cases h
  | cons y r =>
    rw [pNew_c] at h
    split at h
    · rename_i e; cases h; exact ⟨rfl, e⟩
    · cases h
theorem pNum_snd {lo hi : Nat} {r q : List Str} {n : Nat} (h : pNum lo hi r = .ok n q) : r = numW n :: q ∧ lo ≤ n ∧ n ≤ hi ∧ n ≤ 65535 := by
  cases r with
  | nil => cases h
  | cons y r =>
    rw [pNum_c] at h
    cases e : numO y with
    | none => rw [e] at h; cases h
    | some k =>
      rw [e] at h
      dsimp only at h
      split at h
      · rename_i c
        cases h
        obtain ⟨a, b⟩ := numO_back e
        exact ⟨by rw [a], c.1, c.2, b⟩
      · cases h
theorem isNm_ne {w : Str} (h : isNm w = true) : w ≠ "" := by
  intro e
  rw [e] at h
  have : isNm ("" : Str) = false := by decide +kernel
  rw [this] at h
  cases h
theorem bindR {α β : Type} {p : PR α} {k : α → List Str → PR β} {v : β} {q : List Str} (h : p.bind k = .ok v q) : ∃ a r1, p = .ok a r1 ∧ k a r1 = .ok v q := by
  cases p with
  | ok a r1 => exact ⟨a, r1, rfl, h⟩
  | bad r1 => cases h
theorem bindH {α β : Type} {p : PH α} {k : α → List Str → Sc → PH β} {v : β} {q : List Str} {s1 : Sc} (h : p.bind k = .ok v q s1) : ∃ a r1 s2, p = .ok a r1 s2 ∧ k a r1 s2 = .ok v q s1 := by
  cases p with
  | ok a r1 s2 => exact ⟨a, r1, s2, rfl, h⟩
  | bad r1 s2 => cases h
theorem upR {α : Type} {p : PR α} {s s1 : Sc} {v : α} {q : List Str} (h : p.up s = .ok v q s1) : p = .ok v q ∧ s1 = s := by
  cases p with
  | ok a r1 => cases h; exact ⟨rfl, rfl⟩
  | bad r1 => cases h
theorem pA_snd {V A r q : List Str} {e : Ex} (k : Nat) (h : pA V A r = .ok e q) : r = e.w ++ q ∧ e.fit k := by
  cases r with
  | nil => cases h
  | cons x r =>
    rw [pA_c] at h
    split at h
    · rename_i c; cases h; exact ⟨by rw [c]; rfl, by cases k <;> trivial⟩
    · split at h
      · rename_i c
        obtain ⟨a, r1, h1, h2⟩ := bindR h
        cases h2
        obtain ⟨e1, _⟩ := pOne_snd h1
        subst e1
        rcases c.2 with e | e
        · rw [if_pos e]; exact ⟨by rw [e]; rfl, by cases k <;> trivial⟩
        · rw [if_neg (by rw [e]; decide +kernel)]; exact ⟨by rw [e]; rfl, by cases k <;> trivial⟩
      · split at h
        · cases h; exact ⟨rfl, by cases k <;> trivial⟩
        · obtain ⟨a, r1, h1, h2⟩ := bindR h
          cases h2
          obtain ⟨e1, _, _, e2⟩ := pNum_snd h1
          rw [e1]
          exact ⟨rfl, by cases k <;> exact e2⟩
theorem pE_snd (V A : List Str) : ∀ (k : Nat) {r q : List Str} {e : Ex}, pE V A k r = .ok e q → r = e.w ++ q ∧ e.fit k
  | 0, [], _, _, h => by cases h
  | _ + 1, [], _, _, h => by cases h
  | 0, x :: r, q, e, h => pA_snd 0 h
  | k + 1, x :: r, q, e, h => by
    rw [pE_c] at h
    split at h
    · rename_i c
      obtain ⟨a, r1, h1, h2⟩ := bindR h
      obtain ⟨b, r2, h3, h4⟩ := bindR h2
      cases h4
      obtain ⟨e1, f1⟩ := pE_snd V A k h1
      obtain ⟨e2, f2⟩ := pE_snd V A k h3
      refine ⟨?_, c, f1, f2⟩
      rw [e1, e2]
      simp [Ex.w]
    · exact pA_snd (k + 1) h
/-- the words that begin a statement -/
def Beg (room : Nat) (r : List Str) : Prop := ∃ x q, r = x :: q ∧ (x = "if" → 0 < room) ∧ (x = "if" ∨ x = "ask" ∨ x = "set" ∨ x = "give" ∨ x = "get" ∨ x = "move" ∨ x = "call" ∨ x = "need")
theorem pIf_snd (f room : Nat) (ih : ∀ {s s1 : Sc} {r q : List Str} {b : Bl}, pBl f room s r = .ok b q s1 → r = b.w ++ q ∧ b.fit room) {s s1 : Sc} {r q : List Str} {x : Sm} (h : pIf f (room + 1) s r = .ok x q s1) : ("if" : Str) :: r = x.w ++ q ∧ x.fit (room + 1) := by
  unfold pIf at h
  rw [Nat.add_sub_cancel] at h
  obtain ⟨e, r1, s2, h1, h2⟩ := bindH h
  obtain ⟨u1, rfl⟩ := upR h1
  obtain ⟨t, r2, s3, h3, h4⟩ := bindH h2
  obtain ⟨o, r3, s4, h5, h6⟩ := bindH h4
  obtain ⟨u, r4, s5, h7, h8⟩ := bindH h6
  obtain ⟨u7, rfl⟩ := upR h7
  cases h8
  obtain ⟨e1, f1⟩ := pE_snd _ _ 9 u1
  obtain ⟨e2, f2⟩ := ih h3
  have e4 := pW_snd u7
  rw [e1, e2]
  split at h5
  · rename_i c
    obtain ⟨o2, r5, s6, h9, h10⟩ := bindH h5
    split at h10
    · cases h10
    · rename_i c2
      cases h10
      obtain ⟨e3, f3⟩ := ih h9
      have er : r2 = ("else" : Str) :: r2.tail := by
        cases r2 with
        | nil => exact absurd c.1 (by decide +kernel)
        | cons y r2 => rw [show y = "else" from c.1]; rfl
      refine ⟨?_, f1, f2, f3⟩
      rw [er, e3, e4, Sm.w, if_neg c2]
      simp
  · cases h5
    refine ⟨?_, f1, f2, by rw [Bl.fit]; trivial⟩
    rw [e4, Sm.w, if_pos (show Bl.nil.len = 0 from rfl)]
    simp
theorem pStBl_snd : ∀ f : Nat, (∀ {room : Nat} {s s1 : Sc} {r q : List Str} {x : Sm}, Beg room r → pSt f room s r = .ok x q s1 → r = x.w ++ q ∧ x.fit room) ∧ (∀ {room : Nat} {s s1 : Sc} {r q : List Str} {b : Bl}, pBl f room s r = .ok b q s1 → r = b.w ++ q ∧ b.fit room)
  | 0 => by
    constructor
    · intro room s s1 r q x _ h
      cases r with
      | nil => rw [pSt] at h; cases h
      | cons y r =>
        rw [pSt] at h
        · cases h
        · intro z; cases z
    · intro room s s1 r q b h
      rw [pBl] at h; cases h
  | f + 1 => by
    obtain ⟨i1, i2⟩ := pStBl_snd f
    constructor
    · intro room s s1 r q x hb h
      obtain ⟨y, r, rfl, hy, hk⟩ := hb
      rw [pSt_c] at h
      have up : ∀ {x : Sm}, x.fit 0 → x.fit room := fun {x} h => by
        cases x <;> first | (rw [Sm.fit] at h ⊢; exact h) | (rw [Sm.fit] at h; exact h.elim)
      by_cases c1 : y = "if"
      · obtain ⟨k, rfl⟩ : ∃ k, room = k + 1 := ⟨room - 1, by have := hy c1; omega⟩
        rw [if_pos c1] at h
        subst c1
        exact pIf_snd f k i2 h
      rw [if_neg c1] at h
      by_cases c2 : y = "ask"
      · rw [if_pos c2] at h
        obtain ⟨a, r1, s2, h1, h2⟩ := bindH h
        obtain ⟨u1, rfl⟩ := upR h1
        obtain ⟨b, r2, s3, h3, h4⟩ := bindH h2
        obtain ⟨u3, rfl⟩ := upR h3
        cases h4
        obtain ⟨e1, _⟩ := pOne_snd u1
        obtain ⟨e2, _, _, e3⟩ := pNum_snd u3
        rw [e1, e2, c2]
        exact ⟨by rw [Sm.w]; rfl, up (by rw [Sm.fit]; exact e3)⟩
      rw [if_neg c2] at h
      by_cases c3 : y = "set"
      · rw [if_pos c3] at h
        obtain ⟨a, r1, s2, h1, h2⟩ := bindH h
        obtain ⟨u1, rfl⟩ := upR h1
        obtain ⟨b, r2, s3, h3, h4⟩ := bindH h2
        obtain ⟨u3, rfl⟩ := upR h3
        cases h4
        obtain ⟨e1, _⟩ := pOne_snd u1
        obtain ⟨e2, e3⟩ := pE_snd _ _ 9 u3
        rw [e1, e2, c3]
        exact ⟨by rw [Sm.w]; rfl, up (by rw [Sm.fit]; exact e3)⟩
      rw [if_neg c3] at h
      by_cases c4 : y = "give" ∨ y = "get"
      · rw [if_pos c4] at h
        obtain ⟨a, r1, s2, h1, h2⟩ := bindH h
        obtain ⟨u1, rfl⟩ := upR h1
        obtain ⟨b, r2, s3, h3, h4⟩ := bindH h2
        obtain ⟨u3, rfl⟩ := upR h3
        cases h4
        obtain ⟨e1, _⟩ := pOne_snd u1
        obtain ⟨e2, e3⟩ := pE_snd _ _ 9 u3
        rw [e1, e2]
        rcases c4 with c | c
        · rw [if_pos c, c]; exact ⟨by rw [Sm.w]; rfl, up (by rw [Sm.fit]; exact e3)⟩
        · rw [if_neg (by rw [c]; decide +kernel), c]; exact ⟨by rw [Sm.w]; rfl, up (by rw [Sm.fit]; exact e3)⟩
      rw [if_neg c4] at h
      by_cases c5 : y = "move"
      · rw [if_pos c5] at h
        obtain ⟨a, r1, s2, h1, h2⟩ := bindH h
        obtain ⟨u1, rfl⟩ := upR h1
        obtain ⟨b, r2, s3, h3, h4⟩ := bindH h2
        obtain ⟨u3, rfl⟩ := upR h3
        obtain ⟨e, r3, s4, h5, h6⟩ := bindH h4
        obtain ⟨u5, rfl⟩ := upR h5
        cases h6
        obtain ⟨e1, _⟩ := pOne_snd u1
        obtain ⟨e2, _⟩ := pOne_snd u3
        obtain ⟨e4, e3⟩ := pE_snd _ _ 9 u5
        rw [e1, e2, e4, c5]
        exact ⟨by rw [Sm.w]; rfl, up (by rw [Sm.fit]; exact e3)⟩
      rw [if_neg c5] at h
      by_cases c6 : y = "call"
      · rw [if_pos c6] at h
        obtain ⟨a, r1, s2, h1, h2⟩ := bindH h
        obtain ⟨u1, rfl⟩ := upR h1
        obtain ⟨b, r2, s3, h3, h4⟩ := bindH h2
        obtain ⟨u3, rfl⟩ := upR h3
        obtain ⟨e, r3, s4, h5, h6⟩ := bindH h4
        obtain ⟨u5, rfl⟩ := upR h5
        cases h6
        obtain ⟨e1, _⟩ := pOne_snd u1
        obtain ⟨e2, _⟩ := pOne_snd u3
        obtain ⟨e4, e3⟩ := pE_snd _ _ 9 u5
        rw [e1, e2, e4, c6]
        exact ⟨by rw [Sm.w]; rfl, up (by rw [Sm.fit]; exact e3)⟩
      rw [if_neg c6] at h
      have c7 : y = "need" := by
        rcases hk with a | a | a | a | a | a | a | a
        · exact absurd a c1
        · exact absurd a c2
        · exact absurd a c3
        · exact absurd (.inl a) c4
        · exact absurd (.inr a) c4
        · exact absurd a c5
        · exact absurd a c6
        · exact a
      obtain ⟨b, r2, s3, h3, h4⟩ := bindH h
      obtain ⟨u3, rfl⟩ := upR h3
      cases h4
      obtain ⟨e2, e3⟩ := pE_snd _ _ 9 u3
      rw [e2, c7]
      exact ⟨by rw [Sm.w]; rfl, up (by rw [Sm.fit]; exact e3)⟩
    · intro room s s1 r q b h
      rw [pBl_c] at h
      split at h
      · rename_i c
        obtain ⟨x, r1, s2, h1, h2⟩ := bindH h
        obtain ⟨b2, r2, s3, h3, h4⟩ := bindH h2
        cases h4
        obtain ⟨e1, f1⟩ := i1 (begS_ok c).2 h1
        obtain ⟨e2, f2⟩ := i2 h3
        refine ⟨?_, by rw [Bl.fit]; exact ⟨f1, f2⟩⟩
        rw [e1, e2, Bl.w, List.append_assoc]
      · cases h
        exact ⟨by rw [Bl.w]; rfl, by rw [Bl.fit]; trivial⟩
theorem pBl_snd {f room : Nat} {s s1 : Sc} {r q : List Str} {b : Bl} (h : pBl f room s r = .ok b q s1) : r = b.w ++ q ∧ b.fit room := (pStBl_snd f).2 h
theorem hd_tl {r : List Str} {x : Str} (h : hdW r = x) (h0 : x ≠ "") : r = x :: r.tail := by
  cases r with
  | nil => exact absurd h.symm h0
  | cons y r => rw [show y = x from h]; rfl
theorem pVs_snd : ∀ (k : Nat) {acc vs : List (Str × Nat × Nat)} {r q : List Str}, pVs k acc r = .ok vs q → ∃ more, vs = acc ++ more ∧ more.length ≤ k ∧ r = more.flatMap vrW ++ q ∧ ∀ v ∈ more, isNm v.1 = true ∧ v.2.1 ≤ 65535 ∧ v.2.2 ≤ 65535
  | 0, acc, vs, r, q, h => by cases h; exact ⟨[], by simp, by simp, rfl, fun v hv => by cases hv⟩
  | k + 1, acc, vs, r, q, h => by
    unfold pVs at h
    split at h
    · rename_i c
      have hr := hd_tl c (by decide +kernel)
      obtain ⟨v, r1, h1, h2⟩ := bindR h
      obtain ⟨z, r2, h3, h4⟩ := bindR h2
      obtain ⟨y, r3, h5, h6⟩ := bindR h4
      obtain ⟨more, e1, e2, e3, e4⟩ := pVs_snd k h6
      obtain ⟨a1, a2, _⟩ := pNew_snd h1
      obtain ⟨b1, _, _, b2⟩ := pNum_snd h3
      obtain ⟨c1, _, _, c2⟩ := pNum_snd h5
      refine ⟨(v, z, y) :: more, by rw [e1]; simp, by simp; omega, ?_, fun w hw => ?_⟩
      · rw [hr, a1, b1, c1, e3]; simp [vrW]
      · rcases List.mem_cons.mp hw with rfl | hw
        · exact ⟨a2, b2, c2⟩
        · exact e4 w hw
    · cases h; exact ⟨[], by simp, by simp, rfl, fun v hv => by cases hv⟩
theorem pHs_snd (A : List Str) : ∀ (k : Nat) {acc vs : List (Str × Nat)} {r q : List Str}, pHs A k acc r = .ok vs q → ∃ more, vs = acc ++ more ∧ more.length ≤ k ∧ r = more.flatMap (hdW2 "hold") ++ q ∧ ∀ v ∈ more, v.1 ∈ A ∧ v.2 ≤ 65535
  | 0, acc, vs, r, q, h => by cases h; exact ⟨[], by simp, by simp, rfl, fun v hv => by cases hv⟩
  | k + 1, acc, vs, r, q, h => by
    unfold pHs at h
    split at h
    · rename_i c
      have hr := hd_tl c (by decide +kernel)
      obtain ⟨v, r1, h1, h2⟩ := bindR h
      obtain ⟨z, r2, h3, h4⟩ := bindR h2
      obtain ⟨more, e1, e2, e3, e4⟩ := pHs_snd A k h4
      obtain ⟨a1, a2⟩ := pOne_snd h1
      obtain ⟨b1, _, _, b2⟩ := pNum_snd h3
      refine ⟨(v, z) :: more, by rw [e1]; simp, by simp; omega, ?_, fun w hw => ?_⟩
      · rw [hr, a1, b1, e3]; simp [hdW2]
      · rcases List.mem_cons.mp hw with rfl | hw
        · exact ⟨(List.mem_filter.mp a2).1, b2⟩
        · exact e4 w hw
    · cases h; exact ⟨[], by simp, by simp, rfl, fun v hv => by cases hv⟩
theorem pAs_snd : ∀ (k : Nat) {acc vs : List (Str × Nat)} {r q : List Str}, pAs k acc r = .ok vs q → ∃ more, vs = acc ++ more ∧ more.length ≤ k ∧ r = more.flatMap (hdW2 "asset") ++ q ∧ ∀ v ∈ more, isNm v.1 = true ∧ v.2 ≤ 65535
  | 0, acc, vs, r, q, h => by cases h; exact ⟨[], by simp, by simp, rfl, fun v hv => by cases hv⟩
  | k + 1, acc, vs, r, q, h => by
    unfold pAs at h
    split at h
    · rename_i c
      have hr := hd_tl c (by decide +kernel)
      obtain ⟨v, r1, h1, h2⟩ := bindR h
      obtain ⟨z, r2, h3, h4⟩ := bindR h2
      obtain ⟨more, e1, e2, e3, e4⟩ := pAs_snd k h4
      obtain ⟨a1, a2, _⟩ := pNew_snd h1
      obtain ⟨b1, _, _, b2⟩ := pNum_snd h3
      refine ⟨(v, z) :: more, by rw [e1]; simp, by simp; omega, ?_, fun w hw => ?_⟩
      · rw [hr, a1, b1, e3]; simp [hdW2]
      · rcases List.mem_cons.mp hw with rfl | hw
        · exact ⟨a2, b2⟩
        · exact e4 w hw
    · cases h; exact ⟨[], by simp, by simp, rfl, fun v hv => by cases hv⟩
/-- what reading a procedure keeps -/
theorem pProc_snd {old : List Str} {s s1 : Sc} {r q : List Str} {p : Pr} (h : pProc old s r = .ok p q s1) : ("proc" : Str) :: r = p.w ++ q ∧ p.fit ∧ isNm p.n = true ∧ s1.as = s.as ∧ s1.known = s.known ∧ s1.vars = s.vars ∧ s1.names = s.names := by
  unfold pProc at h
  obtain ⟨n, r1, s2, h1, h2⟩ := bindH h
  obtain ⟨u1, rfl⟩ := upR h1
  obtain ⟨z, r2, s3, h3, h4⟩ := bindH h2
  obtain ⟨u3, rfl⟩ := upR h3
  obtain ⟨sh, r3, s4, h5, h6⟩ := bindH h4
  obtain ⟨u5, rfl⟩ := upR h5
  obtain ⟨b, r4, s5, h7, h8⟩ := bindH h6
  obtain ⟨u, r5, s6, h9, h10⟩ := bindH h8
  obtain ⟨u9, rfl⟩ := upR h9
  cases h10
  obtain ⟨a1, a2, _⟩ := pNew_snd u1
  obtain ⟨b1, _, _, b2⟩ := pNum_snd u3
  obtain ⟨c1, c2⟩ := pOne_snd u5
  obtain ⟨d1, d2⟩ := pBl_snd h7
  have d3 := pW_snd u9
  have fn := (pBl_fine 49 6 _ r3).of h7
  refine ⟨?_, ⟨b2, d2⟩, a2, fn.as, fn.known, fn.vars, fn.names⟩
  rw [a1, b1, c1, d1, d3]
  have : (if decide (sh = "shown") = true then ("shown" : Str) else "hidden") = sh := by
    rcases List.mem_cons.mp c2 with e | e
    · rw [e]; rfl
    · have e2 : sh = "hidden" := by simpa using e
      rw [e2]; decide +kernel
  simp only [Pr.w, this]
  simp
theorem pPs_snd (c : Str) : ∀ (k : Nat) {acc ps : List Pr} {s s1 : Sc} {r q : List Str}, pPs c k acc s r = .ok ps q s1 → ∃ more, ps = acc ++ more ∧ more.length ≤ k ∧ r = more.flatMap Pr.w ++ q ∧ ∀ p ∈ more, p.fit
  | 0, acc, vs, s, s1, r, q, h => by cases h; exact ⟨[], by simp, by simp, rfl, fun v hv => by cases hv⟩
  | k + 1, acc, vs, s, s1, r, q, h => by
    unfold pPs at h
    split at h
    · rename_i c
      have hr := hd_tl c (by decide +kernel)
      obtain ⟨v, r1, s2, h1, h2⟩ := bindH h
      obtain ⟨more, e1, e2, e3, e4⟩ := pPs_snd _ k h2
      obtain ⟨a1, a2, _⟩ := pProc_snd h1
      refine ⟨v :: more, by rw [e1]; simp, by simp; omega, ?_, fun w hw => ?_⟩
      · rw [hr, a1, e3]; simp
      · rcases List.mem_cons.mp hw with rfl | hw
        · exact a2
        · exact e4 w hw
    · cases h; exact ⟨[], by simp, by simp, rfl, fun v hv => by cases hv⟩
theorem pCo_snd {old : List Str} {s s1 : Sc} {r q : List Str} {c : Co} (h : pCo old s r = .ok c q s1) : ("contract" : Str) :: r = c.w ++ q ∧ c.fit ∧ isNm c.n = true := by
  unfold pCo at h
  obtain ⟨n, r1, s2, h1, h2⟩ := bindH h
  obtain ⟨u1, rfl⟩ := upR h1
  obtain ⟨vs, r2, s3, h3, h4⟩ := bindH h2
  obtain ⟨u3, rfl⟩ := upR h3
  obtain ⟨hs, r3, s4, h5, h6⟩ := bindH h4
  obtain ⟨u5, rfl⟩ := upR h5
  obtain ⟨ps, r4, s5, h7, h8⟩ := bindH h6
  obtain ⟨u, r5, s6, h9, h10⟩ := bindH h8
  obtain ⟨u9, rfl⟩ := upR h9
  cases h10
  obtain ⟨a1, a2, _⟩ := pNew_snd u1
  obtain ⟨m1, e1, _, b1, b2⟩ := pVs_snd 6 u3
  obtain ⟨m2, e2, _, c1, c2⟩ := pHs_snd _ _ u5
  obtain ⟨m3, e3, _, d1, d2⟩ := pPs_snd _ _ h7
  have d3 := pW_snd u9
  rw [List.nil_append] at e1 e2 e3
  subst e1 e2 e3
  refine ⟨?_, ⟨fun v hv => (b2 v hv).2, fun v hv => (c2 v hv).2, d2⟩, a2⟩
  rw [a1, b1, c1, d1, d3]
  simp [Co.w]
theorem pCs_snd : ∀ (k : Nat) {acc cs : List Co} {s s1 : Sc} {r q : List Str}, pCs k acc s r = .ok cs q s1 → ∃ more, cs = acc ++ more ∧ more.length ≤ k ∧ r = more.flatMap Co.w ++ q ∧ ∀ p ∈ more, p.fit
  | 0, acc, vs, s, s1, r, q, h => by cases h; exact ⟨[], by simp, by simp, rfl, fun v hv => by cases hv⟩
  | k + 1, acc, vs, s, s1, r, q, h => by
    unfold pCs at h
    split at h
    · rename_i c
      have hr := hd_tl c (by decide +kernel)
      obtain ⟨v, r1, s2, h1, h2⟩ := bindH h
      obtain ⟨more, e1, e2, e3, e4⟩ := pCs_snd k h2
      obtain ⟨a1, a2, _⟩ := pCo_snd h1
      refine ⟨v :: more, by rw [e1]; simp, by simp; omega, ?_, fun w hw => ?_⟩
      · rw [hr, a1, e3]; simp
      · rcases List.mem_cons.mp hw with rfl | hw
        · exact a2
        · exact e4 w hw
    · cases h; exact ⟨[], by simp, by simp, rfl, fun v hv => by cases hv⟩
/-- THE READER READS JUST THE WORDS OF THE HOUSE -/
theorem pHo_snd {r q : List Str} {h : Ho} (e : pHo r = .ok h q) : q = [] ∧ r = h.w ∧ h.fit := by
  unfold pHo at e
  obtain ⟨as, r1, h1, h2⟩ := bindR e
  cases h3 : pCs 4 [] ⟨as.map (·.1), [], [], [], 0, 0, 0⟩ r1 with
  | bad q s => rw [h3] at h2; cases h2
  | ok cs r2 s =>
    rw [h3] at h2
    dsimp only at h2
    split at h2
    · rename_i c
      cases h2
      subst c
      obtain ⟨m1, e1, _, b1, b2⟩ := pAs_snd 3 h1
      obtain ⟨m2, e2, _, c1, c2⟩ := pCs_snd 4 h3
      rw [List.nil_append] at e1 e2
      subst e1 e2
      refine ⟨rfl, ?_, ⟨fun v hv => (b2 v hv).2, c2⟩⟩
      rw [b1, c1, List.append_nil]; rfl
    · cases h2
end NC

/-! ### defs that a suite calls, by a weaker text (what it cannot do there is stuck) -/
namespace NC
open PySem L2
def sStk : FS := fun _ _ => .stuck
section
variable {G : Ct} {M : Mo} {m : Md} {ms : List Md} {X : Cx} {C : Cf} {e : Expr} {es : List Expr} {fl : FL} {p1 pos : Pos} {x y : Str} {s : Stmt}
theorem ss_stk : SndS G M s sStk := fun X C gd => ⟨fun pins t σ H D I h => by
  obtain ⟨w, env, st, q, p⟩ := h
  exact p.elim⟩
structure CallOkY (M : Mo) (x y : Str) : Prop where
  hot : M.hot = true
  ex : ∃ (fa : Addr) (fd : FuncData) (ps : List Str), M.mg x = some (.ref fa) ∧ PySem.W.keepIn M.T.K (.ref fa) = true ∧ Binds M.T.K fd ps [] ∧ L2H.FnH M.P M.w M.T.K M.mg M.base (L2N.CX M.P M.w) M.n fa fd ps (spOf M.T M.cl y)
theorem sn_callY (hc : CallOkY M x y) (hg : G.sc.names.lookup x = some .globalImplicit) (ha : SndL G M ms (e :: es) fl) (hdb : (x == ("__debug__" : Str)) = false := by decide)
    (he : ∀ env, starEach (e :: es) env = (false, eval e env) :: starEach es env := by intro _; rfl) (hpl : ∀ env, (backTo pos (starEach es env)).any (·.1) = false := by intro _; rfl) : SndE G M .esc (.Call (.Name x p1) (e :: es) [] pos) (bDef M.cl y ms fl) := by
  obtain ⟨fa, fd, ps, h1, h2, h3, h5⟩ := hc.ex
  have hh := hc.hot
  intro X C gd
  have key : ∀ σ H Q, tE C .esc (bDef M.cl y ms fl) σ H Q → tCallS (spOf M.T M.cl y) (WE C.W) (tL C ms fl) σ H Q := fun σ H Q ⟨w, env, st, s, p⟩ => ⟨w, env, st, s, by
    refine PostE.bindL p fun ds st1 w1 vs H1 l1 s1 r1 p1 => ?_
    rw [← gd.T]
    exact ⟨ms.zip ds, w1, st1, by rw [zip_fst r1.len2, zip_snd r1.len2]; exact r1, s1.sto, s1.al, p1.call s1⟩⟩
  have gl : Gl X x := by show X.env.scope.names.lookup _ = _; rw [gd.sc]; exact hg
  have F : L2H.FnH X.prog X.w X.K X.mg X.base (L2N.CX X.prog X.w) M.n fa fd ps (spOf M.T M.cl y) := by rw [gd.p, gd.w, gd.K, gd.mg, gd.base]; exact h5
  exact (L2H.pe_callH (E := WE C.W) F (gd.hotr hh).1 (gd.hotr hh).2 gl (by rw [gd.mg]; exact h1) (by rw [gd.K]; exact h2) (by rw [gd.K]; exact h3) (fun σ => L2N.passAt gd.tk σ) (ha X C gd) hdb (he _) (hpl _)).imp key
theorem cDY (hc : CallOkY M x y) (ha : SndL G M ms (e :: es) fl) (h : glX G x = true := by decide +kernel) (he : ∀ env, starEach (e :: es) env = (false, eval e env) :: starEach es env := by intro _; rfl) (hpl : ∀ env, (backTo pos (starEach es env)).any (·.1) = false := by intro _; rfl) : SndE G M .esc (.Call (.Name x p1) (e :: es) [] pos) (bDef M.cl y ms fl) :=
  sn_callY hc (glX_ok h).1 ha (glX_ok h).2.1 he hpl
end
section
variable {P : Program} {w : World} {T : Tb} {mg : Str → Option Value} {base : Heap} {Δ : Str → Option Df} {n : Nat} {x y : Str} {st : Stmt} {N ps : List Str} {sh : Calls → FS}
theorem callOkY_zero (F : DefAt T.K mg x st)
    (hb : ∀ (kV doc pm : Value) (an : Option Addr) (cdv ct : Value) (us : List Value), us.length = ps.length → bindArgs (PySem.W.fnOf x x (defArgs st) (defBody st) (defScope st) .none kV doc pm an cdv ct) ⟨us, []⟩ = pure (ps.zip us)) : CallOkY { MoN P w T mg base Δ 0 with hot := true } x y := by
  obtain ⟨fa, fd, h1, h2⟩ := F.ex
  exact ⟨rfl, fa, fd, ps, h1, h2.kp, h2.binds hb, fn_okH0 fun _ _ => rfl⟩
theorem callOkY_succ (F : DefAt T.K mg x st) (S : FnScope N ps (defScope st))
    (hb : ∀ (kV doc pm : Value) (an : Option Addr) (cdv ct : Value) (us : List Value), us.length = ps.length → bindArgs (PySem.W.fnOf x x (defArgs st) (defBody st) (defScope st) .none kV doc pm an cdv ct) ⟨us, []⟩ = pure (ps.zip us))
    (snd : SndB ⟨N, defScope st, none⟩ { MoN P w T mg base Δ n with hot := true } (defBody st) (sh (interp Δ n))) (hΔ : Δ y = some (dfD ps.length N.length sh)) : CallOkY { MoN P w T mg base Δ (n + 1) with hot := true } x y := by
  obtain ⟨fa, fd, h1, h2⟩ := F.ex
  exact ⟨rfl, fa, fd, ps, h1, h2.kp, h2.binds hb, fn_okH h2 S snd fun as s => interp_eq hΔ as s⟩
end
end NC

/-! ### texts cut at blanks; lists of words -/
namespace NC
open PySem L2
theorem spl32 : ∀ (l acc : List Nat), 32 ∉ acc → TL.spl [32] 0 acc l ≠ [] ∧ (∀ p ∈ TL.spl [32] 0 acc l, 32 ∉ p) ∧ TL.joinL [32] (TL.spl [32] 0 acc l) = acc ++ l
  | [], acc, h => by
    rw [TL.spl_nil]
    exact ⟨by simp, fun p hp => by rw [List.mem_singleton.mp hp]; exact h, by simp [TL.joinL]⟩
  | c :: r, acc, h => by
    have e : TL.spl [32] 0 acc (c :: r) = if TL.pre [32] (c :: r) = true then acc :: TL.spl [32] 0 [] r else TL.spl [32] 0 (acc ++ [c]) r := rfl
    have hp : TL.pre [32] (c :: r) = decide (c = 32) := by
      by_cases hc : c = 32
      · subst hc
        rw [decide_eq_true rfl]
        simp [TL.pre]
      · rw [decide_eq_false hc]
        have : ¬ (32 = c) := fun z => hc z.symm
        simp [TL.pre, hc]
    rw [e, hp]
    by_cases hc : c = 32
    · rw [decide_eq_true hc, if_pos rfl]
      obtain ⟨i1, i2, i3⟩ := spl32 r [] (by simp)
      refine ⟨by simp, fun p hp => ?_, ?_⟩
      · rcases List.mem_cons.mp hp with rfl | hp
        · exact h
        · exact i2 p hp
      · cases hs : TL.spl [32] 0 [] r with
        | nil => exact absurd hs i1
        | cons q qs =>
          rw [hs] at i3
          show acc ++ ([32] ++ TL.joinL [32] (q :: qs)) = _
          rw [i3, hc]; simp
    · rw [decide_eq_false hc, if_neg Bool.false_ne_true]
      have h2 : 32 ∉ acc ++ [c] := fun z => by
        rcases List.mem_append.mp z with z | z
        · exact h z
        · exact hc (List.mem_singleton.mp z).symm
      obtain ⟨i1, i2, i3⟩ := spl32 r (acc ++ [c]) h2
      exact ⟨i1, i2, by rw [i3]; simp⟩
theorem tl32 : TL.tl (" " : Str) = [32] := by decide +kernel
/-- THE WORDS OF A TEXT: without blanks, and joined again the text -/
theorem split_ok (t : Str) : Txt.split t (" " : Str) ≠ [] ∧ (∀ w ∈ Txt.split t (" " : Str), noSp w) ∧ Txt.join (" " : Str) (Txt.split t (" " : Str)) = t := by
  have hs := TL.split_spl t (" " : Str) (by rw [tl32]; simp) (TL.kind_ok (by decide +kernel))
  rw [tl32] at hs
  obtain ⟨i1, i2, i3⟩ := spl32 (TL.tl t) [] (by simp)
  refine ⟨fun z => ?_, fun w hw => ?_, ?_⟩
  · rw [z] at hs; exact i1 hs.symm
  · have : TL.tl w ∈ (Txt.split t (" " : Str)).map TL.tl := List.mem_map_of_mem hw
    rw [hs] at this
    exact i2 _ this
  · rw [TL.join_eq]
    refine TL.ext_tl ?_
    rw [TL.tl_join, tl32, hs, i3]; rfl
theorem joinL_eq : ∀ {ps : List (List Nat)}, ps ≠ [] → (TL.joinL [32] ps).length + 1 = (ps.map (·.length)).sum + ps.length
  | [], h => absurd rfl h
  | [p], _ => by simp [TL.joinL]
  | p :: q :: r, _ => by
    have := joinL_eq (ps := q :: r) (by simp)
    simp [TL.joinL] at this ⊢
    omega
theorem join_len_eq {ws : List Str} (h : ws ≠ []) : (Txt.join (" " : Str) ws).length + 1 = (ws.map (·.length)).sum + ws.length := by
  rw [TL.join_eq, TL.len_tl, TL.tl_join, tl32, joinL_eq (by simpa using h), List.map_map, List.length_map]
  have : (List.length ∘ TL.tl) = fun w : Str => w.length := by
    funext w; exact (TL.len_tl w).symm
  rw [this]
theorem join_len_le (ws : List Str) : (ws.map (·.length)).sum + ws.length ≤ (Txt.join (" " : Str) ws).length + 1 := by
  cases ws with
  | nil => simp
  | cons w ws => rw [join_len_eq (by simp)]; exact Nat.le_refl _
theorem mem_sum_le {ws : List Str} {w : Str} (h : w ∈ ws) : w.length ≤ (ws.map (·.length)).sum := by
  induction ws with
  | nil => cases h
  | cons v ws ih =>
    rw [List.map_cons, List.sum_cons]
    rcases List.mem_cons.mp h with rfl | h
    · omega
    · have := ih h; omega
/-- a list of words: at most n, each at most l long -/
structure WB (n l : Nat) (ws : List Str) : Prop where
  n : ws.length ≤ n
  l : ∀ w ∈ ws, w.length ≤ l
theorem WB.mono {n l n' l' : Nat} {ws : List Str} (h : WB n l ws) (h1 : n ≤ n') (h2 : l ≤ l') : WB n' l' ws := ⟨Nat.le_trans h.n h1, fun w hw => Nat.le_trans (h.l w hw) h2⟩
theorem WB.app {n n' l : Nat} {ws vs : List Str} (h : WB n l ws) (g : WB n' l vs) : WB (n + n') l (ws ++ vs) :=
  ⟨by rw [List.length_append]; have := h.n; have := g.n; omega, fun w hw => (List.mem_append.mp hw).elim (h.l w) (g.l w)⟩
theorem WB.sub {n l : Nat} {ws vs : List Str} (h : WB n l ws) (hn : vs.length ≤ ws.length) (hm : ∀ w ∈ vs, w ∈ ws) : WB n l vs := ⟨Nat.le_trans hn h.n, fun w hw => h.l w (hm w hw)⟩
theorem wb_nil {n l : Nat} : WB n l [] := ⟨Nat.zero_le _, fun w h => by cases h⟩
theorem wb_one {n l : Nat} {w : Str} (h : w.length ≤ l) (hn : 1 ≤ n) : WB n l [w] := ⟨hn, fun x hx => by rw [List.mem_singleton.mp hx]; exact h⟩
/-- a part of a list of words -/
theorem cut_ws (ws : List Str) (lo hi : Option Int) : ∃ vs : List Str, cutD (ws.map D.str) lo hi = vs.map D.str ∧ vs.length ≤ ws.length ∧ ∀ w ∈ vs, w ∈ ws := by
  refine ⟨(ws.drop (HT.sIx ws.length 0 lo)).take (HT.sIx ws.length ws.length hi - HT.sIx ws.length 0 lo), ?_, ?_, fun w hw => List.mem_of_mem_drop (List.mem_of_mem_take hw)⟩
  · unfold cutD
    rw [List.length_map, ← List.map_drop, ← List.map_take]
  · rw [List.length_take, List.length_drop]; omega
theorem WB.sum {n l : Nat} {ws : List Str} (h : WB n l ws) : (ws.map (·.length)).sum ≤ n * l := Nat.le_trans (sum_le h.l) (Nat.mul_le_mul_right _ h.n)
theorem WB.joined {n l : Nat} {ws : List Str} (h : WB n l ws) : (Txt.join (" " : Str) ws).length ≤ n * l + n := Nat.le_trans (join_len ws) (Nat.add_le_add h.sum h.n)
theorem join0_len {ws : List Str} {l : Nat} (h : WB 1 l ws) : (Txt.join ("" : Str) ws).length ≤ l := by
  have h0 : TL.tl ("" : Str) = [] := by decide +kernel
  rw [TL.join_eq, TL.len_tl, TL.tl_join, h0]
  match ws, h with
  | [], _ => exact Nat.zero_le _
  | [w], h =>
    show (TL.tl w).length ≤ l
    rw [← TL.len_tl]
    exact h.l w (by simp)
  | a :: b :: r, h => have := h.n; simp at this
end NC

namespace K35
open PySem L2 NC
abbrev PWx := PySem.Challenge.pw_nestcall_k35_whole_texts_of_outsiders
def topS (i : Nat) : Stmt := PWx.main.body.getD i (.Pass ⟨0, 0, 0, 0⟩)
def mS (i j : Nat) : Stmt := inClass (topS i) j
def g_KEYWORDS : D := D.tup [D.str "asset", D.str "contract", D.str "var", D.str "hold", D.str "proc", D.str "shown", D.str "hidden", D.str "end", D.str "set", D.str "need", D.str "give", D.str "get", D.str "move", D.str "ask", D.str "call", D.str "if", D.str "else", D.str "given", D.str "have", D.str "out", D.str "mod"]
def g_GREATEST : D := D.int 65535
def g_DIGITS : D := D.str "0123456789"
def g_LETTERS : D := D.str "abcdefghijklmnopqrstuvwxyz"
def g_MOST_RULES : D := D.int 40
def g_SIGNS : D := D.tup [D.str "+", D.str "-", D.str "*", D.str "/", D.str "mod", D.str "<", D.str "="]
def g_SEEN : D := D.tup [D.str "asked", D.str "deep", D.str "failed", D.str "cell"]
def known : List Str := ["is_name", "number_of", "read_outsider", "read_deed", "read_sight", "sight_words", "outsider_text", "_law_pool", "_law_draw", "_law_same", "_law_is_name", "_law_is_number", "_law_next", "_law_wrong", "_law_value_words", "_law_chain", "_law_drawn_name", "_law_rule_words", "_law_menu", "_law_changed", "_law_read_value", "_law_rules", "law"]
def fc_words : List Str := ["Cursor"]
def fc_at : List Str := ["Cursor"]
def fc_rules : List Str := ["Outsider"]
def mt_HouseError : Str → Option Bool := fun c => ([("BadText", true), ("BadAct", true), ("TooLarge", true), ("BadGuard", true), ("BadPaper", true), ("BadHouse", true)] : List (Str × Bool)).lookup c
def mx_BadAct : Str → Option Bool := fun c => ([("BadText", false), ("BadAct", true), ("TooLarge", false), ("BadGuard", false), ("BadPaper", false), ("BadHouse", false)] : List (Str × Bool)).lookup c
def mx_BadGuard : Str → Option Bool := fun c => ([("BadText", false), ("BadAct", false), ("TooLarge", false), ("BadGuard", true), ("BadPaper", false), ("BadHouse", false)] : List (Str × Bool)).lookup c
def mx_BadHouse : Str → Option Bool := fun c => ([("BadText", false), ("BadAct", false), ("TooLarge", false), ("BadGuard", false), ("BadPaper", false), ("BadHouse", true)] : List (Str × Bool)).lookup c
def mx_BadPaper : Str → Option Bool := fun c => ([("BadText", false), ("BadAct", false), ("TooLarge", false), ("BadGuard", false), ("BadPaper", true), ("BadHouse", false)] : List (Str × Bool)).lookup c
def mx_TooLarge : Str → Option Bool := fun c => ([("BadText", false), ("BadAct", false), ("TooLarge", true), ("BadGuard", false), ("BadPaper", false), ("BadHouse", false)] : List (Str × Bool)).lookup c
def mx_BadText : Str → Option Bool := fun c => ([("BadText", true), ("BadAct", false), ("TooLarge", false), ("BadGuard", false), ("BadPaper", false), ("BadHouse", false)] : List (Str × Bool)).lookup c
def mi_Outsider : Str → Option Bool := fun c => ([("Cursor", false), ("Outsider", true)] : List (Str × Bool)).lookup c
def xc_at : List Str := ["BadText", "BadAct", "BadGuard", "BadPaper"]
structure StcH (M : Mo) : Prop where
  bn : Bn M
  g_KEYWORDS : GlobOk M "KEYWORDS" g_KEYWORDS
  g_GREATEST : GlobOk M "GREATEST" g_GREATEST
  g_DIGITS : GlobOk M "DIGITS" g_DIGITS
  g_LETTERS : GlobOk M "LETTERS" g_LETTERS
  g_MOST_RULES : GlobOk M "MOST_RULES" g_MOST_RULES
  g_SIGNS : GlobOk M "SIGNS" g_SIGNS
  g_SEEN : GlobOk M "SEEN" g_SEEN
  z_BadAct : ∃ CE, M.mg "BadAct" = some (.ref CE) ∧ ∀ c b, mx_BadAct c = some b → ∀ C0, M.T.cls c = some C0 → ExcC M.T.K C0 ∧ PySem.W.kitOne M.T.K (.ref C0) (.ref CE) = some b
  z_BadGuard : ∃ CE, M.mg "BadGuard" = some (.ref CE) ∧ ∀ c b, mx_BadGuard c = some b → ∀ C0, M.T.cls c = some C0 → ExcC M.T.K C0 ∧ PySem.W.kitOne M.T.K (.ref C0) (.ref CE) = some b
  z_BadHouse : ∃ CE, M.mg "BadHouse" = some (.ref CE) ∧ ∀ c b, mx_BadHouse c = some b → ∀ C0, M.T.cls c = some C0 → ExcC M.T.K C0 ∧ PySem.W.kitOne M.T.K (.ref C0) (.ref CE) = some b
  z_BadPaper : ∃ CE, M.mg "BadPaper" = some (.ref CE) ∧ ∀ c b, mx_BadPaper c = some b → ∀ C0, M.T.cls c = some C0 → ExcC M.T.K C0 ∧ PySem.W.kitOne M.T.K (.ref C0) (.ref CE) = some b
  z_TooLarge : ∃ CE, M.mg "TooLarge" = some (.ref CE) ∧ ∀ c b, mx_TooLarge c = some b → ∀ C0, M.T.cls c = some C0 → ExcC M.T.K C0 ∧ PySem.W.kitOne M.T.K (.ref C0) (.ref CE) = some b
  z_BadText : ∃ CE, M.mg "BadText" = some (.ref CE) ∧ ∀ c b, mx_BadText c = some b → ∀ C0, M.T.cls c = some C0 → ExcC M.T.K C0 ∧ PySem.W.kitOne M.T.K (.ref C0) (.ref CE) = some b
  w_at : ∀ c, xc_at.contains c = true → ∀ C0, M.T.cls c = some C0 → XfC M.T.K C0 ∧ PySem.W.findIn M.T.K (.ref C0) "at" = some none
def knownH : List Str := []
structure RtH (M : Mo) : Prop where
  fn : ∀ x : Str, knownH.contains x = true → CallOk M x
  fw_law_same : CallOkY M "_law_same" "_law_same!"
structure Stc (M : Mo) : Prop where
  bn : Bn M
  cold : M.hot = false
  g_KEYWORDS : GlobOk M "KEYWORDS" g_KEYWORDS
  g_GREATEST : GlobOk M "GREATEST" g_GREATEST
  g_DIGITS : GlobOk M "DIGITS" g_DIGITS
  g_LETTERS : GlobOk M "LETTERS" g_LETTERS
  g_MOST_RULES : GlobOk M "MOST_RULES" g_MOST_RULES
  g_SIGNS : GlobOk M "SIGNS" g_SIGNS
  g_SEEN : GlobOk M "SEEN" g_SEEN
  f_words : ∀ c, fc_words.contains c = true → ∀ C, M.T.cls c = some C → NoAttr M.T.K C "words"
  f_at : ∀ c, fc_at.contains c = true → ∀ C, M.T.cls c = some C → NoAttr M.T.K C "at"
  f_rules : ∀ c, fc_rules.contains c = true → ∀ C, M.T.cls c = some C → NoAttr M.T.K C "rules"
  y_HouseError : ∃ CE, M.mg "HouseError" = some (.ref CE) ∧ ∀ c b, mt_HouseError c = some b → ∀ C0, M.T.cls c = some C0 → PySem.W.exmOne M.T.K (.ref C0) (.ref CE) = some b
  i_Outsider : ∃ CE, M.mg "Outsider" = some (.ref CE) ∧ ∀ c b, mi_Outsider c = some b → ∀ C0, M.T.cls c = some C0 → InsC M.T.K C0 ∧ PySem.W.kitOne M.T.K (.ref C0) (.ref CE) = some b
  hotS : StcH { M with hot := true }
structure Rt (M : Mo) : Prop where
  fn : ∀ x : Str, known.contains x = true → CallOk M x
  hotR : RtH { M with hot := true }
  x_BadText : RaiseOk M "BadText" "at"
  x_BadAct : RaiseOk M "BadAct" "at"
  x_TooLarge : RaiseOk M "TooLarge" "what"
  x_BadGuard : RaiseOk M "BadGuard" "at"
  x_BadPaper : RaiseOk M "BadPaper" "at"
  x_BadHouse : RaiseOk M "BadHouse" "what"
  k_Cursor : MakeOk M "Cursor" []
  k_Outsider : MakeOk M "Outsider" []
  m_Cursor___init__ : MethOk M "Cursor" "__init__" "Cursor.__init__"
  m_Cursor_word : MethOk M "Cursor" "word" "Cursor.word"
  m_Cursor_fail : MethOk M "Cursor" "fail" "Cursor.fail"
  m_Cursor_take : MethOk M "Cursor" "take" "Cursor.take"
  m_Cursor_take_one : MethOk M "Cursor" "take_one" "Cursor.take_one"
  m_Cursor_take_new : MethOk M "Cursor" "take_new" "Cursor.take_new"
  m_Cursor_take_number : MethOk M "Cursor" "take_number" "Cursor.take_number"
  m_Outsider___init__ : MethOk M "Outsider" "__init__" "Outsider.__init__"
  m_Outsider___eq__ : MethOk M "Outsider" "__eq__" "Outsider.__eq__"
def tab_word : List (Str × Str) := [("Cursor", "Cursor.word")]
theorem mt_word {M : Mo} (rt : Rt M) : ∀ c y, tab_word.lookup c = some y → MethOk M c "word" y := (tab_cons rt.m_Cursor_word tab_nil)
def tab_fail : List (Str × Str) := [("Cursor", "Cursor.fail")]
theorem mt_fail {M : Mo} (rt : Rt M) : ∀ c y, tab_fail.lookup c = some y → MethOk M c "fail" y := (tab_cons rt.m_Cursor_fail tab_nil)
def tab_take : List (Str × Str) := [("Cursor", "Cursor.take")]
theorem mt_take {M : Mo} (rt : Rt M) : ∀ c y, tab_take.lookup c = some y → MethOk M c "take" y := (tab_cons rt.m_Cursor_take tab_nil)
def tab_take_one : List (Str × Str) := [("Cursor", "Cursor.take_one")]
theorem mt_take_one {M : Mo} (rt : Rt M) : ∀ c y, tab_take_one.lookup c = some y → MethOk M c "take_one" y := (tab_cons rt.m_Cursor_take_one tab_nil)
def tab_take_new : List (Str × Str) := [("Cursor", "Cursor.take_new")]
theorem mt_take_new {M : Mo} (rt : Rt M) : ∀ c y, tab_take_new.lookup c = some y → MethOk M c "take_new" y := (tab_cons rt.m_Cursor_take_new tab_nil)
def tab_take_number : List (Str × Str) := [("Cursor", "Cursor.take_number")]
theorem mt_take_number {M : Mo} (rt : Rt M) : ∀ c y, tab_take_number.lookup c = some y → MethOk M c "take_number" y := (tab_cons rt.m_Cursor_take_number tab_nil)
def tab___eq__ : List (Str × Str) := [("Outsider", "Outsider.__eq__")]
theorem mt___eq__ {M : Mo} (rt : Rt M) : ∀ c y, tab___eq__.lookup c = some y → MethOk M c "__eq__" y := (tab_cons rt.m_Outsider___eq__ tab_nil)
/-! is_name -/
abbrev N_is_name : List Str := ["word", "char"]
theorem sc_is_name : FnScope N_is_name ["word"] (defScope (topS 13)) := ⟨rfl, rfl, rfl, by decide +kernel, rfl, by decide +kernel, by decide +kernel⟩
def sh_is_name (cl : Calls) : FS :=
  (sCons (sIf (bOrT (bNotT (bTst (bChain kLt kLe (bC (D.int 0)) (bCall kLen (lCons (bVarR 0) lNil)) (bC (D.int 12))))) (bOrT (bTst (bBin kNotIn (bBin kIx (bVarR 0) (bC (D.int 0))) (bC g_LETTERS))) (bTst (bBin kIn (bVarR 0) (bC g_KEYWORDS)))))
  (sRet (bC (D.bl false)))
  sNil)
  (sRet (bCall kAll (lCons (bComp [1] (iVarC 0) (tgName 1) cYes (bOrV (bBin kIn (bVarR 1) (bC g_LETTERS)) (bBin kIn (bVarR 1) (bC g_DIGITS)))) lNil))))
theorem snd_is_name {M : Mo} (h : Stc M) (rt : Rt M) : SndB ⟨N_is_name, defScope (topS 13), none⟩ M (defBody (topS 13)) (sh_is_name M.cl) :=
  have hb := h.bn
  have hm := h.cold
  (sb_cons (ss_if (sn_tw (sw_or (sn_tnot (sn_tchain sn_int (cB hb bu_len (sl_rd (vr 0) sl_nil)) sn_int os_lt os_le)) (sw_or (sn_tcmp (SndE.read (sn_ix (vr 0) sn_int)) (SndE.read (gl h.g_LETTERS)) os_notIn (by rfl)) (sw_or1 (sn_tcmp (vr 0) (SndE.read (gl h.g_KEYWORDS)) os_in (by rfl))))))
  (sb_one (ss_ret sn_bl))
  sb_nil)
  (sb_one (ss_ret (cB hb (bu_all hm) (sl_rd (SndE.read (SndE.keep (lc hm [("char", 1)] (ivc 0) (tn 1) st_nil (sn_or (sn_cmp (vr 1) (SndE.read (gl h.g_LETTERS)) os_in (by rfl)) (sn_one (sn_cmp (vr 1) (SndE.read (gl h.g_DIGITS)) os_in (by rfl))))))) sl_nil)))))
/-! number_of -/
abbrev N_number_of : List Str := ["word", "char", "number"]
theorem sc_number_of : FnScope N_number_of ["word"] (defScope (topS 14)) := ⟨rfl, rfl, rfl, by decide +kernel, rfl, by decide +kernel, by decide +kernel⟩
def sh_number_of (cl : Calls) : FS :=
  (sCons (sIf (bOrT (bNotT (bTst (bChain kLt kLe (bC (D.int 0)) (bCall kLen (lCons (bVarR 0) lNil)) (bC (D.int 5))))) (bOrT (bNotT (bTru (bCall kAll (lCons (bComp [1] (iVarC 0) (tgName 1) cYes (bBin kIn (bVarR 1) (bC g_DIGITS))) lNil)))) (bAndT (bTst (bBin kEq (bBin kIx (bVarR 0) (bC (D.int 0))) (bC (D.str "0")))) (bTst (bBin kNe (bVarR 0) (bC (D.str "0")))))))
  (sRet (bC D.non))
  sNil)
  (sCons (sSet 2 (bCall kInt (lCons (bVarR 0) lNil)))
  (sCons (sIf (bTst (bBin kGt (bVarR 2) (bC g_GREATEST)))
  (sRet (bC D.non))
  sNil)
  (sRetV 2))))
theorem snd_number_of {M : Mo} (h : Stc M) (rt : Rt M) : SndB ⟨N_number_of, defScope (topS 14), none⟩ M (defBody (topS 14)) (sh_number_of M.cl) :=
  have hb := h.bn
  have hm := h.cold
  (sb_cons (ss_if (sn_tw (sw_or (sn_tnot (sn_tchain sn_int (cB hb bu_len (sl_rd (vr 0) sl_nil)) sn_int os_lt os_le)) (sw_or (sn_tnot (sn_tru (cB hb (bu_all hm) (sl_rd (SndE.read (SndE.keep (lc hm [("char", 1)] (ivc 0) (tn 1) st_nil (sn_cmp (vr 1) (SndE.read (gl h.g_DIGITS)) os_in (by rfl))))) sl_nil)))) (sw_or1 (sn_tw (sw_and (sn_tcmp (SndE.read (sn_ix (vr 0) sn_int)) sn_str os_eq (nomark _)) (sw_and1 (sn_tcmp (vr 0) sn_str os_ne (nomark _)))))))))
  (sb_one (ss_ret sn_non))
  sb_nil)
  (sb_cons (st 2 (cT hb bu_int (sl_rd (vr 0) sl_nil)))
  (sb_cons (ss_if (sn_tcmp (vr 2) (SndE.read (gl h.g_GREATEST)) os_gt (nomark _))
  (sb_one (ss_ret sn_non))
  sb_nil)
  (sb_one (rv 2)))))
/-! Cursor.__init__ -/
abbrev N_Cursor___init__ : List Str := ["self", "text"]
theorem sc_Cursor___init__ : FnScope N_Cursor___init__ ["self", "text"] (defScope (mS 15 0)) := ⟨rfl, rfl, rfl, by decide +kernel, rfl, by decide +kernel, by decide +kernel⟩
def sh_Cursor___init__ (cl : Calls) : FS :=
  (sCons (sFldD fc_words "words" (bVarR 0) (bIfE (bTst (bBin kNe (bVarR 1) (bC (D.str "")))) (bMethS kSplit (bVarR 1) (bC (D.str " "))) (bLst lNil)))
  (sFldD fc_at "at" (bVarR 0) (bC (D.int 0))))
theorem snd_Cursor___init__ {M : Mo} (h : Stc M) (rt : Rt M) : SndB ⟨N_Cursor___init__, defScope (mS 15 0), none⟩ M (defBody (mS 15 0)) (sh_Cursor___init__ M.cl) :=
  have hb := h.bn
  have hm := h.cold
  (sb_cons (ss_fld (vr 0) (SndE.keep (sn_ifE (sn_tcmp (vr 1) sn_str os_ne (nomark _)) (sn_split (vr 1) sn_str) (sn_lst (n := 0) sl_nil))) h.f_words)
  (sb_one (ss_fld (vr 0) sn_int h.f_at)))
/-! Cursor.word -/
abbrev N_Cursor_word : List Str := ["self"]
theorem sc_Cursor_word : FnScope N_Cursor_word ["self"] (defScope (mS 15 1)) := ⟨rfl, rfl, rfl, by decide +kernel, rfl, by decide +kernel, by decide +kernel⟩
def sh_Cursor_word (cl : Calls) : FS :=
  (sCons (sIf (bTst (bBin kLt (bAttr "at" (bVarR 0)) (bCall kLen (lCons (bAttr "words" (bVarR 0)) lNil))))
  (sRet (bBin kIx (bAttr "words" (bVarR 0)) (bAttr "at" (bVarR 0))))
  sNil)
  (sRet (bC (D.str ""))))
theorem snd_Cursor_word {M : Mo} (h : Stc M) (rt : Rt M) : SndB ⟨N_Cursor_word, defScope (mS 15 1), none⟩ M (defBody (mS 15 1)) (sh_Cursor_word M.cl) :=
  have hb := h.bn
  have hm := h.cold
  (sb_cons (ss_if (sn_tcmp (SndE.read (sn_attr (vr 0))) (cB hb bu_len (sl_rd (SndE.read (sn_attr (vr 0))) sl_nil)) os_lt (nomark _))
  (sb_one (ss_ret (sn_ix (SndE.read (sn_attr (vr 0))) (SndE.read (sn_attr (vr 0))))))
  sb_nil)
  (sb_one (ss_ret sn_str)))
/-! Cursor.fail -/
abbrev N_Cursor_fail : List Str := ["self"]
theorem sc_Cursor_fail : FnScope N_Cursor_fail ["self"] (defScope (mS 15 2)) := ⟨rfl, rfl, rfl, by decide +kernel, rfl, by decide +kernel, by decide +kernel⟩
def sh_Cursor_fail (cl : Calls) : FS :=
  (sRaise cl "BadText" (bAttr "at" (bVarR 0)))
theorem snd_Cursor_fail {M : Mo} (h : Stc M) (rt : Rt M) : SndB ⟨N_Cursor_fail, defScope (mS 15 2), none⟩ M (defBody (mS 15 2)) (sh_Cursor_fail M.cl) :=
  have hb := h.bn
  have hm := h.cold
  (sb_one (ss_raise hm rt.x_BadText (by decide +kernel) (sn_attr (vr 0))))
/-! Cursor.take -/
abbrev N_Cursor_take : List Str := ["self", "word"]
theorem sc_Cursor_take : FnScope N_Cursor_take ["self", "word"] (defScope (mS 15 3)) := ⟨rfl, rfl, rfl, by decide +kernel, rfl, by decide +kernel, by decide +kernel⟩
def sh_Cursor_take (cl : Calls) : FS :=
  (sCons (sIf (bTst (bBin kNe (bMeth0 cl tab_word "word" (bVarR 0)) (bVarR 1)))
  (sExpr (bMeth0 cl tab_fail "fail" (bVarR 0)))
  sNil)
  (sFldD fc_at "at" (bVarR 0) (bBin kAdd (bAttr "at" (bVarR 0)) (bC (D.int 1)))))
theorem snd_Cursor_take {M : Mo} (h : Stc M) (rt : Rt M) : SndB ⟨N_Cursor_take, defScope (mS 15 3), none⟩ M (defBody (mS 15 3)) (sh_Cursor_take M.cl) :=
  have hb := h.bn
  have hm := h.cold
  (sb_cons (ss_if (sn_tcmp (SndE.read (sn_meth0 hm (mt_word rt) (vr 0))) (vr 1) os_ne (nomark _))
  (sb_one (ss_expr (SndE.read (sn_meth0 hm (mt_fail rt) (vr 0)))))
  sb_nil)
  (sb_one (ss_fld (vr 0) (SndE.keep (sn_bin (SndE.read (sn_attr (vr 0))) sn_int os_add)) h.f_at)))
/-! Cursor.take_one -/
abbrev N_Cursor_take_one : List Str := ["self", "words", "word"]
theorem sc_Cursor_take_one : FnScope N_Cursor_take_one ["self", "words"] (defScope (mS 15 4)) := ⟨rfl, rfl, rfl, by decide +kernel, rfl, by decide +kernel, by decide +kernel⟩
def sh_Cursor_take_one (cl : Calls) : FS :=
  (sCons (sAsg (tgName 2) (bMeth0 cl tab_word "word" (bVarR 0)))
  (sCons (sIf (bTst (bBin kNotIn (bVarR 2) (bVarR 1)))
  (sExpr (bMeth0 cl tab_fail "fail" (bVarR 0)))
  sNil)
  (sCons (sFldD fc_at "at" (bVarR 0) (bBin kAdd (bAttr "at" (bVarR 0)) (bC (D.int 1))))
  (sRetV 2))))
theorem snd_Cursor_take_one {M : Mo} (h : Stc M) (rt : Rt M) : SndB ⟨N_Cursor_take_one, defScope (mS 15 4), none⟩ M (defBody (mS 15 4)) (sh_Cursor_take_one M.cl) :=
  have hb := h.bn
  have hm := h.cold
  (sb_cons (se 2 (sn_meth0 hm (mt_word rt) (vr 0)))
  (sb_cons (ss_if (sn_tcmp (vr 2) (vr 1) os_notIn (by rfl))
  (sb_one (ss_expr (SndE.read (sn_meth0 hm (mt_fail rt) (vr 0)))))
  sb_nil)
  (sb_cons (ss_fld (vr 0) (SndE.keep (sn_bin (SndE.read (sn_attr (vr 0))) sn_int os_add)) h.f_at)
  (sb_one (rv 2)))))
/-! Cursor.take_new -/
abbrev N_Cursor_take_new : List Str := ["self", "names", "word"]
theorem sc_Cursor_take_new : FnScope N_Cursor_take_new ["self", "names"] (defScope (mS 15 5)) := ⟨rfl, rfl, rfl, by decide +kernel, rfl, by decide +kernel, by decide +kernel⟩
def sh_Cursor_take_new (cl : Calls) : FS :=
  (sCons (sAsg (tgName 2) (bMeth0 cl tab_word "word" (bVarR 0)))
  (sCons (sIf (bOrT (bNotT (bTru (bDef cl "is_name" [.rd] (lCons (bVarR 2) lNil)))) (bTst (bBin kIn (bVarR 2) (bVarR 1))))
  (sExpr (bMeth0 cl tab_fail "fail" (bVarR 0)))
  sNil)
  (sCons (sFldD fc_at "at" (bVarR 0) (bBin kAdd (bAttr "at" (bVarR 0)) (bC (D.int 1))))
  (sRetV 2))))
theorem snd_Cursor_take_new {M : Mo} (h : Stc M) (rt : Rt M) : SndB ⟨N_Cursor_take_new, defScope (mS 15 5), none⟩ M (defBody (mS 15 5)) (sh_Cursor_take_new M.cl) :=
  have hb := h.bn
  have hm := h.cold
  (sb_cons (se 2 (sn_meth0 hm (mt_word rt) (vr 0)))
  (sb_cons (ss_if (sn_tw (sw_or (sn_tnot (sn_tru (SndE.read (cD (rt.fn "is_name" (by decide +kernel)) (sl_rd (vr 2) sl_nil))))) (sw_or1 (sn_tcmp (vr 2) (vr 1) os_in (by rfl)))))
  (sb_one (ss_expr (SndE.read (sn_meth0 hm (mt_fail rt) (vr 0)))))
  sb_nil)
  (sb_cons (ss_fld (vr 0) (SndE.keep (sn_bin (SndE.read (sn_attr (vr 0))) sn_int os_add)) h.f_at)
  (sb_one (rv 2)))))
/-! Cursor.take_number -/
abbrev N_Cursor_take_number : List Str := ["self", "least", "most", "number"]
theorem sc_Cursor_take_number : FnScope N_Cursor_take_number ["self", "least", "most"] (defScope (mS 15 6)) := ⟨rfl, rfl, rfl, by decide +kernel, rfl, by decide +kernel, by decide +kernel⟩
def sh_Cursor_take_number (cl : Calls) : FS :=
  (sCons (sAsg (tgName 3) (bDef cl "number_of" [.rd] (lCons (bMeth0 cl tab_word "word" (bVarR 0)) lNil)))
  (sCons (sIf (bOrT (bTst (bIsN (bVarR 3))) (bNotT (bTst (bChain kLe kLe (bVarR 1) (bVarR 3) (bVarR 2)))))
  (sExpr (bMeth0 cl tab_fail "fail" (bVarR 0)))
  sNil)
  (sCons (sFldD fc_at "at" (bVarR 0) (bBin kAdd (bAttr "at" (bVarR 0)) (bC (D.int 1))))
  (sRetV 3))))
theorem snd_Cursor_take_number {M : Mo} (h : Stc M) (rt : Rt M) : SndB ⟨N_Cursor_take_number, defScope (mS 15 6), none⟩ M (defBody (mS 15 6)) (sh_Cursor_take_number M.cl) :=
  have hb := h.bn
  have hm := h.cold
  (sb_cons (se 3 (cD (rt.fn "number_of" (by decide +kernel)) (sl_rd (SndE.read (sn_meth0 hm (mt_word rt) (vr 0))) sl_nil)))
  (sb_cons (ss_if (sn_tw (sw_or (sn_tisN (vr 3)) (sw_or1 (sn_tnot (sn_tchain (vr 1) (vr 3) (vr 2) os_le os_le)))))
  (sb_one (ss_expr (SndE.read (sn_meth0 hm (mt_fail rt) (vr 0)))))
  sb_nil)
  (sb_cons (ss_fld (vr 0) (SndE.keep (sn_bin (SndE.read (sn_attr (vr 0))) sn_int os_add)) h.f_at)
  (sb_one (rv 3)))))
/-! Outsider.__init__ -/
abbrev N_Outsider___init__ : List Str := ["self", "rules"]
theorem sc_Outsider___init__ : FnScope N_Outsider___init__ ["self", "rules"] (defScope (mS 20 0)) := ⟨rfl, rfl, rfl, by decide +kernel, rfl, by decide +kernel, by decide +kernel⟩
def sh_Outsider___init__ (cl : Calls) : FS :=
  (sFldD fc_rules "rules" (bVarR 0) (bCall kTuple (lCons (bVarR 1) lNil)))
theorem snd_Outsider___init__ {M : Mo} (h : Stc M) (rt : Rt M) : SndB ⟨N_Outsider___init__, defScope (mS 20 0), none⟩ M (defBody (mS 20 0)) (sh_Outsider___init__ M.cl) :=
  have hb := h.bn
  have hm := h.cold
  (sb_one (ss_fld (vr 0) (cT hb bu_tuple (sl_rd (vr 1) sl_nil)) h.f_rules))
/-! Outsider.__eq__ -/
abbrev N_Outsider___eq__ : List Str := ["self", "other"]
theorem sc_Outsider___eq__ : FnScope N_Outsider___eq__ ["self", "other"] (defScope (mS 20 1)) := ⟨rfl, rfl, rfl, by decide +kernel, rfl, by decide +kernel, by decide +kernel⟩
def sh_Outsider___eq__ (cl : Calls) : FS :=
  (sRet (bAndV (bIsC mi_Outsider (bVarR 1)) (bBin kEq (bAttr "rules" (bVarR 0)) (bAttr "rules" (bVarR 1)))))
theorem snd_Outsider___eq__ {M : Mo} (h : Stc M) (rt : Rt M) : SndB ⟨N_Outsider___eq__, defScope (mS 20 1), none⟩ M (defBody (mS 20 1)) (sh_Outsider___eq__ M.cl) :=
  have hb := h.bn
  have hm := h.cold
  (sb_one (ss_ret (sn_and (isc hb h.i_Outsider (vr 1)) (sn_one (sn_cmp (SndE.read (sn_attr (vr 0))) (SndE.read (sn_attr (vr 1))) os_eq (nomark _))))))
/-! read_outsider -/
abbrev N_read_outsider : List Str := ["text", "cursor", "rules", "test"]
theorem sc_read_outsider : FnScope N_read_outsider ["text"] (defScope (topS 21)) := ⟨rfl, rfl, rfl, by decide +kernel, rfl, by decide +kernel, by decide +kernel⟩
def lb_read_outsider_0 (cl : Calls) : FS :=
  (sCons (sExpr (bMeth cl tab_take "take" (bVarR 1) [.rd] (lCons (bC (D.str "when")) lNil)))
  (sCons (sAsg (tgName 3) (bDef cl "read_sight" [.rd, .rd] (lCons (bVarR 1) (lCons (bC (D.int 8)) lNil))))
  (sApp 2 (bTup (lCons (bVar 3) (lCons (bDef cl "read_deed" [.rd] (lCons (bVarR 1) lNil)) (lCons (bDef cl "read_sight" [.rd, .rd] (lCons (bVarR 1) (lCons (bC (D.int 8)) lNil))) lNil)))))))
def sh_read_outsider (cl : Calls) : FS :=
  (sCons (sAsg (tgName 1) (bMk cl "Cursor" [.rd] (lCons (bVarR 0) lNil) []))
  (sCons (sSet 2 (bLst lNil))
  (sCons (sWh (bAndT (bTst (bBin kEq (bMeth0 cl tab_word "word" (bVarR 1)) (bC (D.str "when")))) (bTst (bBin kLt (bCall kLen (lCons (bVarR 2) lNil)) (bC g_MOST_RULES))))
  (lb_read_outsider_0 cl))
  (sCons (sIf (bTst (bBin kLt (bAttr "at" (bVarR 1)) (bCall kLen (lCons (bAttr "words" (bVarR 1)) lNil))))
  (sExpr (bMeth0 cl tab_fail "fail" (bVarR 1)))
  sNil)
  (sRet (bMk cl "Outsider" [.rd] (lCons (bVarR 2) lNil) []))))))
theorem snd_read_outsider {M : Mo} (h : Stc M) (rt : Rt M) : SndB ⟨N_read_outsider, defScope (topS 21), none⟩ M (defBody (topS 21)) (sh_read_outsider M.cl) :=
  have hb := h.bn
  have hm := h.cold
  (sb_cons (se 1 (mk hm rt.k_Cursor (sl_rd (vr 0) sl_nil)))
  (sb_cons (st 2 (sn_lst (n := 0) sl_nil))
  (sb_cons (ss_wh (sn_tw (sw_and (sn_tcmp (SndE.read (sn_meth0 hm (mt_word rt) (vr 1))) sn_str os_eq (nomark _)) (sw_and1 (sn_tcmp (cB hb bu_len (sl_rd (vr 2) sl_nil)) (SndE.read (gl h.g_MOST_RULES)) os_lt (nomark _)))))
  (sb_cons (ss_expr (SndE.read (sn_meth hm (mt_take rt) (vr 1) (sl_rd sn_str sl_nil))))
  (sb_cons (se 3 (cD (rt.fn "read_sight" (by decide +kernel)) (sl_rd (vr 1) (sl_rd sn_int sl_nil))))
  (sb_one (sap 2 (sn_tup (n := 3) (sl_esc (v1 3) (sl_esc (cD (rt.fn "read_deed" (by decide +kernel)) (sl_rd (vr 1) sl_nil)) (sl_esc (cD (rt.fn "read_sight" (by decide +kernel)) (sl_rd (vr 1) (sl_rd sn_int sl_nil))) sl_nil)))))))))
  (sb_cons (ss_if (sn_tcmp (SndE.read (sn_attr (vr 1))) (cB hb bu_len (sl_rd (SndE.read (sn_attr (vr 1))) sl_nil)) os_lt (nomark _))
  (sb_one (ss_expr (SndE.read (sn_meth0 hm (mt_fail rt) (vr 1)))))
  sb_nil)
  (sb_one (ss_ret (mk hm rt.k_Outsider (sl_rd (vr 2) sl_nil))))))))
/-! read_deed -/
abbrev N_read_deed : List Str := ["cursor", "kind", "contract", "proc"]
theorem sc_read_deed : FnScope N_read_deed ["cursor"] (defScope (topS 22)) := ⟨rfl, rfl, rfl, by decide +kernel, rfl, by decide +kernel, by decide +kernel⟩
def sh_read_deed (cl : Calls) : FS :=
  (sCons (sAsg (tgName 1) (bMeth cl tab_take_one "take_one" (bVarR 0) [.rd] (lCons (bTup (lCons (bC (D.str "call")) (lCons (bC (D.str "answer")) lNil))) lNil)))
  (sCons (sIf (bTst (bBin kEq (bVarR 1) (bC (D.str "answer"))))
  (sRet (bTup (lCons (bC (D.str "answer")) (lCons (bDef cl "read_sight" [.rd, .rd] (lCons (bVarR 0) (lCons (bC (D.int 8)) lNil))) lNil))))
  sNil)
  (sCons (sAsg (tgName 2) (bMeth cl tab_take_new "take_new" (bVarR 0) [.rd] (lCons (bTup lNil) lNil)))
  (sCons (sAsg (tgName 3) (bMeth cl tab_take_new "take_new" (bVarR 0) [.rd] (lCons (bTup lNil) lNil)))
  (sRet (bTup (lCons (bC (D.str "call")) (lCons (bVar 2) (lCons (bVar 3) (lCons (bDef cl "read_sight" [.rd, .rd] (lCons (bVarR 0) (lCons (bC (D.int 8)) lNil))) lNil))))))))))
theorem snd_read_deed {M : Mo} (h : Stc M) (rt : Rt M) : SndB ⟨N_read_deed, defScope (topS 22), none⟩ M (defBody (topS 22)) (sh_read_deed M.cl) :=
  have hb := h.bn
  have hm := h.cold
  (sb_cons (se 1 (sn_meth hm (mt_take_one rt) (vr 0) (sl_rd (sn_tup (n := 2) (sl_esc sn_str (sl_esc sn_str sl_nil))) sl_nil)))
  (sb_cons (ss_if (sn_tcmp (vr 1) sn_str os_eq (nomark _))
  (sb_one (ss_ret (sn_tup (n := 2) (sl_esc sn_str (sl_esc (cD (rt.fn "read_sight" (by decide +kernel)) (sl_rd (vr 0) (sl_rd sn_int sl_nil))) sl_nil)))))
  sb_nil)
  (sb_cons (se 2 (sn_meth hm (mt_take_new rt) (vr 0) (sl_rd (sn_tup (n := 0) sl_nil) sl_nil)))
  (sb_cons (se 3 (sn_meth hm (mt_take_new rt) (vr 0) (sl_rd (sn_tup (n := 0) sl_nil) sl_nil)))
  (sb_one (ss_ret (sn_tup (n := 4) (sl_esc sn_str (sl_esc (v1 2) (sl_esc (v1 3) (sl_esc (cD (rt.fn "read_sight" (by decide +kernel)) (sl_rd (vr 0) (sl_rd sn_int sl_nil))) sl_nil)))))))))))
/-! read_sight -/
abbrev N_read_sight : List Str := ["cursor", "room", "word", "left"]
theorem sc_read_sight : FnScope N_read_sight ["cursor", "room"] (defScope (topS 23)) := ⟨rfl, rfl, rfl, by decide +kernel, rfl, by decide +kernel, by decide +kernel⟩
def sh_read_sight (cl : Calls) : FS :=
  (sCons (sAsg (tgName 2) (bMeth0 cl tab_word "word" (bVarR 0)))
  (sCons (sIf (bAndT (bTst (bBin kIn (bVarR 2) (bC g_SIGNS))) (bTst (bBin kGt (bVarR 1) (bC (D.int 1)))))
  (sCons (sExpr (bMeth cl tab_take "take" (bVarR 0) [.rd] (lCons (bVarR 2) lNil)))
  (sCons (sAsg (tgName 3) (bDef cl "read_sight" [.rd, .rd] (lCons (bVarR 0) (lCons (bBin kSub (bVarR 1) (bC (D.int 1))) lNil))))
  (sRet (bTup (lCons (bVar 2) (lCons (bVar 3) (lCons (bDef cl "read_sight" [.rd, .rd] (lCons (bVarR 0) (lCons (bBin kSub (bVarR 1) (bC (D.int 1))) lNil))) lNil)))))))
  sNil)
  (sCons (sIf (bTst (bBin kIn (bVarR 2) (bC g_SEEN)))
  (sCons (sExpr (bMeth cl tab_take "take" (bVarR 0) [.rd] (lCons (bVarR 2) lNil)))
  (sRet (bTup (lCons (bVar 2) lNil))))
  sNil)
  (sRet (bTup (lCons (bC (D.str "number")) (lCons (bMeth cl tab_take_number "take_number" (bVarR 0) [.rd, .rd] (lCons (bC (D.int 0)) (lCons (bC g_GREATEST) lNil))) lNil)))))))
theorem snd_read_sight {M : Mo} (h : Stc M) (rt : Rt M) : SndB ⟨N_read_sight, defScope (topS 23), none⟩ M (defBody (topS 23)) (sh_read_sight M.cl) :=
  have hb := h.bn
  have hm := h.cold
  (sb_cons (se 2 (sn_meth0 hm (mt_word rt) (vr 0)))
  (sb_cons (ss_if (sn_tw (sw_and (sn_tcmp (vr 2) (SndE.read (gl h.g_SIGNS)) os_in (by rfl)) (sw_and1 (sn_tcmp (vr 1) sn_int os_gt (nomark _)))))
  (sb_cons (ss_expr (SndE.read (sn_meth hm (mt_take rt) (vr 0) (sl_rd (vr 2) sl_nil))))
  (sb_cons (se 3 (cD (rt.fn "read_sight" (by decide +kernel)) (sl_rd (vr 0) (sl_rd (sn_bin (vr 1) sn_int os_sub) sl_nil))))
  (sb_one (ss_ret (sn_tup (n := 3) (sl_esc (v1 2) (sl_esc (v1 3) (sl_esc (cD (rt.fn "read_sight" (by decide +kernel)) (sl_rd (vr 0) (sl_rd (sn_bin (vr 1) sn_int os_sub) sl_nil))) sl_nil))))))))
  sb_nil)
  (sb_cons (ss_if (sn_tcmp (vr 2) (SndE.read (gl h.g_SEEN)) os_in (by rfl))
  (sb_cons (ss_expr (SndE.read (sn_meth hm (mt_take rt) (vr 0) (sl_rd (vr 2) sl_nil))))
  (sb_one (ss_ret (sn_tup (n := 1) (sl_esc (v1 2) sl_nil)))))
  sb_nil)
  (sb_one (ss_ret (sn_tup (n := 2) (sl_esc sn_str (sl_esc (sn_meth hm (mt_take_number rt) (vr 0) (sl_rd sn_int (sl_rd (SndE.read (gl h.g_GREATEST)) sl_nil))) sl_nil))))))))
/-! sight_words -/
abbrev N_sight_words : List Str := ["sight"]
theorem sc_sight_words : FnScope N_sight_words ["sight"] (defScope (topS 24)) := ⟨rfl, rfl, rfl, by decide +kernel, rfl, by decide +kernel, by decide +kernel⟩
def sh_sight_words (cl : Calls) : FS :=
  (sCons (sIf (bTst (bBin kEq (bBin kIx (bVarR 0) (bC (D.int 0))) (bC (D.str "number"))))
  (sRet (bLst (lCons (bCall kStr (lCons (bBin kIx (bVarR 0) (bC (D.int 1))) lNil)) lNil)))
  sNil)
  (sCons (sIf (bTst (bBin kEq (bCall kLen (lCons (bVarR 0) lNil)) (bC (D.int 1))))
  (sRet (bLst (lCons (bBin kIx (bVarR 0) (bC (D.int 0))) lNil)))
  sNil)
  (sRet (bBin kAdd (bBin kAdd (bLst (lCons (bBin kIx (bVarR 0) (bC (D.int 0))) lNil)) (bDef cl "sight_words" [.rd] (lCons (bBin kIx (bVarR 0) (bC (D.int 1))) lNil))) (bDef cl "sight_words" [.rd] (lCons (bBin kIx (bVarR 0) (bC (D.int 2))) lNil))))))
theorem snd_sight_words {M : Mo} (h : Stc M) (rt : Rt M) : SndB ⟨N_sight_words, defScope (topS 24), none⟩ M (defBody (topS 24)) (sh_sight_words M.cl) :=
  have hb := h.bn
  have hm := h.cold
  (sb_cons (ss_if (sn_tcmp (SndE.read (sn_ix (vr 0) sn_int)) sn_str os_eq (nomark _))
  (sb_one (ss_ret (SndE.keep (sn_lst (n := 1) (sl_esc (cT hb bu_str (sl_rd (SndE.read (sn_ix (vr 0) sn_int)) sl_nil)) sl_nil)))))
  sb_nil)
  (sb_cons (ss_if (sn_tcmp (cB hb bu_len (sl_rd (vr 0) sl_nil)) sn_int os_eq (nomark _))
  (sb_one (ss_ret (SndE.keep (sn_lst (n := 1) (sl_esc (sn_ix (vr 0) sn_int) sl_nil)))))
  sb_nil)
  (sb_one (ss_ret (SndE.keep (sn_bin (SndE.read (SndE.keep (sn_bin (SndE.read (SndE.keep (sn_lst (n := 1) (sl_esc (sn_ix (vr 0) sn_int) sl_nil)))) (SndE.read (cD (rt.fn "sight_words" (by decide +kernel)) (sl_rd (SndE.read (sn_ix (vr 0) sn_int)) sl_nil))) os_add))) (SndE.read (cD (rt.fn "sight_words" (by decide +kernel)) (sl_rd (SndE.read (sn_ix (vr 0) sn_int)) sl_nil))) os_add))))))
/-! outsider_text -/
abbrev N_outsider_text : List Str := ["outsider", "words", "test", "deed", "cell"]
theorem sc_outsider_text : FnScope N_outsider_text ["outsider"] (defScope (topS 25)) := ⟨rfl, rfl, rfl, by decide +kernel, rfl, by decide +kernel, by decide +kernel⟩
def lb_outsider_text_0 (cl : Calls) : FS :=
  (sExt 1 (bBin kAdd (bBin kAdd (bBin kAdd (bBin kAdd (bLst (lCons (bC (D.str "when")) lNil)) (bDef cl "sight_words" [.rd] (lCons (bVarR 2) lNil))) (bCall kList (lCons (bSl (bVarR 3) oNone (oSome (bNeg (bC (D.int 1))))) lNil))) (bDef cl "sight_words" [.rd] (lCons (bBin kIx (bVarR 3) (bNeg (bC (D.int 1)))) lNil))) (bDef cl "sight_words" [.rd] (lCons (bVarR 4) lNil))))
def sh_outsider_text (cl : Calls) : FS :=
  (sCons (sSet 1 (bLst lNil))
  (sCons (sFor (iSeq (bAttr "rules" (bVarR 0))) (tgTup (tgCons (tgName 2) (tgCons (tgName 3) (tgCons (tgName 4) tgNil))))
  (lb_outsider_text_0 cl))
  (sRet (bMethS kJoin (bC (D.str " ")) (bVarR 1)))))
theorem snd_outsider_text {M : Mo} (h : Stc M) (rt : Rt M) : SndB ⟨N_outsider_text, defScope (topS 25), none⟩ M (defBody (topS 25)) (sh_outsider_text M.cl) :=
  have hb := h.bn
  have hm := h.cold
  (sb_cons (st 1 (sn_lst (n := 0) sl_nil))
  (sb_cons (ss_for hm (si_seq (sn_attr (vr 0))) (sg_tup hm (sgs_cons (tn 2) (sgs_cons (tn 3) (sgs_cons (tn 4) sgs_nil))) (tgCons_len (tgCons_len (tgCons_len tgNil_len))))
  (sb_one (sxt 1 (SndE.read (SndE.keep (sn_bin (SndE.read (SndE.keep (sn_bin (SndE.read (SndE.keep (sn_bin (SndE.read (SndE.keep (sn_bin (SndE.read (SndE.keep (sn_lst (n := 1) (sl_esc sn_str sl_nil)))) (SndE.read (cD (rt.fn "sight_words" (by decide +kernel)) (sl_rd (vr 2) sl_nil))) os_add))) (SndE.read (SndE.keep (cT hb bu_list (sl_rd (SndE.read (SndE.keep (sn_sl (vr 3) so_none (so_some (sn_neg sn_int))))) sl_nil)))) os_add))) (SndE.read (cD (rt.fn "sight_words" (by decide +kernel)) (sl_rd (SndE.read (sn_ix (vr 3) (sn_neg sn_int))) sl_nil))) os_add))) (SndE.read (cD (rt.fn "sight_words" (by decide +kernel)) (sl_rd (vr 4) sl_nil))) os_add))))))
  (sb_one (ss_ret (sn_join sn_str (vr 1))))))
/-! law_pool -/
abbrev N_law_pool : List Str := ["_law_script", "_law_budget"]
theorem sc_law_pool : FnScope N_law_pool ["_law_script", "_law_budget"] (defScope (topS 27)) := ⟨rfl, rfl, rfl, by decide +kernel, rfl, by decide +kernel, by decide +kernel⟩
def sh_law_pool (cl : Calls) : FS :=
  (sRet (bRef (bLst (lCons (bCall kList (lCons (bVarR 0) lNil)) (lCons (bC (D.int 0)) (lCons (bC (D.int 0)) (lCons (bC (D.int 1)) (lCons (bC (D.int 0)) (lCons (bVar 1) lNil)))))))))
theorem snd_law_pool {M : Mo} (h : Stc M) (rt : Rt M) : SndB ⟨N_law_pool, defScope (topS 27), none⟩ M (defBody (topS 27)) (sh_law_pool M.cl) :=
  have hb := h.bn
  have hm := h.cold
  (sb_one (ss_ret (sn_ref (sn_lst (n := 6) (sl_esc (SndE.keep (cT hb bu_list (sl_rd (vr 0) sl_nil))) (sl_esc sn_int (sl_esc sn_int (sl_esc sn_int (sl_esc sn_int (sl_esc (v1 1) sl_nil))))))))))
/-! law_draw -/
abbrev N_law_draw : List Str := ["_law_pool_here", "_law_size", "_law_cell", "_law_value"]
theorem sc_law_draw : FnScope N_law_draw ["_law_pool_here", "_law_size"] (defScope (topS 28)) := ⟨rfl, rfl, rfl, by decide +kernel, rfl, by decide +kernel, by decide +kernel⟩
def sh_law_draw (cl : Calls) : FS :=
  (sCons (sIf (bAndT (bTst (bBin kLe (bBin kIx (bVarR 0) (bC (D.int 2))) (bC (D.int 0)))) (bAndT (bTst (bBin kLe (bBin kIx (bVarR 0) (bC (D.int 4))) (bC (D.int 0)))) (bTst (bBin kLt (bBin kIx (bVarR 0) (bC (D.int 1))) (bCall kLen (lCons (bBin kIx (bVarR 0) (bC (D.int 0))) lNil))))))
  (sCons (sAsg (tgName 2) (bBin kIx (bBin kIx (bVarR 0) (bC (D.int 0))) (bBin kIx (bVarR 0) (bC (D.int 1)))))
  (sCons (sSetC (bVarR 0) (bC (D.int 1)) (bBin kAdd (bBin kIx (bVarR 0) (bC (D.int 1))) (bC (D.int 1))))
  (sCons (sSetC (bVarR 0) (bC (D.int 3)) (bBin kMod (bCall kInt (lCons (bBin kAdd (bBin kMulL (bBin kIx (bVarR 0) (bC (D.int 3))) (bC (D.int 31))) (bVarR 2)) lNil)) (bC (D.int 2147483647))))
  (sCons (sSetC (bVarR 0) (bC (D.int 4)) (bC (D.int 7)))
  (sIf (bTst (bBin kGe (bVarR 2) (bBin kPow (bC (D.int 10)) (bC (D.int 18)))))
  (sSetC (bVarR 0) (bC (D.int 2)) (bVar 2))
  sNil)))))
  sNil)
  (sCons (sIf (bTst (bBin kGt (bBin kIx (bVarR 0) (bC (D.int 2))) (bC (D.int 0))))
  (sCons (sSet 3 (bBin kMod (bCall kInt (lCons (bBin kIx (bVarR 0) (bC (D.int 2))) lNil)) (bVarR 1)))
  (sCons (sSetC (bVarR 0) (bC (D.int 2)) (bBin kFdiv (bBin kIx (bVarR 0) (bC (D.int 2))) (bVarR 1)))
  (sCons (sSetC (bVarR 0) (bC (D.int 4)) (bC (D.int 0)))
  (sRetV 3))))
  sNil)
  (sCons (sSetC (bVarR 0) (bC (D.int 4)) (bBin kSub (bBin kIx (bVarR 0) (bC (D.int 4))) (bC (D.int 1))))
  (sCons (sSetC (bVarR 0) (bC (D.int 3)) (bBin kMod (bCall kInt (lCons (bBin kAdd (bBin kMulL (bBin kIx (bVarR 0) (bC (D.int 3))) (bC (D.int 48271))) (bC (D.int 12345))) lNil)) (bC (D.int 2147483647))))
  (sRet (bBin kMod (bBin kMod (bCall kInt (lCons (bBin kAdd (bBin kMulL (bBin kIx (bVarR 0) (bC (D.int 3))) (bC (D.int 69621))) (bC (D.int 7919))) lNil)) (bC (D.int 2147483647))) (bVarR 1)))))))
theorem snd_law_draw {M : Mo} (h : Stc M) (rt : Rt M) : SndB ⟨N_law_draw, defScope (topS 28), none⟩ M (defBody (topS 28)) (sh_law_draw M.cl) :=
  have hb := h.bn
  have hm := h.cold
  (sb_cons (ss_if (sn_tw (sw_and (sn_tcmp (SndE.read (sn_ix (vr 0) sn_int)) sn_int os_le (nomark _)) (sw_and (sn_tcmp (SndE.read (sn_ix (vr 0) sn_int)) sn_int os_le (nomark _)) (sw_and1 (sn_tcmp (SndE.read (sn_ix (vr 0) sn_int)) (cB hb bu_len (sl_rd (SndE.read (sn_ix (vr 0) sn_int)) sl_nil)) os_lt (nomark _))))))
  (sb_cons (se 2 (sn_ix (SndE.read (sn_ix (vr 0) sn_int)) (SndE.read (sn_ix (vr 0) sn_int))))
  (sb_cons (ss_setC (vr 0) sn_int (SndE.keep (sn_bin (SndE.read (sn_ix (vr 0) sn_int)) sn_int os_add)))
  (sb_cons (ss_setC (vr 0) sn_int (sn_bin (cT hb bu_int (sl_rd (SndE.read (SndE.keep (sn_bin (SndE.read (SndE.keep (sn_bin (SndE.read (sn_ix (vr 0) sn_int)) sn_int os_mulL))) (vr 2) os_add))) sl_nil)) sn_int os_mod))
  (sb_cons (ss_setC (vr 0) sn_int sn_int)
  (sb_one (ss_if (sn_tcmp (vr 2) (sn_bin sn_int sn_int os_pow) os_ge (nomark _))
  (sb_one (ss_setC (vr 0) sn_int (v1 2)))
  sb_nil))))))
  sb_nil)
  (sb_cons (ss_if (sn_tcmp (SndE.read (sn_ix (vr 0) sn_int)) sn_int os_gt (nomark _))
  (sb_cons (st 3 (sn_bin (cT hb bu_int (sl_rd (SndE.read (sn_ix (vr 0) sn_int)) sl_nil)) (vr 1) os_mod))
  (sb_cons (ss_setC (vr 0) sn_int (sn_bin (SndE.read (sn_ix (vr 0) sn_int)) (vr 1) os_fdiv))
  (sb_cons (ss_setC (vr 0) sn_int sn_int)
  (sb_one (rv 3)))))
  sb_nil)
  (sb_cons (ss_setC (vr 0) sn_int (sn_bin (SndE.read (sn_ix (vr 0) sn_int)) sn_int os_sub))
  (sb_cons (ss_setC (vr 0) sn_int (sn_bin (cT hb bu_int (sl_rd (SndE.read (SndE.keep (sn_bin (SndE.read (SndE.keep (sn_bin (SndE.read (sn_ix (vr 0) sn_int)) sn_int os_mulL))) sn_int os_add))) sl_nil)) sn_int os_mod))
  (sb_one (ss_ret (sn_bin (sn_bin (cT hb bu_int (sl_rd (SndE.read (SndE.keep (sn_bin (SndE.read (SndE.keep (sn_bin (SndE.read (sn_ix (vr 0) sn_int)) sn_int os_mulL))) sn_int os_add))) sl_nil)) sn_int os_mod) (vr 1) os_mod)))))))
/-! law_same -/
abbrev N_law_same : List Str := ["_law_actual", "_law_due", "_law_k"]
theorem sc_law_same : FnScope N_law_same ["_law_actual", "_law_due"] (defScope (topS 29)) := ⟨rfl, rfl, rfl, by decide +kernel, rfl, by decide +kernel, by decide +kernel⟩
def lb_law_same_0 (cl : Calls) : FS :=
  (sIf (bNotT (bTru (bDef cl "_law_same" [.rd, .rd] (lCons (bBin kIx (bVarR 0) (bVarR 2)) (lCons (bBin kIx (bVarR 1) (bVarR 2)) lNil)))))
  (sRet (bC (D.bl false)))
  sNil)
def sh_law_same (cl : Calls) : FS :=
  (sCons (sIf (bOrT (bTru (bIsi "tuple" (bVarR 1))) (bTru (bIsi "list" (bVarR 1))))
  (sCons (sIf (bOrT (bTst (bBin kNe (bIsi "tuple" (bVarR 1)) (bIsi "tuple" (bVarR 0)))) (bTst (bBin kNe (bIsi "list" (bVarR 1)) (bIsi "list" (bVarR 0)))))
  (sRet (bC (D.bl false)))
  sNil)
  (sCons (sIf (bTst (bBin kNe (bCall kLen (lCons (bVarR 0) lNil)) (bCall kLen (lCons (bVarR 1) lNil))))
  (sRet (bC (D.bl false)))
  sNil)
  (sCons (sFor (iRng1D (bCall kLen (lCons (bVarR 1) lNil))) (tgName 2)
  (lb_law_same_0 cl))
  (sRet (bC (D.bl true))))))
  sNil)
  (sCons (sIf (bOrT (bTst (bIsN (bVarR 1))) (bTru (bIsi "bool" (bVarR 1))))
  (sRet (bAndV (bBin kEq (bIsN (bVarR 0)) (bIsN (bVarR 1))) (bAndV (bOrV (bIsN (bVarR 1)) (bIsi "bool" (bVarR 0))) (bBin kEq (bVarR 0) (bVarR 1)))))
  sNil)
  (sCons (sIf (bTru (bIsi "int" (bVarR 1)))
  (sRet (bAndV (bIsi "int" (bVarR 0)) (bAndV (bNotV (bIsi "bool" (bVarR 0))) (bBin kEq (bVarR 0) (bVarR 1)))))
  sNil)
  (sRet (bAndV (bIsi "str" (bVarR 0)) (bBin kEq (bVarR 0) (bVarR 1)))))))
theorem snd_law_same {M : Mo} (h : Stc M) (rt : Rt M) : SndB ⟨N_law_same, defScope (topS 29), none⟩ M (defBody (topS 29)) (sh_law_same M.cl) :=
  have hb := h.bn
  have hm := h.cold
  (sb_cons (ss_if (sn_tw (sw_or (sn_tru (isi hb (vr 1))) (sw_or1 (sn_tru (isi hb (vr 1))))))
  (sb_cons (ss_if (sn_tw (sw_or (sn_tcmp (isi hb (vr 1)) (isi hb (vr 0)) os_ne (nomark _)) (sw_or1 (sn_tcmp (isi hb (vr 1)) (isi hb (vr 0)) os_ne (nomark _)))))
  (sb_one (ss_ret sn_bl))
  sb_nil)
  (sb_cons (ss_if (sn_tcmp (cB hb bu_len (sl_rd (vr 0) sl_nil)) (cB hb bu_len (sl_rd (vr 1) sl_nil)) os_ne (nomark _))
  (sb_one (ss_ret sn_bl))
  sb_nil)
  (sb_cons (ss_for hm (rg1 hb (cB hb bu_len (sl_rd (vr 1) sl_nil))) (tn 2)
  (sb_one (ss_if (sn_tnot (sn_tru (SndE.read (cD (rt.fn "_law_same" (by decide +kernel)) (sl_rd (SndE.read (sn_ix (vr 0) (vr 2))) (sl_rd (SndE.read (sn_ix (vr 1) (vr 2))) sl_nil))))))
  (sb_one (ss_ret sn_bl))
  sb_nil)))
  (sb_one (ss_ret sn_bl)))))
  sb_nil)
  (sb_cons (ss_if (sn_tw (sw_or (sn_tisN (vr 1)) (sw_or1 (sn_tru (isi hb (vr 1))))))
  (sb_one (ss_ret (sn_and (sn_cmp (sn_isN (vr 0)) (sn_isN (vr 1)) os_eq (nomark _)) (sn_and (SndE.read (sn_or (sn_isN (vr 1)) (sn_one (isi hb (vr 0))))) (sn_one (sn_cmp (vr 0) (vr 1) os_eq (nomark _)))))))
  sb_nil)
  (sb_cons (ss_if (sn_tru (isi hb (vr 1)))
  (sb_one (ss_ret (sn_and (isi hb (vr 0)) (sn_and (sn_not (isi hb (vr 0))) (sn_one (sn_cmp (vr 0) (vr 1) os_eq (nomark _)))))))
  sb_nil)
  (sb_one (ss_ret (sn_and (isi hb (vr 0)) (sn_one (sn_cmp (vr 0) (vr 1) os_eq (nomark _)))))))))
def sh_law_same_h (cl : Calls) : FS :=
  (sCons (sIf (bOrT (bTru (bIsi "tuple" (bVarR 1))) (bTru (bIsi "list" (bVarR 1))))
  (sCons (sIf (bOrT (bTst (bBin kNe (bIsi "tuple" (bVarR 1)) (bIsi "tuple" (bVarR 0)))) (bTst (bBin kNe (bIsi "list" (bVarR 1)) (bIsi "list" (bVarR 0)))))
  (sRet (bC (D.bl false)))
  sNil)
  (sCons (sIf (bTst (bBin kNe (bCall kLen (lCons (bVarR 0) lNil)) (bCall kLen (lCons (bVarR 1) lNil))))
  (sRet (bC (D.bl false)))
  sNil)
  (sCons sStk
  (sRet (bC (D.bl true))))))
  sNil)
  (sCons (sIf (bOrT (bTst (bIsN (bVarR 1))) (bTru (bIsi "bool" (bVarR 1))))
  (sRet (bAndV (bBin kEq (bIsN (bVarR 0)) (bIsN (bVarR 1))) (bAndV (bOrV (bIsN (bVarR 1)) (bIsi "bool" (bVarR 0))) (bBin kEq (bVarR 0) (bVarR 1)))))
  sNil)
  (sCons (sIf (bTru (bIsi "int" (bVarR 1)))
  (sRet (bAndV (bIsi "int" (bVarR 0)) (bAndV (bNotV (bIsi "bool" (bVarR 0))) (bBin kEq (bVarR 0) (bVarR 1)))))
  sNil)
  (sRet (bAndV (bIsi "str" (bVarR 0)) (bBin kEq (bVarR 0) (bVarR 1)))))))
theorem sndH_law_same {M : Mo} (h : StcH M) (rt : RtH M) : SndB ⟨N_law_same, defScope (topS 29), none⟩ M (defBody (topS 29)) (sh_law_same_h M.cl) :=
  have hb := h.bn
  (sb_cons (ss_if (sn_tw (sw_or (sn_tru (isi hb (vr 1))) (sw_or1 (sn_tru (isi hb (vr 1))))))
  (sb_cons (ss_if (sn_tw (sw_or (sn_tcmp (isi hb (vr 1)) (isi hb (vr 0)) os_ne (nomark _)) (sw_or1 (sn_tcmp (isi hb (vr 1)) (isi hb (vr 0)) os_ne (nomark _)))))
  (sb_one (ss_ret sn_bl))
  sb_nil)
  (sb_cons (ss_if (sn_tcmp (cB hb bu_len (sl_rd (vr 0) sl_nil)) (cB hb bu_len (sl_rd (vr 1) sl_nil)) os_ne (nomark _))
  (sb_one (ss_ret sn_bl))
  sb_nil)
  (sb_cons ss_stk
  (sb_one (ss_ret sn_bl)))))
  sb_nil)
  (sb_cons (ss_if (sn_tw (sw_or (sn_tisN (vr 1)) (sw_or1 (sn_tru (isi hb (vr 1))))))
  (sb_one (ss_ret (sn_and (sn_cmp (sn_isN (vr 0)) (sn_isN (vr 1)) os_eq (nomark _)) (sn_and (SndE.read (sn_or (sn_isN (vr 1)) (sn_one (isi hb (vr 0))))) (sn_one (sn_cmp (vr 0) (vr 1) os_eq (nomark _)))))))
  sb_nil)
  (sb_cons (ss_if (sn_tru (isi hb (vr 1)))
  (sb_one (ss_ret (sn_and (isi hb (vr 0)) (sn_and (sn_not (isi hb (vr 0))) (sn_one (sn_cmp (vr 0) (vr 1) os_eq (nomark _)))))))
  sb_nil)
  (sb_one (ss_ret (sn_and (isi hb (vr 0)) (sn_one (sn_cmp (vr 0) (vr 1) os_eq (nomark _)))))))))
/-! law_is_name -/
abbrev N_law_is_name : List Str := ["_law_word", "_law_keys", "_law_char"]
theorem sc_law_is_name : FnScope N_law_is_name ["_law_word"] (defScope (topS 30)) := ⟨rfl, rfl, rfl, by decide +kernel, rfl, by decide +kernel, by decide +kernel⟩
def lb_law_is_name_0 (cl : Calls) : FS :=
  (sIf (bNotT (bOrT (bTst (bChain kLeS kLeS (bC (D.str "a")) (bVarR 2) (bC (D.str "z")))) (bTst (bChain kLeS kLeS (bC (D.str "0")) (bVarR 2) (bC (D.str "9"))))))
  (sRet (bC (D.bl false)))
  sNil)
def sh_law_is_name (cl : Calls) : FS :=
  (sCons (sSet 1 (bTup (lCons (bC (D.str "asset")) (lCons (bC (D.str "contract")) (lCons (bC (D.str "var")) (lCons (bC (D.str "hold")) (lCons (bC (D.str "proc")) (lCons (bC (D.str "shown")) (lCons (bC (D.str "hidden")) (lCons (bC (D.str "end")) (lCons (bC (D.str "set")) (lCons (bC (D.str "need")) (lCons (bC (D.str "give")) (lCons (bC (D.str "get")) (lCons (bC (D.str "move")) (lCons (bC (D.str "ask")) (lCons (bC (D.str "call")) lNil)))))))))))))))))
  (sCons (sSet 1 (bBin kAdd (bVarR 1) (bTup (lCons (bC (D.str "if")) (lCons (bC (D.str "else")) (lCons (bC (D.str "given")) (lCons (bC (D.str "have")) (lCons (bC (D.str "out")) (lCons (bC (D.str "mod")) lNil)))))))))
  (sCons (sIf (bOrT (bNotT (bTst (bChain kLt kLt (bC (D.int 0)) (bCall kLen (lCons (bVarR 0) lNil)) (bC (D.int 13))))) (bOrT (bNotT (bTst (bChain kLeS kLeS (bC (D.str "a")) (bBin kIx (bVarR 0) (bC (D.int 0))) (bC (D.str "z"))))) (bTst (bBin kIn (bVarR 0) (bVarR 1)))))
  (sRet (bC (D.bl false)))
  sNil)
  (sCons (sFor (iVar 0) (tgName 2)
  (lb_law_is_name_0 cl))
  (sRet (bC (D.bl true)))))))
theorem snd_law_is_name {M : Mo} (h : Stc M) (rt : Rt M) : SndB ⟨N_law_is_name, defScope (topS 30), none⟩ M (defBody (topS 30)) (sh_law_is_name M.cl) :=
  have hb := h.bn
  have hm := h.cold
  (sb_cons (st 1 (sn_tup (n := 15) (sl_esc sn_str (sl_esc sn_str (sl_esc sn_str (sl_esc sn_str (sl_esc sn_str (sl_esc sn_str (sl_esc sn_str (sl_esc sn_str (sl_esc sn_str (sl_esc sn_str (sl_esc sn_str (sl_esc sn_str (sl_esc sn_str (sl_esc sn_str (sl_esc sn_str sl_nil)))))))))))))))))
  (sb_cons (st 1 (sn_bin (vr 1) (sn_tup (n := 6) (sl_esc sn_str (sl_esc sn_str (sl_esc sn_str (sl_esc sn_str (sl_esc sn_str (sl_esc sn_str sl_nil))))))) os_add))
  (sb_cons (ss_if (sn_tw (sw_or (sn_tnot (sn_tchain sn_int (cB hb bu_len (sl_rd (vr 0) sl_nil)) sn_int os_lt os_lt)) (sw_or (sn_tnot (sn_tchain sn_str (SndE.read (sn_ix (vr 0) sn_int)) sn_str os_leS os_leS)) (sw_or1 (sn_tcmp (vr 0) (vr 1) os_in (by rfl))))))
  (sb_one (ss_ret sn_bl))
  sb_nil)
  (sb_cons (ss_for hm (iv 0) (tn 2)
  (sb_one (ss_if (sn_tnot (sn_tw (sw_or (sn_tchain sn_str (vr 2) sn_str os_leS os_leS) (sw_or1 (sn_tchain sn_str (vr 2) sn_str os_leS os_leS)))))
  (sb_one (ss_ret sn_bl))
  sb_nil)))
  (sb_one (ss_ret sn_bl))))))
/-! law_is_number -/
abbrev N_law_is_number : List Str := ["_law_word", "_law_char"]
theorem sc_law_is_number : FnScope N_law_is_number ["_law_word"] (defScope (topS 31)) := ⟨rfl, rfl, rfl, by decide +kernel, rfl, by decide +kernel, by decide +kernel⟩
def lb_law_is_number_0 (cl : Calls) : FS :=
  (sIf (bNotT (bTst (bChain kLeS kLeS (bC (D.str "0")) (bVarR 1) (bC (D.str "9")))))
  (sRet (bC (D.bl false)))
  sNil)
def sh_law_is_number (cl : Calls) : FS :=
  (sCons (sIf (bNotT (bTst (bChain kLt kLt (bC (D.int 0)) (bCall kLen (lCons (bVarR 0) lNil)) (bC (D.int 6)))))
  (sRet (bC (D.bl false)))
  sNil)
  (sCons (sFor (iVar 0) (tgName 1)
  (lb_law_is_number_0 cl))
  (sRet (bAndV (bBin kEq (bCall kStr (lCons (bCall kInt (lCons (bVarR 0) lNil)) lNil)) (bVarR 0)) (bBin kLt (bCall kInt (lCons (bVarR 0) lNil)) (bC (D.int 65536)))))))
theorem snd_law_is_number {M : Mo} (h : Stc M) (rt : Rt M) : SndB ⟨N_law_is_number, defScope (topS 31), none⟩ M (defBody (topS 31)) (sh_law_is_number M.cl) :=
  have hb := h.bn
  have hm := h.cold
  (sb_cons (ss_if (sn_tnot (sn_tchain sn_int (cB hb bu_len (sl_rd (vr 0) sl_nil)) sn_int os_lt os_lt))
  (sb_one (ss_ret sn_bl))
  sb_nil)
  (sb_cons (ss_for hm (iv 0) (tn 1)
  (sb_one (ss_if (sn_tnot (sn_tchain sn_str (vr 1) sn_str os_leS os_leS))
  (sb_one (ss_ret sn_bl))
  sb_nil)))
  (sb_one (ss_ret (sn_and (sn_cmp (cT hb bu_str (sl_rd (cT hb bu_int (sl_rd (vr 0) sl_nil)) sl_nil)) (vr 0) os_eq (nomark _)) (sn_one (sn_cmp (cT hb bu_int (sl_rd (vr 0) sl_nil)) sn_int os_lt (nomark _))))))))
/-! law_next -/
abbrev N_law_next : List Str := ["_law_stack", "_law_count", "_law_word", "_law_top"]
theorem sc_law_next : FnScope N_law_next ["_law_stack", "_law_count", "_law_word"] (defScope (topS 32)) := ⟨rfl, rfl, rfl, by decide +kernel, rfl, by decide +kernel, by decide +kernel⟩
def sh_law_next (cl : Calls) : FS :=
  (sCons (sSet 3 (bTup (lCons (bC (D.str "rule")) lNil)))
  (sCons (sIf (bTst (bBin kGt (bCall kLen (lCons (bVarR 0) lNil)) (bC (D.int 0))))
  (sAsg (tgName 3) (bPopC (bVarR 0)))
  sNil)
  (sCons (sIf (bTst (bBin kEq (bBin kIx (bVarR 3) (bC (D.int 0))) (bC (D.str "rule"))))
  (sCons (sSetC (bVarR 1) (bC (D.int 0)) (bBin kAdd (bBin kIx (bVarR 1) (bC (D.int 0))) (bC (D.int 1))))
  (sCons (sExtC (bVarR 0) (bLst (lCons (bTup (lCons (bC (D.str "deed")) lNil)) (lCons (bTup (lCons (bC (D.str "value")) (lCons (bC (D.int 8)) lNil))) lNil))))
  (sRet (bAndV (bBin kEq (bVarR 2) (bC (D.str "when"))) (bBin kLt (bBin kIx (bVarR 1) (bC (D.int 0))) (bC (D.int 41)))))))
  sNil)
  (sCons (sIf (bTst (bBin kEq (bBin kIx (bVarR 3) (bC (D.int 0))) (bC (D.str "deed"))))
  (sCons (sIf (bTst (bBin kEq (bVarR 2) (bC (D.str "call"))))
  (sExtC (bVarR 0) (bLst (lCons (bTup (lCons (bC (D.str "value")) (lCons (bC (D.int 8)) lNil))) (lCons (bTup (lCons (bC (D.str "value")) (lCons (bC (D.int 8)) lNil))) (lCons (bTup (lCons (bC (D.str "name")) lNil)) (lCons (bTup (lCons (bC (D.str "name")) lNil)) lNil))))))
  (sExtC (bVarR 0) (bLst (lCons (bTup (lCons (bC (D.str "value")) (lCons (bC (D.int 8)) lNil))) (lCons (bTup (lCons (bC (D.str "value")) (lCons (bC (D.int 8)) lNil))) lNil)))))
  (sRet (bBin kIn (bVarR 2) (bTup (lCons (bC (D.str "call")) (lCons (bC (D.str "answer")) lNil))))))
  sNil)
  (sCons (sIf (bTst (bBin kEq (bBin kIx (bVarR 3) (bC (D.int 0))) (bC (D.str "name"))))
  (sRet (bDef cl "_law_is_name" [.rd] (lCons (bVarR 2) lNil)))
  sNil)
  (sCons (sIf (bAndT (bTst (bBin kIn (bVarR 2) (bTup (lCons (bC (D.str "+")) (lCons (bC (D.str "-")) (lCons (bC (D.str "*")) (lCons (bC (D.str "/")) (lCons (bC (D.str "mod")) (lCons (bC (D.str "<")) (lCons (bC (D.str "=")) lNil)))))))))) (bTst (bBin kGt (bBin kIx (bVarR 3) (bC (D.int 1))) (bC (D.int 1)))))
  (sCons (sExtC (bVarR 0) (bLst (lCons (bTup (lCons (bC (D.str "value")) (lCons (bBin kSub (bBin kIx (bVarR 3) (bC (D.int 1))) (bC (D.int 1))) lNil))) (lCons (bTup (lCons (bC (D.str "value")) (lCons (bBin kSub (bBin kIx (bVarR 3) (bC (D.int 1))) (bC (D.int 1))) lNil))) lNil))))
  (sRet (bC (D.bl true))))
  sNil)
  (sRet (bOrV (bBin kIn (bVarR 2) (bTup (lCons (bC (D.str "asked")) (lCons (bC (D.str "deep")) (lCons (bC (D.str "failed")) (lCons (bC (D.str "cell")) lNil)))))) (bDef cl "_law_is_number" [.rd] (lCons (bVarR 2) lNil))))))))))
theorem snd_law_next {M : Mo} (h : Stc M) (rt : Rt M) : SndB ⟨N_law_next, defScope (topS 32), none⟩ M (defBody (topS 32)) (sh_law_next M.cl) :=
  have hb := h.bn
  have hm := h.cold
  (sb_cons (st 3 (sn_tup (n := 1) (sl_esc sn_str sl_nil)))
  (sb_cons (ss_if (sn_tcmp (cB hb bu_len (sl_rd (vr 0) sl_nil)) sn_int os_gt (nomark _))
  (sb_one (se 3 (sn_popC (vr 0))))
  sb_nil)
  (sb_cons (ss_if (sn_tcmp (SndE.read (sn_ix (vr 3) sn_int)) sn_str os_eq (nomark _))
  (sb_cons (ss_setC (vr 1) sn_int (SndE.keep (sn_bin (SndE.read (sn_ix (vr 1) sn_int)) sn_int os_add)))
  (sb_cons (ss_extC (vr 0) (SndE.read (SndE.keep (sn_lst (n := 2) (sl_esc (sn_tup (n := 1) (sl_esc sn_str sl_nil)) (sl_esc (sn_tup (n := 2) (sl_esc sn_str (sl_esc sn_int sl_nil))) sl_nil))))))
  (sb_one (ss_ret (sn_and (sn_cmp (vr 2) sn_str os_eq (nomark _)) (sn_one (sn_cmp (SndE.read (sn_ix (vr 1) sn_int)) sn_int os_lt (nomark _))))))))
  sb_nil)
  (sb_cons (ss_if (sn_tcmp (SndE.read (sn_ix (vr 3) sn_int)) sn_str os_eq (nomark _))
  (sb_cons (ss_if (sn_tcmp (vr 2) sn_str os_eq (nomark _))
  (sb_one (ss_extC (vr 0) (SndE.read (SndE.keep (sn_lst (n := 4) (sl_esc (sn_tup (n := 2) (sl_esc sn_str (sl_esc sn_int sl_nil))) (sl_esc (sn_tup (n := 2) (sl_esc sn_str (sl_esc sn_int sl_nil))) (sl_esc (sn_tup (n := 1) (sl_esc sn_str sl_nil)) (sl_esc (sn_tup (n := 1) (sl_esc sn_str sl_nil)) sl_nil)))))))))
  (sb_one (ss_extC (vr 0) (SndE.read (SndE.keep (sn_lst (n := 2) (sl_esc (sn_tup (n := 2) (sl_esc sn_str (sl_esc sn_int sl_nil))) (sl_esc (sn_tup (n := 2) (sl_esc sn_str (sl_esc sn_int sl_nil))) sl_nil))))))))
  (sb_one (ss_ret (sn_cmp (vr 2) (sn_tup (n := 2) (sl_esc sn_str (sl_esc sn_str sl_nil))) os_in (by rfl)))))
  sb_nil)
  (sb_cons (ss_if (sn_tcmp (SndE.read (sn_ix (vr 3) sn_int)) sn_str os_eq (nomark _))
  (sb_one (ss_ret (cD (rt.fn "_law_is_name" (by decide +kernel)) (sl_rd (vr 2) sl_nil))))
  sb_nil)
  (sb_cons (ss_if (sn_tw (sw_and (sn_tcmp (vr 2) (sn_tup (n := 7) (sl_esc sn_str (sl_esc sn_str (sl_esc sn_str (sl_esc sn_str (sl_esc sn_str (sl_esc sn_str (sl_esc sn_str sl_nil)))))))) os_in (by rfl)) (sw_and1 (sn_tcmp (SndE.read (sn_ix (vr 3) sn_int)) sn_int os_gt (nomark _)))))
  (sb_cons (ss_extC (vr 0) (SndE.read (SndE.keep (sn_lst (n := 2) (sl_esc (sn_tup (n := 2) (sl_esc sn_str (sl_esc (sn_bin (SndE.read (sn_ix (vr 3) sn_int)) sn_int os_sub) sl_nil))) (sl_esc (sn_tup (n := 2) (sl_esc sn_str (sl_esc (sn_bin (SndE.read (sn_ix (vr 3) sn_int)) sn_int os_sub) sl_nil))) sl_nil))))))
  (sb_one (ss_ret sn_bl)))
  sb_nil)
  (sb_one (ss_ret (sn_or (sn_cmp (vr 2) (sn_tup (n := 4) (sl_esc sn_str (sl_esc sn_str (sl_esc sn_str (sl_esc sn_str sl_nil))))) os_in (by rfl)) (sn_one (cD (rt.fn "_law_is_number" (by decide +kernel)) (sl_rd (vr 2) sl_nil))))))))))))
/-! law_wrong -/
abbrev N_law_wrong : List Str := ["_law_words", "_law_stack", "_law_count", "_law_at"]
theorem sc_law_wrong : FnScope N_law_wrong ["_law_words"] (defScope (topS 33)) := ⟨rfl, rfl, rfl, by decide +kernel, rfl, by decide +kernel, by decide +kernel⟩
def lb_law_wrong_0 (cl : Calls) : FS :=
  (sIf (bNotT (bTru (bDef cl "_law_next" [.rd, .rd, .rd] (lCons (bVarR 1) (lCons (bVarR 2) (lCons (bBin kIx (bVarR 0) (bVarR 3)) lNil))))))
  (sRetV 3)
  sNil)
def sh_law_wrong (cl : Calls) : FS :=
  (sCons (sAsg (tgName 1) (bRef (bLst lNil)))
  (sCons (sAsg (tgName 2) (bRef (bLst (lCons (bC (D.int 0)) lNil))))
  (sCons (sFor (iRng1D (bCall kLen (lCons (bVarR 0) lNil))) (tgName 3)
  (lb_law_wrong_0 cl))
  (sCons (sIf (bTst (bBin kGt (bCall kLen (lCons (bVarR 1) lNil)) (bC (D.int 0))))
  (sRet (bCall kLen (lCons (bVarR 0) lNil)))
  sNil)
  (sRet (bC D.non))))))
theorem snd_law_wrong {M : Mo} (h : Stc M) (rt : Rt M) : SndB ⟨N_law_wrong, defScope (topS 33), none⟩ M (defBody (topS 33)) (sh_law_wrong M.cl) :=
  have hb := h.bn
  have hm := h.cold
  (sb_cons (se 1 (sn_ref (sn_lst (n := 0) sl_nil)))
  (sb_cons (se 2 (sn_ref (sn_lst (n := 1) (sl_esc sn_int sl_nil))))
  (sb_cons (ss_for hm (rg1 hb (cB hb bu_len (sl_rd (vr 0) sl_nil))) (tn 3)
  (sb_one (ss_if (sn_tnot (sn_tru (SndE.read (cD (rt.fn "_law_next" (by decide +kernel)) (sl_rd (vr 1) (sl_rd (vr 2) (sl_rd (SndE.read (sn_ix (vr 0) (vr 3))) sl_nil)))))))
  (sb_one (rv 3))
  sb_nil)))
  (sb_cons (ss_if (sn_tcmp (cB hb bu_len (sl_rd (vr 1) sl_nil)) sn_int os_gt (nomark _))
  (sb_one (ss_ret (cB hb bu_len (sl_rd (vr 0) sl_nil))))
  sb_nil)
  (sb_one (ss_ret sn_non))))))
/-! law_value_words -/
abbrev N_law_value_words : List Str := ["_law_pool_here", "_law_deep", "_law_kind", "_law_left"]
theorem sc_law_value_words : FnScope N_law_value_words ["_law_pool_here", "_law_deep"] (defScope (topS 34)) := ⟨rfl, rfl, rfl, by decide +kernel, rfl, by decide +kernel, by decide +kernel⟩
def sh_law_value_words (cl : Calls) : FS :=
  (sCons (sAsg (tgName 2) (bDef cl "_law_draw" [.rd, .rd] (lCons (bVarR 0) (lCons (bC (D.int 8)) lNil))))
  (sCons (sIf (bAndT (bTst (bBin kGt (bVarR 1) (bC (D.int 1)))) (bTst (bBin kLt (bVarR 2) (bC (D.int 4)))))
  (sCons (sAsg (tgName 3) (bDef cl "_law_value_words" [.rd, .rd] (lCons (bVarR 0) (lCons (bBin kSub (bVarR 1) (bC (D.int 1))) lNil))))
  (sRet (bBin kAdd (bBin kAdd (bLst (lCons (bBin kIx (bTup (lCons (bC (D.str "+")) (lCons (bC (D.str "-")) (lCons (bC (D.str "*")) (lCons (bC (D.str "/")) (lCons (bC (D.str "mod")) (lCons (bC (D.str "<")) (lCons (bC (D.str "=")) lNil)))))))) (bDef cl "_law_draw" [.rd, .rd] (lCons (bVarR 0) (lCons (bC (D.int 7)) lNil)))) lNil)) (bVarR 3)) (bDef cl "_law_value_words" [.rd, .rd] (lCons (bVarR 0) (lCons (bBin kSub (bVarR 1) (bC (D.int 1))) lNil))))))
  sNil)
  (sCons (sIf (bTst (bBin kLt (bVarR 2) (bC (D.int 7))))
  (sRet (bLst (lCons (bBin kIx (bTup (lCons (bC (D.str "asked")) (lCons (bC (D.str "deep")) (lCons (bC (D.str "failed")) (lCons (bC (D.str "cell")) lNil))))) (bDef cl "_law_draw" [.rd, .rd] (lCons (bVarR 0) (lCons (bC (D.int 4)) lNil)))) lNil)))
  sNil)
  (sRet (bLst (lCons (bCall kStr (lCons (bBin kIx (bTup (lCons (bDef cl "_law_draw" [.rd, .rd] (lCons (bVarR 0) (lCons (bC (D.int 9)) lNil))) (lCons (bDef cl "_law_draw" [.rd, .rd] (lCons (bVarR 0) (lCons (bC (D.int 65536)) lNil))) lNil))) (bDef cl "_law_draw" [.rd, .rd] (lCons (bVarR 0) (lCons (bC (D.int 2)) lNil)))) lNil)) lNil))))))
theorem snd_law_value_words {M : Mo} (h : Stc M) (rt : Rt M) : SndB ⟨N_law_value_words, defScope (topS 34), none⟩ M (defBody (topS 34)) (sh_law_value_words M.cl) :=
  have hb := h.bn
  have hm := h.cold
  (sb_cons (se 2 (cD (rt.fn "_law_draw" (by decide +kernel)) (sl_rd (vr 0) (sl_rd sn_int sl_nil))))
  (sb_cons (ss_if (sn_tw (sw_and (sn_tcmp (vr 1) sn_int os_gt (nomark _)) (sw_and1 (sn_tcmp (vr 2) sn_int os_lt (nomark _)))))
  (sb_cons (se 3 (cD (rt.fn "_law_value_words" (by decide +kernel)) (sl_rd (vr 0) (sl_rd (sn_bin (vr 1) sn_int os_sub) sl_nil))))
  (sb_one (ss_ret (SndE.keep (sn_bin (SndE.read (SndE.keep (sn_bin (SndE.read (SndE.keep (sn_lst (n := 1) (sl_esc (sn_ix (sn_tup (n := 7) (sl_esc sn_str (sl_esc sn_str (sl_esc sn_str (sl_esc sn_str (sl_esc sn_str (sl_esc sn_str (sl_esc sn_str sl_nil)))))))) (SndE.read (cD (rt.fn "_law_draw" (by decide +kernel)) (sl_rd (vr 0) (sl_rd sn_int sl_nil))))) sl_nil)))) (vr 3) os_add))) (SndE.read (cD (rt.fn "_law_value_words" (by decide +kernel)) (sl_rd (vr 0) (sl_rd (sn_bin (vr 1) sn_int os_sub) sl_nil)))) os_add)))))
  sb_nil)
  (sb_cons (ss_if (sn_tcmp (vr 2) sn_int os_lt (nomark _))
  (sb_one (ss_ret (SndE.keep (sn_lst (n := 1) (sl_esc (sn_ix (sn_tup (n := 4) (sl_esc sn_str (sl_esc sn_str (sl_esc sn_str (sl_esc sn_str sl_nil))))) (SndE.read (cD (rt.fn "_law_draw" (by decide +kernel)) (sl_rd (vr 0) (sl_rd sn_int sl_nil))))) sl_nil)))))
  sb_nil)
  (sb_one (ss_ret (SndE.keep (sn_lst (n := 1) (sl_esc (cT hb bu_str (sl_rd (SndE.read (sn_ix (sn_tup (n := 2) (sl_esc (cD (rt.fn "_law_draw" (by decide +kernel)) (sl_rd (vr 0) (sl_rd sn_int sl_nil))) (sl_esc (cD (rt.fn "_law_draw" (by decide +kernel)) (sl_rd (vr 0) (sl_rd sn_int sl_nil))) sl_nil))) (SndE.read (cD (rt.fn "_law_draw" (by decide +kernel)) (sl_rd (vr 0) (sl_rd sn_int sl_nil)))))) sl_nil)) sl_nil))))))))
/-! law_chain -/
abbrev N_law_chain : List Str := ["_law_pool_here", "_law_count"]
theorem sc_law_chain : FnScope N_law_chain ["_law_pool_here"] (defScope (topS 35)) := ⟨rfl, rfl, rfl, by decide +kernel, rfl, by decide +kernel, by decide +kernel⟩
def sh_law_chain (cl : Calls) : FS :=
  (sCons (sSet 1 (bBin kAdd (bC (D.int 6)) (bDef cl "_law_draw" [.rd, .rd] (lCons (bVarR 0) (lCons (bC (D.int 4)) lNil)))))
  (sCons (sIf (bTst (bBin kEq (bDef cl "_law_draw" [.rd, .rd] (lCons (bVarR 0) (lCons (bC (D.int 2)) lNil))) (bC (D.int 0))))
  (sRet (bBin kAdd (bBin kMulL (bLst (lCons (bC (D.str "+")) lNil)) (bVarR 1)) (bBin kMulL (bLst (lCons (bC (D.str "1")) lNil)) (bBin kAdd (bVarR 1) (bC (D.int 1))))))
  sNil)
  (sRet (bBin kAdd (bBin kMulL (bLst (lCons (bC (D.str "mod")) (lCons (bC (D.str "7")) lNil))) (bVarR 1)) (bLst (lCons (bC (D.str "cell")) lNil))))))
theorem snd_law_chain {M : Mo} (h : Stc M) (rt : Rt M) : SndB ⟨N_law_chain, defScope (topS 35), none⟩ M (defBody (topS 35)) (sh_law_chain M.cl) :=
  have hb := h.bn
  have hm := h.cold
  (sb_cons (st 1 (sn_bin sn_int (SndE.read (cD (rt.fn "_law_draw" (by decide +kernel)) (sl_rd (vr 0) (sl_rd sn_int sl_nil)))) os_add))
  (sb_cons (ss_if (sn_tcmp (SndE.read (cD (rt.fn "_law_draw" (by decide +kernel)) (sl_rd (vr 0) (sl_rd sn_int sl_nil)))) sn_int os_eq (nomark _))
  (sb_one (ss_ret (SndE.keep (sn_bin (SndE.read (SndE.keep (sn_bin (SndE.read (SndE.keep (sn_lst (n := 1) (sl_esc sn_str sl_nil)))) (vr 1) os_mulL))) (SndE.read (SndE.keep (sn_bin (SndE.read (SndE.keep (sn_lst (n := 1) (sl_esc sn_str sl_nil)))) (SndE.read (SndE.keep (sn_bin (vr 1) sn_int os_add))) os_mulL))) os_add))))
  sb_nil)
  (sb_one (ss_ret (SndE.keep (sn_bin (SndE.read (SndE.keep (sn_bin (SndE.read (SndE.keep (sn_lst (n := 2) (sl_esc sn_str (sl_esc sn_str sl_nil))))) (vr 1) os_mulL))) (SndE.read (SndE.keep (sn_lst (n := 1) (sl_esc sn_str sl_nil)))) os_add))))))
/-! law_drawn_name -/
abbrev N_law_drawn_name : List Str := ["_law_pool_here", "_law_letters", "_law_name", "_law_k"]
theorem sc_law_drawn_name : FnScope N_law_drawn_name ["_law_pool_here"] (defScope (topS 36)) := ⟨rfl, rfl, rfl, by decide +kernel, rfl, by decide +kernel, by decide +kernel⟩
def sh_law_drawn_name (cl : Calls) : FS :=
  (sCons (sSet 1 (bC (D.str "abcdefghijklmnopqrstuvwxyz0123456789")))
  (sCons (sSet 2 (bBin kAdd (bBin kIx (bVarR 1) (bDef cl "_law_draw" [.rd, .rd] (lCons (bVarR 0) (lCons (bC (D.int 26)) lNil)))) (bMethS kJoin (bC (D.str "")) (bComp [3] (iRng1D (bDef cl "_law_draw" [.rd, .rd] (lCons (bVarR 0) (lCons (bC (D.int 12)) lNil)))) (tgName 3) cYes (bBin kIx (bVarR 1) (bDef cl "_law_draw" [.rd, .rd] (lCons (bVarR 0) (lCons (bC (D.int 36)) lNil))))))))
  (sCons (sIf (bNotT (bTru (bDef cl "_law_is_name" [.rd] (lCons (bVarR 2) lNil))))
  (sRet (bC (D.str "y9")))
  sNil)
  (sRetV 2))))
theorem snd_law_drawn_name {M : Mo} (h : Stc M) (rt : Rt M) : SndB ⟨N_law_drawn_name, defScope (topS 36), none⟩ M (defBody (topS 36)) (sh_law_drawn_name M.cl) :=
  have hb := h.bn
  have hm := h.cold
  (sb_cons (st 1 sn_str)
  (sb_cons (st 2 (sn_bin (SndE.read (sn_ix (vr 1) (SndE.read (cD (rt.fn "_law_draw" (by decide +kernel)) (sl_rd (vr 0) (sl_rd sn_int sl_nil)))))) (sn_join sn_str (SndE.read (SndE.keep (lc hm [("_law_k", 3)] (SndI.toC (rg1 hb (SndE.read (cD (rt.fn "_law_draw" (by decide +kernel)) (sl_rd (vr 0) (sl_rd sn_int sl_nil)))))) (tn 3) st_nil (sn_ix (vr 1) (SndE.read (cD (rt.fn "_law_draw" (by decide +kernel)) (sl_rd (vr 0) (sl_rd sn_int sl_nil))))))))) os_add))
  (sb_cons (ss_if (sn_tnot (sn_tru (SndE.read (cD (rt.fn "_law_is_name" (by decide +kernel)) (sl_rd (vr 2) sl_nil)))))
  (sb_one (ss_ret sn_str))
  sb_nil)
  (sb_one (rv 2)))))
/-! law_rule_words -/
abbrev N_law_rule_words : List Str := ["_law_pool_here", "_law_values", "_law_k", "_law_names", "_law_own"]
theorem sc_law_rule_words : FnScope N_law_rule_words ["_law_pool_here"] (defScope (topS 37)) := ⟨rfl, rfl, rfl, by decide +kernel, rfl, by decide +kernel, by decide +kernel⟩
def sh_law_rule_words (cl : Calls) : FS :=
  (sCons (sSet 1 (bComp [2] (iRng1D (bC (D.int 3))) (tgName 2) cYes (bDef cl "_law_value_words" [.rd, .rd] (lCons (bVarR 0) (lCons (bC (D.int 3)) lNil)))))
  (sCons (sIf (bTst (bBin kEq (bDef cl "_law_draw" [.rd, .rd] (lCons (bVarR 0) (lCons (bC (D.int 8)) lNil))) (bC (D.int 0))))
  (sSetIx 1 (bDef cl "_law_draw" [.rd, .rd] (lCons (bVarR 0) (lCons (bC (D.int 3)) lNil))) (bDef cl "_law_chain" [.rd] (lCons (bVarR 0) lNil)))
  sNil)
  (sCons (sIf (bTst (bBin kEq (bDef cl "_law_draw" [.rd, .rd] (lCons (bVarR 0) (lCons (bC (D.int 2)) lNil))) (bC (D.int 0))))
  (sRet (bBin kAdd (bBin kAdd (bBin kAdd (bBin kAdd (bLst (lCons (bC (D.str "when")) lNil)) (bBin kIx (bVarR 1) (bC (D.int 0)))) (bLst (lCons (bC (D.str "answer")) lNil))) (bBin kIx (bVarR 1) (bC (D.int 1)))) (bBin kIx (bVarR 1) (bC (D.int 2)))))
  sNil)
  (sCons (sSet 3 (bTup (lCons (bC (D.str "c")) (lCons (bC (D.str "p")) (lCons (bC (D.str "when")) (lCons (bC (D.str "answer")) (lCons (bC (D.str "asked")) (lCons (bC (D.str "cell")) (lCons (bC (D.str "abcdefghijkl")) (lCons (bC (D.str "x9")) (lCons (bC (D.str "deep")) lNil)))))))))))
  (sCons (sSet 4 (bComp [2] (iRng1D (bC (D.int 2))) (tgName 2) cYes (bBin kIx (bTup (lCons (bBin kIx (bVarR 3) (bDef cl "_law_draw" [.rd, .rd] (lCons (bVarR 0) (lCons (bC (D.int 9)) lNil)))) (lCons (bDef cl "_law_drawn_name" [.rd] (lCons (bVarR 0) lNil)) lNil))) (bDef cl "_law_draw" [.rd, .rd] (lCons (bVarR 0) (lCons (bC (D.int 2)) lNil))))))
  (sRet (bBin kAdd (bBin kAdd (bBin kAdd (bBin kAdd (bBin kAdd (bLst (lCons (bC (D.str "when")) lNil)) (bBin kIx (bVarR 1) (bC (D.int 0)))) (bLst (lCons (bC (D.str "call")) lNil))) (bVarR 4)) (bBin kIx (bVarR 1) (bC (D.int 1)))) (bBin kIx (bVarR 1) (bC (D.int 2))))))))))
theorem snd_law_rule_words {M : Mo} (h : Stc M) (rt : Rt M) : SndB ⟨N_law_rule_words, defScope (topS 37), none⟩ M (defBody (topS 37)) (sh_law_rule_words M.cl) :=
  have hb := h.bn
  have hm := h.cold
  (sb_cons (slc hm 1 [("_law_k", 2)] (SndI.toC (rg1 hb sn_int)) (tn 2) st_nil (cD (rt.fn "_law_value_words" (by decide +kernel)) (sl_rd (vr 0) (sl_rd sn_int sl_nil))))
  (sb_cons (ss_if (sn_tcmp (SndE.read (cD (rt.fn "_law_draw" (by decide +kernel)) (sl_rd (vr 0) (sl_rd sn_int sl_nil)))) sn_int os_eq (nomark _))
  (sb_one (six 1 (SndE.read (cD (rt.fn "_law_draw" (by decide +kernel)) (sl_rd (vr 0) (sl_rd sn_int sl_nil)))) (cD (rt.fn "_law_chain" (by decide +kernel)) (sl_rd (vr 0) sl_nil))))
  sb_nil)
  (sb_cons (ss_if (sn_tcmp (SndE.read (cD (rt.fn "_law_draw" (by decide +kernel)) (sl_rd (vr 0) (sl_rd sn_int sl_nil)))) sn_int os_eq (nomark _))
  (sb_one (ss_ret (SndE.keep (sn_bin (SndE.read (SndE.keep (sn_bin (SndE.read (SndE.keep (sn_bin (SndE.read (SndE.keep (sn_bin (SndE.read (SndE.keep (sn_lst (n := 1) (sl_esc sn_str sl_nil)))) (SndE.read (sn_ix (vr 1) sn_int)) os_add))) (SndE.read (SndE.keep (sn_lst (n := 1) (sl_esc sn_str sl_nil)))) os_add))) (SndE.read (sn_ix (vr 1) sn_int)) os_add))) (SndE.read (sn_ix (vr 1) sn_int)) os_add))))
  sb_nil)
  (sb_cons (st 3 (sn_tup (n := 9) (sl_esc sn_str (sl_esc sn_str (sl_esc sn_str (sl_esc sn_str (sl_esc sn_str (sl_esc sn_str (sl_esc sn_str (sl_esc sn_str (sl_esc sn_str sl_nil)))))))))))
  (sb_cons (slc hm 4 [("_law_k", 2)] (SndI.toC (rg1 hb sn_int)) (tn 2) st_nil (sn_ix (sn_tup (n := 2) (sl_esc (sn_ix (vr 3) (SndE.read (cD (rt.fn "_law_draw" (by decide +kernel)) (sl_rd (vr 0) (sl_rd sn_int sl_nil))))) (sl_esc (cD (rt.fn "_law_drawn_name" (by decide +kernel)) (sl_rd (vr 0) sl_nil)) sl_nil))) (SndE.read (cD (rt.fn "_law_draw" (by decide +kernel)) (sl_rd (vr 0) (sl_rd sn_int sl_nil))))))
  (sb_one (ss_ret (SndE.keep (sn_bin (SndE.read (SndE.keep (sn_bin (SndE.read (SndE.keep (sn_bin (SndE.read (SndE.keep (sn_bin (SndE.read (SndE.keep (sn_bin (SndE.read (SndE.keep (sn_lst (n := 1) (sl_esc sn_str sl_nil)))) (SndE.read (sn_ix (vr 1) sn_int)) os_add))) (SndE.read (SndE.keep (sn_lst (n := 1) (sl_esc sn_str sl_nil)))) os_add))) (vr 4) os_add))) (SndE.read (sn_ix (vr 1) sn_int)) os_add))) (SndE.read (sn_ix (vr 1) sn_int)) os_add)))))))))
/-! law_menu -/
abbrev N_law_menu : List Str := ["_law_pool_here", "_law_words"]
theorem sc_law_menu : FnScope N_law_menu ["_law_pool_here"] (defScope (topS 38)) := ⟨rfl, rfl, rfl, by decide +kernel, rfl, by decide +kernel, by decide +kernel⟩
def sh_law_menu (cl : Calls) : FS :=
  (sCons (sSet 1 (bLst (lCons (bC (D.str "when")) (lCons (bC (D.str "call")) (lCons (bC (D.str "answer")) (lCons (bC (D.str "asked")) (lCons (bC (D.str "deep")) (lCons (bC (D.str "failed")) (lCons (bC (D.str "cell")) (lCons (bC (D.str "+")) (lCons (bC (D.str "-")) (lCons (bC (D.str "mod")) (lCons (bC (D.str "<")) (lCons (bC (D.str "=")) (lCons (bC (D.str "0")) (lCons (bC (D.str "1")) (lCons (bC (D.str "7")) (lCons (bC (D.str "65535")) (lCons (bC (D.str "65536")) (lCons (bC (D.str "99999")) lNil))))))))))))))))))))
  (sCons (sSet 1 (bBin kAdd (bVarR 1) (bLst (lCons (bC (D.str "100000")) (lCons (bC (D.str "01")) (lCons (bC (D.str "")) (lCons (bC (D.str "c")) (lCons (bC (D.str "p")) (lCons (bC (D.str "given")) (lCons (bC (D.str "have")) (lCons (bC (D.str "out")) (lCons (bC (D.str "a")) (lCons (bC (D.str "x9")) (lCons (bC (D.str "9x")) (lCons (bC (D.str "abcdefghijklm")) (lCons (bC (D.str "When")) (lCons (bC (D.str "end")) (lCons (bC (D.str "1\n")) (lCons (bC (D.str "\t1")) (lCons (bC (D.str "c\n")) (lCons (bC (D.str "deeps")) lNil)))))))))))))))))))))
  (sRet (bBin kIx (bVarR 1) (bDef cl "_law_draw" [.rd, .rd] (lCons (bVarR 0) (lCons (bCall kLen (lCons (bVarR 1) lNil)) lNil)))))))
theorem snd_law_menu {M : Mo} (h : Stc M) (rt : Rt M) : SndB ⟨N_law_menu, defScope (topS 38), none⟩ M (defBody (topS 38)) (sh_law_menu M.cl) :=
  have hb := h.bn
  have hm := h.cold
  (sb_cons (st 1 (sn_lst (n := 18) (sl_esc sn_str (sl_esc sn_str (sl_esc sn_str (sl_esc sn_str (sl_esc sn_str (sl_esc sn_str (sl_esc sn_str (sl_esc sn_str (sl_esc sn_str (sl_esc sn_str (sl_esc sn_str (sl_esc sn_str (sl_esc sn_str (sl_esc sn_str (sl_esc sn_str (sl_esc sn_str (sl_esc sn_str (sl_esc sn_str sl_nil))))))))))))))))))))
  (sb_cons (st 1 (sn_bin (vr 1) (SndE.read (SndE.keep (sn_lst (n := 18) (sl_esc sn_str (sl_esc sn_str (sl_esc sn_str (sl_esc sn_str (sl_esc sn_str (sl_esc sn_str (sl_esc sn_str (sl_esc sn_str (sl_esc sn_str (sl_esc sn_str (sl_esc sn_str (sl_esc sn_str (sl_esc sn_str (sl_esc sn_str (sl_esc sn_str (sl_esc sn_str (sl_esc sn_str (sl_esc sn_str sl_nil))))))))))))))))))))) os_add))
  (sb_one (ss_ret (sn_ix (vr 1) (SndE.read (cD (rt.fn "_law_draw" (by decide +kernel)) (sl_rd (vr 0) (sl_rd (cB hb bu_len (sl_rd (vr 1) sl_nil)) sl_nil)))))))))
/-! law_changed -/
abbrev N_law_changed : List Str := ["_law_pool_here", "_law_words", "_law_k", "_law_place", "_law_other", "_law_way", "_law_word", "_law_at", "_law_signs"]
theorem sc_law_changed : FnScope N_law_changed ["_law_pool_here", "_law_words"] (defScope (topS 39)) := ⟨rfl, rfl, rfl, by decide +kernel, rfl, by decide +kernel, by decide +kernel⟩
def lb_law_changed_0 (cl : Calls) : FS :=
  (sCons (sAsg (tgName 3) (bDef cl "_law_draw" [.rd, .rd] (lCons (bVarR 0) (lCons (bBin kAdd (bCall kLen (lCons (bVarR 1) lNil)) (bC (D.int 1))) lNil))))
  (sCons (sAsg (tgName 4) (bDef cl "_law_draw" [.rd, .rd] (lCons (bVarR 0) (lCons (bBin kAdd (bCall kLen (lCons (bVarR 1) lNil)) (bC (D.int 1))) lNil))))
  (sCons (sAsg (tgName 5) (bDef cl "_law_draw" [.rd, .rd] (lCons (bVarR 0) (lCons (bC (D.int 5)) lNil))))
  (sIf (bTst (bBin kEq (bVarR 5) (bC (D.int 0))))
  (sSet 1 (bBin kAdd (bSl (bVarR 1) oNone (oSome (bVarR 3))) (bSl (bVarR 1) (oSome (bBin kAdd (bVarR 3) (bC (D.int 1)))) oNone)))
  (sIf (bTst (bBin kEq (bVarR 5) (bC (D.int 1))))
  (sSet 1 (bBin kAdd (bBin kAdd (bSl (bVarR 1) oNone (oSome (bVarR 3))) (bLst (lCons (bDef cl "_law_menu" [.rd] (lCons (bVarR 0) lNil)) lNil))) (bSl (bVarR 1) (oSome (bVarR 3)) oNone)))
  (sIf (bTst (bBin kEq (bVarR 5) (bC (D.int 2))))
  (sSet 1 (bBin kAdd (bBin kAdd (bSl (bVarR 1) oNone (oSome (bVarR 3))) (bSl (bVarR 1) (oSome (bVarR 4)) (oSome (bBin kAdd (bVarR 4) (bC (D.int 1)))))) (bSl (bVarR 1) (oSome (bBin kAdd (bVarR 3) (bC (D.int 1)))) oNone)))
  (sIf (bTst (bBin kEq (bVarR 5) (bC (D.int 3))))
  (sCons (sSet 6 (bMethS kJoin (bC (D.str "")) (bSl (bVarR 1) (oSome (bVarR 3)) (oSome (bBin kAdd (bVarR 3) (bC (D.int 1)))))))
  (sCons (sAsg (tgName 7) (bDef cl "_law_draw" [.rd, .rd] (lCons (bVarR 0) (lCons (bBin kAdd (bCall kLen (lCons (bVarR 6) lNil)) (bC (D.int 1))) lNil))))
  (sCons (sSet 8 (bC (D.str "!\"#$&'()*+,-./0123456789:;<=>?@AZ[]^_`abcdefghijklmnopqrstuvwxyz{|}~ \n\t")))
  (sCons (sSet 6 (bBin kAdd (bBin kAdd (bSl (bVarR 6) oNone (oSome (bVarR 7))) (bBin kIx (bVarR 8) (bDef cl "_law_draw" [.rd, .rd] (lCons (bVarR 0) (lCons (bCall kLen (lCons (bVarR 8) lNil)) lNil))))) (bSl (bVarR 6) (oSome (bBin kAdd (bVarR 7) (bDef cl "_law_draw" [.rd, .rd] (lCons (bVarR 0) (lCons (bC (D.int 2)) lNil))))) oNone)))
  (sFrz [6] (sSet 1 (bBin kAdd (bBin kAdd (bSl (bVarR 1) oNone (oSome (bVarR 3))) (bLst (lCons (bVar 6) lNil))) (bSl (bVarR 1) (oSome (bBin kAdd (bVarR 3) (bC (D.int 1)))) oNone))))))))
  (sSet 1 (bBin kAdd (bBin kAdd (bSl (bVarR 1) oNone (oSome (bVarR 3))) (bLst (lCons (bDef cl "_law_menu" [.rd] (lCons (bVarR 0) lNil)) lNil))) (bSl (bVarR 1) (oSome (bBin kAdd (bVarR 3) (bC (D.int 1)))) oNone))))))))))
def sh_law_changed (cl : Calls) : FS :=
  (sCons (sFor (iRng1D (bDef cl "_law_draw" [.rd, .rd] (lCons (bVarR 0) (lCons (bC (D.int 4)) lNil)))) (tgName 2)
  (lb_law_changed_0 cl))
  (sRetV 1))
theorem snd_law_changed {M : Mo} (h : Stc M) (rt : Rt M) : SndB ⟨N_law_changed, defScope (topS 39), none⟩ M (defBody (topS 39)) (sh_law_changed M.cl) :=
  have hb := h.bn
  have hm := h.cold
  (sb_cons (ss_for hm (rg1 hb (SndE.read (cD (rt.fn "_law_draw" (by decide +kernel)) (sl_rd (vr 0) (sl_rd sn_int sl_nil))))) (tn 2)
  (sb_cons (se 3 (cD (rt.fn "_law_draw" (by decide +kernel)) (sl_rd (vr 0) (sl_rd (SndE.read (SndE.keep (sn_bin (cB hb bu_len (sl_rd (vr 1) sl_nil)) sn_int os_add))) sl_nil))))
  (sb_cons (se 4 (cD (rt.fn "_law_draw" (by decide +kernel)) (sl_rd (vr 0) (sl_rd (SndE.read (SndE.keep (sn_bin (cB hb bu_len (sl_rd (vr 1) sl_nil)) sn_int os_add))) sl_nil))))
  (sb_cons (se 5 (cD (rt.fn "_law_draw" (by decide +kernel)) (sl_rd (vr 0) (sl_rd sn_int sl_nil))))
  (sb_one (ss_if (sn_tcmp (vr 5) sn_int os_eq (nomark _))
  (sb_one (st 1 (sn_bin (SndE.read (SndE.keep (sn_sl (vr 1) so_none (so_some (vr 3))))) (SndE.read (SndE.keep (sn_sl (vr 1) (so_some (SndE.read (SndE.keep (sn_bin (vr 3) sn_int os_add)))) so_none))) os_add)))
  (sb_one (ss_if (sn_tcmp (vr 5) sn_int os_eq (nomark _))
  (sb_one (st 1 (sn_bin (SndE.read (SndE.keep (sn_bin (SndE.read (SndE.keep (sn_sl (vr 1) so_none (so_some (vr 3))))) (SndE.read (SndE.keep (sn_lst (n := 1) (sl_esc (cD (rt.fn "_law_menu" (by decide +kernel)) (sl_rd (vr 0) sl_nil)) sl_nil)))) os_add))) (SndE.read (SndE.keep (sn_sl (vr 1) (so_some (vr 3)) so_none))) os_add)))
  (sb_one (ss_if (sn_tcmp (vr 5) sn_int os_eq (nomark _))
  (sb_one (st 1 (sn_bin (SndE.read (SndE.keep (sn_bin (SndE.read (SndE.keep (sn_sl (vr 1) so_none (so_some (vr 3))))) (SndE.read (SndE.keep (sn_sl (vr 1) (so_some (vr 4)) (so_some (SndE.read (SndE.keep (sn_bin (vr 4) sn_int os_add))))))) os_add))) (SndE.read (SndE.keep (sn_sl (vr 1) (so_some (SndE.read (SndE.keep (sn_bin (vr 3) sn_int os_add)))) so_none))) os_add)))
  (sb_one (ss_if (sn_tcmp (vr 5) sn_int os_eq (nomark _))
  (sb_cons (st 6 (sn_join sn_str (SndE.read (SndE.keep (sn_sl (vr 1) (so_some (vr 3)) (so_some (SndE.read (SndE.keep (sn_bin (vr 3) sn_int os_add)))))))))
  (sb_cons (se 7 (cD (rt.fn "_law_draw" (by decide +kernel)) (sl_rd (vr 0) (sl_rd (SndE.read (SndE.keep (sn_bin (cB hb bu_len (sl_rd (vr 6) sl_nil)) sn_int os_add))) sl_nil))))
  (sb_cons (st 8 sn_str)
  (sb_cons (st 6 (sn_bin (SndE.read (SndE.keep (sn_bin (SndE.read (SndE.keep (sn_sl (vr 6) so_none (so_some (vr 7))))) (SndE.read (sn_ix (vr 8) (SndE.read (cD (rt.fn "_law_draw" (by decide +kernel)) (sl_rd (vr 0) (sl_rd (cB hb bu_len (sl_rd (vr 8) sl_nil)) sl_nil)))))) os_add))) (SndE.read (SndE.keep (sn_sl (vr 6) (so_some (SndE.read (SndE.keep (sn_bin (vr 7) (SndE.read (cD (rt.fn "_law_draw" (by decide +kernel)) (sl_rd (vr 0) (sl_rd sn_int sl_nil)))) os_add)))) so_none))) os_add))
  (sb_one (ss_frz (st 1 (sn_bin (SndE.read (SndE.keep (sn_bin (SndE.read (SndE.keep (sn_sl (vr 1) so_none (so_some (vr 3))))) (SndE.read (SndE.keep (sn_lst (n := 1) (sl_esc (v1 6) sl_nil)))) os_add))) (SndE.read (SndE.keep (sn_sl (vr 1) (so_some (SndE.read (SndE.keep (sn_bin (vr 3) sn_int os_add)))) so_none))) os_add))))))))
  (sb_one (st 1 (sn_bin (SndE.read (SndE.keep (sn_bin (SndE.read (SndE.keep (sn_sl (vr 1) so_none (so_some (vr 3))))) (SndE.read (SndE.keep (sn_lst (n := 1) (sl_esc (cD (rt.fn "_law_menu" (by decide +kernel)) (sl_rd (vr 0) sl_nil)) sl_nil)))) os_add))) (SndE.read (SndE.keep (sn_sl (vr 1) (so_some (SndE.read (SndE.keep (sn_bin (vr 3) sn_int os_add)))) so_none))) os_add)))))))))))))))
  (sb_one (rv 1)))
/-! law_read_value -/
abbrev N_law_read_value : List Str := ["_law_words", "_law_at", "_law_word", "_law_left", "_law_after", "_law_right", "_law_last"]
theorem sc_law_read_value : FnScope N_law_read_value ["_law_words", "_law_at"] (defScope (topS 40)) := ⟨rfl, rfl, rfl, by decide +kernel, rfl, by decide +kernel, by decide +kernel⟩
def sh_law_read_value (cl : Calls) : FS :=
  (sCons (sAsg (tgName 2) (bBin kIx (bVarR 0) (bVarR 1)))
  (sCons (sIf (bTst (bBin kIn (bVarR 2) (bTup (lCons (bC (D.str "+")) (lCons (bC (D.str "-")) (lCons (bC (D.str "*")) (lCons (bC (D.str "/")) (lCons (bC (D.str "mod")) (lCons (bC (D.str "<")) (lCons (bC (D.str "=")) lNil))))))))))
  (sCons (sAsg (tgTup (tgCons (tgName 3) (tgCons (tgName 4) tgNil))) (bDef cl "_law_read_value" [.rd, .rd] (lCons (bVarR 0) (lCons (bBin kAdd (bVarR 1) (bC (D.int 1))) lNil))))
  (sCons (sAsg (tgTup (tgCons (tgName 5) (tgCons (tgName 6) tgNil))) (bDef cl "_law_read_value" [.rd, .rd] (lCons (bVarR 0) (lCons (bVarR 4) lNil))))
  (sRet (bTup (lCons (bTup (lCons (bVar 2) (lCons (bVar 3) (lCons (bVar 5) lNil)))) (lCons (bVar 6) lNil))))))
  sNil)
  (sCons (sIf (bTru (bDef cl "_law_is_number" [.rd] (lCons (bVarR 2) lNil)))
  (sRet (bTup (lCons (bTup (lCons (bC (D.str "number")) (lCons (bCall kInt (lCons (bVarR 2) lNil)) lNil))) (lCons (bBin kAdd (bVarR 1) (bC (D.int 1))) lNil))))
  sNil)
  (sRet (bTup (lCons (bTup (lCons (bVar 2) lNil)) (lCons (bBin kAdd (bVarR 1) (bC (D.int 1))) lNil)))))))
theorem snd_law_read_value {M : Mo} (h : Stc M) (rt : Rt M) : SndB ⟨N_law_read_value, defScope (topS 40), none⟩ M (defBody (topS 40)) (sh_law_read_value M.cl) :=
  have hb := h.bn
  have hm := h.cold
  (sb_cons (se 2 (sn_ix (vr 0) (vr 1)))
  (sb_cons (ss_if (sn_tcmp (vr 2) (sn_tup (n := 7) (sl_esc sn_str (sl_esc sn_str (sl_esc sn_str (sl_esc sn_str (sl_esc sn_str (sl_esc sn_str (sl_esc sn_str sl_nil)))))))) os_in (by rfl))
  (sb_cons (ss_asg (cD (rt.fn "_law_read_value" (by decide +kernel)) (sl_rd (vr 0) (sl_rd (SndE.read (SndE.keep (sn_bin (vr 1) sn_int os_add))) sl_nil))) (sg_tup hm (sgs_cons (tn 3) (sgs_cons (tn 4) sgs_nil)) (tgCons_len (tgCons_len tgNil_len))))
  (sb_cons (ss_asg (cD (rt.fn "_law_read_value" (by decide +kernel)) (sl_rd (vr 0) (sl_rd (vr 4) sl_nil))) (sg_tup hm (sgs_cons (tn 5) (sgs_cons (tn 6) sgs_nil)) (tgCons_len (tgCons_len tgNil_len))))
  (sb_one (ss_ret (sn_tup (n := 2) (sl_esc (sn_tup (n := 3) (sl_esc (v1 2) (sl_esc (v1 3) (sl_esc (v1 5) sl_nil)))) (sl_esc (v1 6) sl_nil)))))))
  sb_nil)
  (sb_cons (ss_if (sn_tru (SndE.read (cD (rt.fn "_law_is_number" (by decide +kernel)) (sl_rd (vr 2) sl_nil))))
  (sb_one (ss_ret (sn_tup (n := 2) (sl_esc (sn_tup (n := 2) (sl_esc sn_str (sl_esc (cT hb bu_int (sl_rd (vr 2) sl_nil)) sl_nil))) (sl_esc (SndE.keep (sn_bin (vr 1) sn_int os_add)) sl_nil)))))
  sb_nil)
  (sb_one (ss_ret (sn_tup (n := 2) (sl_esc (sn_tup (n := 1) (sl_esc (v1 2) sl_nil)) (sl_esc (SndE.keep (sn_bin (vr 1) sn_int os_add)) sl_nil))))))))
/-! law_rules -/
abbrev N_law_rules : List Str := ["_law_words", "_law_rules_here", "_law_at", "_law_turn", "_law_test", "_law_deed", "_law_number", "_law_after"]
theorem sc_law_rules : FnScope N_law_rules ["_law_words"] (defScope (topS 41)) := ⟨rfl, rfl, rfl, by decide +kernel, rfl, by decide +kernel, by decide +kernel⟩
def lb_law_rules_0 (cl : Calls) : FS :=
  (sIf (bTst (bBin kLt (bVarR 2) (bCall kLen (lCons (bVarR 0) lNil))))
  (sCons (sAsg (tgTup (tgCons (tgName 4) (tgCons (tgName 2) tgNil))) (bDef cl "_law_read_value" [.rd, .rd] (lCons (bVarR 0) (lCons (bBin kAdd (bVarR 2) (bC (D.int 1))) lNil))))
  (sCons (sSet 5 (bTup (lCons (bC (D.str "answer")) lNil)))
  (sCons (sIf (bTst (bBin kEq (bBin kIx (bVarR 0) (bVarR 2)) (bC (D.str "call"))))
  (sCons (sSet 5 (bTup (lCons (bC (D.str "call")) (lCons (bBin kIx (bVarR 0) (bBin kAdd (bVarR 2) (bC (D.int 1)))) (lCons (bBin kIx (bVarR 0) (bBin kAdd (bVarR 2) (bC (D.int 2)))) lNil)))))
  (sSet 2 (bBin kAdd (bVarR 2) (bC (D.int 2)))))
  sNil)
  (sCons (sAsg (tgTup (tgCons (tgName 6) (tgCons (tgName 2) tgNil))) (bDef cl "_law_read_value" [.rd, .rd] (lCons (bVarR 0) (lCons (bBin kAdd (bVarR 2) (bC (D.int 1))) lNil))))
  (sCons (sAsg (tgTup (tgCons (tgName 7) (tgCons (tgName 2) tgNil))) (bDef cl "_law_read_value" [.rd, .rd] (lCons (bVarR 0) (lCons (bVarR 2) lNil))))
  (sApp 1 (bTup (lCons (bVar 4) (lCons (bBin kAdd (bVarR 5) (bTup (lCons (bVar 6) lNil))) (lCons (bVar 7) lNil))))))))))
  sNil)
def sh_law_rules (cl : Calls) : FS :=
  (sCons (sSet 1 (bLst lNil))
  (sCons (sSet 2 (bC (D.int 0)))
  (sCons (sFor (iRng1D (bC (D.int 50))) (tgName 3)
  (lb_law_rules_0 cl))
  (sRet (bCall kTuple (lCons (bVarR 1) lNil))))))
theorem snd_law_rules {M : Mo} (h : Stc M) (rt : Rt M) : SndB ⟨N_law_rules, defScope (topS 41), none⟩ M (defBody (topS 41)) (sh_law_rules M.cl) :=
  have hb := h.bn
  have hm := h.cold
  (sb_cons (st 1 (sn_lst (n := 0) sl_nil))
  (sb_cons (st 2 sn_int)
  (sb_cons (ss_for hm (rg1 hb sn_int) (tn 3)
  (sb_one (ss_if (sn_tcmp (vr 2) (cB hb bu_len (sl_rd (vr 0) sl_nil)) os_lt (nomark _))
  (sb_cons (ss_asg (cD (rt.fn "_law_read_value" (by decide +kernel)) (sl_rd (vr 0) (sl_rd (SndE.read (SndE.keep (sn_bin (vr 2) sn_int os_add))) sl_nil))) (sg_tup hm (sgs_cons (tn 4) (sgs_cons (tn 2) sgs_nil)) (tgCons_len (tgCons_len tgNil_len))))
  (sb_cons (st 5 (sn_tup (n := 1) (sl_esc sn_str sl_nil)))
  (sb_cons (ss_if (sn_tcmp (SndE.read (sn_ix (vr 0) (vr 2))) sn_str os_eq (nomark _))
  (sb_cons (st 5 (sn_tup (n := 3) (sl_esc sn_str (sl_esc (sn_ix (vr 0) (SndE.read (SndE.keep (sn_bin (vr 2) sn_int os_add)))) (sl_esc (sn_ix (vr 0) (SndE.read (SndE.keep (sn_bin (vr 2) sn_int os_add)))) sl_nil)))))
  (sb_one (st 2 (sn_bin (vr 2) sn_int os_add))))
  sb_nil)
  (sb_cons (ss_asg (cD (rt.fn "_law_read_value" (by decide +kernel)) (sl_rd (vr 0) (sl_rd (SndE.read (SndE.keep (sn_bin (vr 2) sn_int os_add))) sl_nil))) (sg_tup hm (sgs_cons (tn 6) (sgs_cons (tn 2) sgs_nil)) (tgCons_len (tgCons_len tgNil_len))))
  (sb_cons (ss_asg (cD (rt.fn "_law_read_value" (by decide +kernel)) (sl_rd (vr 0) (sl_rd (vr 2) sl_nil))) (sg_tup hm (sgs_cons (tn 7) (sgs_cons (tn 2) sgs_nil)) (tgCons_len (tgCons_len tgNil_len))))
  (sb_one (sap 1 (sn_tup (n := 3) (sl_esc (v1 4) (sl_esc (SndE.keep (sn_bin (vr 5) (sn_tup (n := 1) (sl_esc (v1 6) sl_nil)) os_add)) (sl_esc (v1 7) sl_nil)))))))))))
  sb_nil)))
  (sb_one (ss_ret (cT hb bu_tuple (sl_rd (vr 1) sl_nil)))))))
/-! law -/
abbrev N_law : List Str := ["_law_script", "_law_pool_here", "_law_words", "_law_k", "_law_word", "_law_turn", "_law_text", "_law_wrong_here", "_law_outsider", "e"]
theorem sc_law : FnScope N_law ["_law_script"] (defScope (topS 42)) := ⟨rfl, rfl, rfl, by decide +kernel, rfl, by decide +kernel, by decide +kernel⟩
def lb_law_0 (cl : Calls) : FS :=
  (sSet 2 (bBin kAdd (bVarR 2) (bDef cl "_law_rule_words" [.rd] (lCons (bVarR 1) lNil))))
def lb_law_1 (cl : Calls) : FS :=
  (sIf (bTst (bBin kEq (bDef cl "_law_wrong" [.rd] (lCons (bBin kAdd (bVarR 2) (bLst (lCons (bVar 4) lNil))) lNil)) (bCall kLen (lCons (bVarR 2) lNil))))
  (sAsg (tgName 4) (bDef cl "_law_menu" [.rd] (lCons (bVarR 1) lNil)))
  sNil)
def lb_law_2 (cl : Calls) : FS :=
  (sCons (sAsg (tgName 4) (bDef cl "_law_menu" [.rd] (lCons (bVarR 1) lNil)))
  (sCons (sFor (iRng1D (bC (D.int 8))) (tgName 5)
  (lb_law_1 cl))
  (sApp 2 (bVar 4))))
def sh_law (cl : Calls) : FS :=
  (sCons (sAsg (tgName 1) (bDef cl "_law_pool" [.rd, .esc] (lCons (bVarR 0) (lCons (bC (D.int 0)) lNil))))
  (sCons (sSet 2 (bLst lNil))
  (sCons (sFor (iRng1D (bDef cl "_law_draw" [.rd, .rd] (lCons (bVarR 1) (lCons (bC (D.int 6)) lNil)))) (tgName 3)
  (lb_law_0 cl))
  (sCons (sIf (bTst (bBin kEq (bDef cl "_law_draw" [.rd, .rd] (lCons (bVarR 1) (lCons (bC (D.int 8)) lNil))) (bC (D.int 0))))
  (sSet 2 (bBin kMulL (bLst (lCons (bC (D.str "when")) (lCons (bC (D.str "1")) (lCons (bC (D.str "answer")) (lCons (bC (D.str "0")) (lCons (bC (D.str "cell")) lNil)))))) (bBin kAdd (bC (D.int 39)) (bDef cl "_law_draw" [.rd, .rd] (lCons (bVarR 1) (lCons (bC (D.int 4)) lNil))))))
  sNil)
  (sCons (sIf (bTst (bBin kEq (bDef cl "_law_draw" [.rd, .rd] (lCons (bVarR 1) (lCons (bC (D.int 2)) lNil))) (bC (D.int 0))))
  (sFrz [2] (sAsg (tgName 2) (bDef cl "_law_changed" [.rd, .esc] (lCons (bVarR 1) (lCons (bVar 2) lNil)))))
  (sIf (bTst (bBin kEq (bDef cl "_law_draw" [.rd, .rd] (lCons (bVarR 1) (lCons (bC (D.int 3)) lNil))) (bC (D.int 0))))
  (sCons (sSet 2 (bSl (bSl (bVarR 2) oNone (oSome (bDef cl "_law_draw" [.rd, .rd] (lCons (bVarR 1) (lCons (bBin kAdd (bCall kLen (lCons (bVarR 2) lNil)) (bC (D.int 1))) lNil))))) (oSome (bNeg (bC (D.int 60)))) oNone))
  (sFor (iRng1D (bDef cl "_law_draw" [.rd, .rd] (lCons (bVarR 1) (lCons (bC (D.int 25)) lNil)))) (tgName 3)
  (lb_law_2 cl)))
  sNil))
  (sCons (sSet 6 (bMethS kJoin (bC (D.str " ")) (bVarR 2)))
  (sCons (sSet 2 (bMethS kSplit (bVarR 6) (bC (D.str " "))))
  (sCons (sIf (bTst (bBin kEq (bVarR 6) (bC (D.str ""))))
  (sSet 2 (bLst lNil))
  sNil)
  (sCons (sAsg (tgName 7) (bDef cl "_law_wrong" [.rd] (lCons (bVarR 2) lNil)))
  (sCons (sTry 9 mt_HouseError
  (sAsg (tgName 8) (bDef cl "read_outsider" [.rd] (lCons (bVarR 6) lNil)))
  (sCons (sIf (bOrT (bNotT (bTru (bXis 9 mx_BadText))) (bTru (bXisT 9 [mx_BadAct, mx_BadGuard, mx_BadHouse, mx_BadPaper, mx_TooLarge])))
  (sRet (bC (D.bl false)))
  sNil)
  (sRet (bAndV (bNotN (bVarR 7)) (bDef cl "_law_same!" [.rd, .rd] (lCons (bXat 9 xc_at "at") (lCons (bVarR 7) lNil)))))))
  (sRet (bAndV (bIsN (bVarR 7)) (bAndV (bDef cl "_law_same" [.rd, .rd] (lCons (bAttr "rules" (bVarR 8)) (lCons (bDef cl "_law_rules" [.rd] (lCons (bVarR 2) lNil)) lNil))) (bDef cl "_law_same" [.rd, .rd] (lCons (bDef cl "outsider_text" [.rd] (lCons (bVarR 8) lNil)) (lCons (bVarR 6) lNil))))))))))))))))
theorem snd_law {M : Mo} (h : Stc M) (rt : Rt M) : SndB ⟨N_law, defScope (topS 42), none⟩ M (defBody (topS 42)) (sh_law M.cl) :=
  have hb := h.bn
  have hm := h.cold
  (sb_cons (se 1 (cD (rt.fn "_law_pool" (by decide +kernel)) (sl_rd (vr 0) (sl_esc sn_int sl_nil))))
  (sb_cons (st 2 (sn_lst (n := 0) sl_nil))
  (sb_cons (ss_for hm (rg1 hb (SndE.read (cD (rt.fn "_law_draw" (by decide +kernel)) (sl_rd (vr 1) (sl_rd sn_int sl_nil))))) (tn 3)
  (sb_one (st 2 (sn_bin (vr 2) (SndE.read (cD (rt.fn "_law_rule_words" (by decide +kernel)) (sl_rd (vr 1) sl_nil))) os_add))))
  (sb_cons (ss_if (sn_tcmp (SndE.read (cD (rt.fn "_law_draw" (by decide +kernel)) (sl_rd (vr 1) (sl_rd sn_int sl_nil)))) sn_int os_eq (nomark _))
  (sb_one (st 2 (sn_bin (SndE.read (SndE.keep (sn_lst (n := 5) (sl_esc sn_str (sl_esc sn_str (sl_esc sn_str (sl_esc sn_str (sl_esc sn_str sl_nil)))))))) (SndE.read (SndE.keep (sn_bin sn_int (SndE.read (cD (rt.fn "_law_draw" (by decide +kernel)) (sl_rd (vr 1) (sl_rd sn_int sl_nil)))) os_add))) os_mulL)))
  sb_nil)
  (sb_cons (ss_if (sn_tcmp (SndE.read (cD (rt.fn "_law_draw" (by decide +kernel)) (sl_rd (vr 1) (sl_rd sn_int sl_nil)))) sn_int os_eq (nomark _))
  (sb_one (ss_frz (se 2 (cD (rt.fn "_law_changed" (by decide +kernel)) (sl_rd (vr 1) (sl_esc (v1 2) sl_nil))))))
  (sb_one (ss_if (sn_tcmp (SndE.read (cD (rt.fn "_law_draw" (by decide +kernel)) (sl_rd (vr 1) (sl_rd sn_int sl_nil)))) sn_int os_eq (nomark _))
  (sb_cons (st 2 (sn_sl (SndE.read (SndE.keep (sn_sl (vr 2) so_none (so_some (SndE.read (cD (rt.fn "_law_draw" (by decide +kernel)) (sl_rd (vr 1) (sl_rd (SndE.read (SndE.keep (sn_bin (cB hb bu_len (sl_rd (vr 2) sl_nil)) sn_int os_add))) sl_nil)))))))) (so_some (sn_neg sn_int)) so_none))
  (sb_one (ss_for hm (rg1 hb (SndE.read (cD (rt.fn "_law_draw" (by decide +kernel)) (sl_rd (vr 1) (sl_rd sn_int sl_nil))))) (tn 3)
  (sb_cons (se 4 (cD (rt.fn "_law_menu" (by decide +kernel)) (sl_rd (vr 1) sl_nil)))
  (sb_cons (ss_for hm (rg1 hb sn_int) (tn 5)
  (sb_one (ss_if (sn_tcmp (SndE.read (cD (rt.fn "_law_wrong" (by decide +kernel)) (sl_rd (SndE.read (SndE.keep (sn_bin (vr 2) (SndE.read (SndE.keep (sn_lst (n := 1) (sl_esc (v1 4) sl_nil)))) os_add))) sl_nil))) (cB hb bu_len (sl_rd (vr 2) sl_nil)) os_eq (nomark _))
  (sb_one (se 4 (cD (rt.fn "_law_menu" (by decide +kernel)) (sl_rd (vr 1) sl_nil))))
  sb_nil)))
  (sb_one (sap 2 (v1 4))))))))
  sb_nil)))
  (sb_cons (st 6 (sn_join sn_str (vr 2)))
  (sb_cons (st 2 (sn_split (vr 6) sn_str))
  (sb_cons (ss_if (sn_tcmp (vr 6) sn_str os_eq (nomark _))
  (sb_one (st 2 (sn_lst (n := 0) sl_nil)))
  sb_nil)
  (sb_cons (se 7 (cD (rt.fn "_law_wrong" (by decide +kernel)) (sl_rd (vr 2) sl_nil)))
  (sb_cons (ss_try hm rfl rfl (by decide +kernel) (by decide +kernel) h.y_HouseError
  (sb_one (se 8 (cD (rt.fn "read_outsider" (by decide +kernel)) (sl_rd (vr 6) sl_nil))))
  (hotP h.hotS rt.hotR fun h rt => have hb := h.bn; (sb_cons (ss_if (sn_tw (sw_or (sn_tnot (sn_tru (xis hb 9 h.z_BadText))) (sw_or1 (sn_tru (xist hb 9 (cl_cons h.z_BadAct (cl_cons h.z_BadGuard (cl_cons h.z_BadHouse (cl_cons h.z_BadPaper (cl_cons h.z_TooLarge cl_nil))))))))))
  (sb_one (ss_ret sn_bl))
  sb_nil)
  (sb_one (ss_ret (sn_and (sn_notN (vr 7)) (sn_one (cDY rt.fw_law_same (sl_rd (SndE.read (xat 9 h.w_at)) (sl_rd (vr 7) sl_nil))))))))))
  (sb_one (ss_ret (sn_and (sn_isN (vr 7)) (sn_and (SndE.read (cD (rt.fn "_law_same" (by decide +kernel)) (sl_rd (SndE.read (sn_attr (vr 8))) (sl_rd (SndE.read (cD (rt.fn "_law_rules" (by decide +kernel)) (sl_rd (vr 2) sl_nil))) sl_nil)))) (sn_one (cD (rt.fn "_law_same" (by decide +kernel)) (sl_rd (SndE.read (cD (rt.fn "outsider_text" (by decide +kernel)) (sl_rd (vr 8) sl_nil))) (sl_rd (vr 6) sl_nil))))))))))))))))))
def delta : Str → Option Df := fun x =>
  if x = "is_name" then some (dfD 1 2 sh_is_name) else
  if x = "number_of" then some (dfD 1 3 sh_number_of) else
  if x = "Cursor.__init__" then some (dfD 2 2 sh_Cursor___init__) else
  if x = "Cursor.word" then some (dfD 1 1 sh_Cursor_word) else
  if x = "Cursor.fail" then some (dfD 1 1 sh_Cursor_fail) else
  if x = "Cursor.take" then some (dfD 2 2 sh_Cursor_take) else
  if x = "Cursor.take_one" then some (dfD 2 3 sh_Cursor_take_one) else
  if x = "Cursor.take_new" then some (dfD 2 3 sh_Cursor_take_new) else
  if x = "Cursor.take_number" then some (dfD 3 4 sh_Cursor_take_number) else
  if x = "Outsider.__init__" then some (dfD 2 2 sh_Outsider___init__) else
  if x = "Outsider.__eq__" then some (dfD 2 2 sh_Outsider___eq__) else
  if x = "read_outsider" then some (dfD 1 4 sh_read_outsider) else
  if x = "read_deed" then some (dfD 1 4 sh_read_deed) else
  if x = "read_sight" then some (dfD 2 4 sh_read_sight) else
  if x = "sight_words" then some (dfD 1 1 sh_sight_words) else
  if x = "outsider_text" then some (dfD 1 5 sh_outsider_text) else
  if x = "_law_pool" then some (dfD 2 2 sh_law_pool) else
  if x = "_law_draw" then some (dfD 2 4 sh_law_draw) else
  if x = "_law_same" then some (dfD 2 3 sh_law_same) else
  if x = "_law_is_name" then some (dfD 1 3 sh_law_is_name) else
  if x = "_law_is_number" then some (dfD 1 2 sh_law_is_number) else
  if x = "_law_next" then some (dfD 3 4 sh_law_next) else
  if x = "_law_wrong" then some (dfD 1 4 sh_law_wrong) else
  if x = "_law_value_words" then some (dfD 2 4 sh_law_value_words) else
  if x = "_law_chain" then some (dfD 1 2 sh_law_chain) else
  if x = "_law_drawn_name" then some (dfD 1 4 sh_law_drawn_name) else
  if x = "_law_rule_words" then some (dfD 1 5 sh_law_rule_words) else
  if x = "_law_menu" then some (dfD 1 2 sh_law_menu) else
  if x = "_law_changed" then some (dfD 2 9 sh_law_changed) else
  if x = "_law_read_value" then some (dfD 2 7 sh_law_read_value) else
  if x = "_law_rules" then some (dfD 1 8 sh_law_rules) else
  if x = "law" then some (dfD 1 10 sh_law) else
  if x = "_law_same!" then some (dfD 2 3 sh_law_same_h) else
  if x = "Cursor" then some (dfC "Cursor" "Cursor.__init__") else
  if x = "Outsider" then some (dfC "Outsider" "Outsider.__init__") else
  if x = "BadText" then some (dfX "BadText" "at") else
  if x = "BadAct" then some (dfX "BadAct" "at") else
  if x = "TooLarge" then some (dfX "TooLarge" "what") else
  if x = "BadGuard" then some (dfX "BadGuard" "at") else
  if x = "BadPaper" then some (dfX "BadPaper" "at") else
  if x = "BadHouse" then some (dfX "BadHouse" "what") else
  none
theorem run_x_BadText (n : Nat) (m : Md) (d : D) (st : Sto) : interp delta (n + 1) "BadText" [(m, d)] st = .exc ⟨"BadText", [("at", d)]⟩ st := interp_eq (Δ := delta) (d := dfX "BadText" "at") rfl [(m, d)] st
theorem run_x_BadAct (n : Nat) (m : Md) (d : D) (st : Sto) : interp delta (n + 1) "BadAct" [(m, d)] st = .exc ⟨"BadAct", [("at", d)]⟩ st := interp_eq (Δ := delta) (d := dfX "BadAct" "at") rfl [(m, d)] st
theorem run_x_TooLarge (n : Nat) (m : Md) (d : D) (st : Sto) : interp delta (n + 1) "TooLarge" [(m, d)] st = .exc ⟨"TooLarge", [("what", d)]⟩ st := interp_eq (Δ := delta) (d := dfX "TooLarge" "what") rfl [(m, d)] st
theorem run_x_BadGuard (n : Nat) (m : Md) (d : D) (st : Sto) : interp delta (n + 1) "BadGuard" [(m, d)] st = .exc ⟨"BadGuard", [("at", d)]⟩ st := interp_eq (Δ := delta) (d := dfX "BadGuard" "at") rfl [(m, d)] st
theorem run_x_BadPaper (n : Nat) (m : Md) (d : D) (st : Sto) : interp delta (n + 1) "BadPaper" [(m, d)] st = .exc ⟨"BadPaper", [("at", d)]⟩ st := interp_eq (Δ := delta) (d := dfX "BadPaper" "at") rfl [(m, d)] st
theorem run_x_BadHouse (n : Nat) (m : Md) (d : D) (st : Sto) : interp delta (n + 1) "BadHouse" [(m, d)] st = .exc ⟨"BadHouse", [("what", d)]⟩ st := interp_eq (Δ := delta) (d := dfX "BadHouse" "what") rfl [(m, d)] st
theorem run_is_name (n : Nat) {m0 : Md} {d0 : D} (st : Sto) : interp delta (n + 1) "is_name" [(m0, d0)] st = fin (sh_is_name (interp delta n) [slotA (m0, d0), none] st) := interp_eq (Δ := delta) (d := dfD 1 2 sh_is_name) rfl _ st
theorem run_number_of (n : Nat) {m0 : Md} {d0 : D} (st : Sto) : interp delta (n + 1) "number_of" [(m0, d0)] st = fin (sh_number_of (interp delta n) [slotA (m0, d0), none, none] st) := interp_eq (Δ := delta) (d := dfD 1 3 sh_number_of) rfl _ st
theorem run_Cursor___init__ (n : Nat) {m0 m1 : Md} {d0 d1 : D} (st : Sto) : interp delta (n + 1) "Cursor.__init__" [(m0, d0), (m1, d1)] st = fin (sh_Cursor___init__ (interp delta n) [slotA (m0, d0), slotA (m1, d1)] st) := interp_eq (Δ := delta) (d := dfD 2 2 sh_Cursor___init__) rfl _ st
theorem run_Cursor_word (n : Nat) {m0 : Md} {d0 : D} (st : Sto) : interp delta (n + 1) "Cursor.word" [(m0, d0)] st = fin (sh_Cursor_word (interp delta n) [slotA (m0, d0)] st) := interp_eq (Δ := delta) (d := dfD 1 1 sh_Cursor_word) rfl _ st
theorem run_Cursor_fail (n : Nat) {m0 : Md} {d0 : D} (st : Sto) : interp delta (n + 1) "Cursor.fail" [(m0, d0)] st = fin (sh_Cursor_fail (interp delta n) [slotA (m0, d0)] st) := interp_eq (Δ := delta) (d := dfD 1 1 sh_Cursor_fail) rfl _ st
theorem run_Cursor_take (n : Nat) {m0 m1 : Md} {d0 d1 : D} (st : Sto) : interp delta (n + 1) "Cursor.take" [(m0, d0), (m1, d1)] st = fin (sh_Cursor_take (interp delta n) [slotA (m0, d0), slotA (m1, d1)] st) := interp_eq (Δ := delta) (d := dfD 2 2 sh_Cursor_take) rfl _ st
theorem run_Cursor_take_one (n : Nat) {m0 m1 : Md} {d0 d1 : D} (st : Sto) : interp delta (n + 1) "Cursor.take_one" [(m0, d0), (m1, d1)] st = fin (sh_Cursor_take_one (interp delta n) [slotA (m0, d0), slotA (m1, d1), none] st) := interp_eq (Δ := delta) (d := dfD 2 3 sh_Cursor_take_one) rfl _ st
theorem run_Cursor_take_new (n : Nat) {m0 m1 : Md} {d0 d1 : D} (st : Sto) : interp delta (n + 1) "Cursor.take_new" [(m0, d0), (m1, d1)] st = fin (sh_Cursor_take_new (interp delta n) [slotA (m0, d0), slotA (m1, d1), none] st) := interp_eq (Δ := delta) (d := dfD 2 3 sh_Cursor_take_new) rfl _ st
theorem run_Cursor_take_number (n : Nat) {m0 m1 m2 : Md} {d0 d1 d2 : D} (st : Sto) : interp delta (n + 1) "Cursor.take_number" [(m0, d0), (m1, d1), (m2, d2)] st = fin (sh_Cursor_take_number (interp delta n) [slotA (m0, d0), slotA (m1, d1), slotA (m2, d2), none] st) := interp_eq (Δ := delta) (d := dfD 3 4 sh_Cursor_take_number) rfl _ st
theorem run_Outsider___init__ (n : Nat) {m0 m1 : Md} {d0 d1 : D} (st : Sto) : interp delta (n + 1) "Outsider.__init__" [(m0, d0), (m1, d1)] st = fin (sh_Outsider___init__ (interp delta n) [slotA (m0, d0), slotA (m1, d1)] st) := interp_eq (Δ := delta) (d := dfD 2 2 sh_Outsider___init__) rfl _ st
theorem run_Outsider___eq__ (n : Nat) {m0 m1 : Md} {d0 d1 : D} (st : Sto) : interp delta (n + 1) "Outsider.__eq__" [(m0, d0), (m1, d1)] st = fin (sh_Outsider___eq__ (interp delta n) [slotA (m0, d0), slotA (m1, d1)] st) := interp_eq (Δ := delta) (d := dfD 2 2 sh_Outsider___eq__) rfl _ st
theorem run_read_outsider (n : Nat) {m0 : Md} {d0 : D} (st : Sto) : interp delta (n + 1) "read_outsider" [(m0, d0)] st = fin (sh_read_outsider (interp delta n) [slotA (m0, d0), none, none, none] st) := interp_eq (Δ := delta) (d := dfD 1 4 sh_read_outsider) rfl _ st
theorem run_read_deed (n : Nat) {m0 : Md} {d0 : D} (st : Sto) : interp delta (n + 1) "read_deed" [(m0, d0)] st = fin (sh_read_deed (interp delta n) [slotA (m0, d0), none, none, none] st) := interp_eq (Δ := delta) (d := dfD 1 4 sh_read_deed) rfl _ st
theorem run_read_sight (n : Nat) {m0 m1 : Md} {d0 d1 : D} (st : Sto) : interp delta (n + 1) "read_sight" [(m0, d0), (m1, d1)] st = fin (sh_read_sight (interp delta n) [slotA (m0, d0), slotA (m1, d1), none, none] st) := interp_eq (Δ := delta) (d := dfD 2 4 sh_read_sight) rfl _ st
theorem run_sight_words (n : Nat) {m0 : Md} {d0 : D} (st : Sto) : interp delta (n + 1) "sight_words" [(m0, d0)] st = fin (sh_sight_words (interp delta n) [slotA (m0, d0)] st) := interp_eq (Δ := delta) (d := dfD 1 1 sh_sight_words) rfl _ st
theorem run_outsider_text (n : Nat) {m0 : Md} {d0 : D} (st : Sto) : interp delta (n + 1) "outsider_text" [(m0, d0)] st = fin (sh_outsider_text (interp delta n) [slotA (m0, d0), none, none, none, none] st) := interp_eq (Δ := delta) (d := dfD 1 5 sh_outsider_text) rfl _ st
theorem run_law_pool (n : Nat) {m0 m1 : Md} {d0 d1 : D} (st : Sto) : interp delta (n + 1) "_law_pool" [(m0, d0), (m1, d1)] st = fin (sh_law_pool (interp delta n) [slotA (m0, d0), slotA (m1, d1)] st) := interp_eq (Δ := delta) (d := dfD 2 2 sh_law_pool) rfl _ st
theorem run_law_draw (n : Nat) {m0 m1 : Md} {d0 d1 : D} (st : Sto) : interp delta (n + 1) "_law_draw" [(m0, d0), (m1, d1)] st = fin (sh_law_draw (interp delta n) [slotA (m0, d0), slotA (m1, d1), none, none] st) := interp_eq (Δ := delta) (d := dfD 2 4 sh_law_draw) rfl _ st
theorem run_law_same (n : Nat) {m0 m1 : Md} {d0 d1 : D} (st : Sto) : interp delta (n + 1) "_law_same" [(m0, d0), (m1, d1)] st = fin (sh_law_same (interp delta n) [slotA (m0, d0), slotA (m1, d1), none] st) := interp_eq (Δ := delta) (d := dfD 2 3 sh_law_same) rfl _ st
theorem run_law_is_name (n : Nat) {m0 : Md} {d0 : D} (st : Sto) : interp delta (n + 1) "_law_is_name" [(m0, d0)] st = fin (sh_law_is_name (interp delta n) [slotA (m0, d0), none, none] st) := interp_eq (Δ := delta) (d := dfD 1 3 sh_law_is_name) rfl _ st
theorem run_law_is_number (n : Nat) {m0 : Md} {d0 : D} (st : Sto) : interp delta (n + 1) "_law_is_number" [(m0, d0)] st = fin (sh_law_is_number (interp delta n) [slotA (m0, d0), none] st) := interp_eq (Δ := delta) (d := dfD 1 2 sh_law_is_number) rfl _ st
theorem run_law_next (n : Nat) {m0 m1 m2 : Md} {d0 d1 d2 : D} (st : Sto) : interp delta (n + 1) "_law_next" [(m0, d0), (m1, d1), (m2, d2)] st = fin (sh_law_next (interp delta n) [slotA (m0, d0), slotA (m1, d1), slotA (m2, d2), none] st) := interp_eq (Δ := delta) (d := dfD 3 4 sh_law_next) rfl _ st
theorem run_law_wrong (n : Nat) {m0 : Md} {d0 : D} (st : Sto) : interp delta (n + 1) "_law_wrong" [(m0, d0)] st = fin (sh_law_wrong (interp delta n) [slotA (m0, d0), none, none, none] st) := interp_eq (Δ := delta) (d := dfD 1 4 sh_law_wrong) rfl _ st
theorem run_law_value_words (n : Nat) {m0 m1 : Md} {d0 d1 : D} (st : Sto) : interp delta (n + 1) "_law_value_words" [(m0, d0), (m1, d1)] st = fin (sh_law_value_words (interp delta n) [slotA (m0, d0), slotA (m1, d1), none, none] st) := interp_eq (Δ := delta) (d := dfD 2 4 sh_law_value_words) rfl _ st
theorem run_law_chain (n : Nat) {m0 : Md} {d0 : D} (st : Sto) : interp delta (n + 1) "_law_chain" [(m0, d0)] st = fin (sh_law_chain (interp delta n) [slotA (m0, d0), none] st) := interp_eq (Δ := delta) (d := dfD 1 2 sh_law_chain) rfl _ st
theorem run_law_drawn_name (n : Nat) {m0 : Md} {d0 : D} (st : Sto) : interp delta (n + 1) "_law_drawn_name" [(m0, d0)] st = fin (sh_law_drawn_name (interp delta n) [slotA (m0, d0), none, none, none] st) := interp_eq (Δ := delta) (d := dfD 1 4 sh_law_drawn_name) rfl _ st
theorem run_law_rule_words (n : Nat) {m0 : Md} {d0 : D} (st : Sto) : interp delta (n + 1) "_law_rule_words" [(m0, d0)] st = fin (sh_law_rule_words (interp delta n) [slotA (m0, d0), none, none, none, none] st) := interp_eq (Δ := delta) (d := dfD 1 5 sh_law_rule_words) rfl _ st
theorem run_law_menu (n : Nat) {m0 : Md} {d0 : D} (st : Sto) : interp delta (n + 1) "_law_menu" [(m0, d0)] st = fin (sh_law_menu (interp delta n) [slotA (m0, d0), none] st) := interp_eq (Δ := delta) (d := dfD 1 2 sh_law_menu) rfl _ st
theorem run_law_changed (n : Nat) {m0 m1 : Md} {d0 d1 : D} (st : Sto) : interp delta (n + 1) "_law_changed" [(m0, d0), (m1, d1)] st = fin (sh_law_changed (interp delta n) [slotA (m0, d0), slotA (m1, d1), none, none, none, none, none, none, none] st) := interp_eq (Δ := delta) (d := dfD 2 9 sh_law_changed) rfl _ st
theorem run_law_read_value (n : Nat) {m0 m1 : Md} {d0 d1 : D} (st : Sto) : interp delta (n + 1) "_law_read_value" [(m0, d0), (m1, d1)] st = fin (sh_law_read_value (interp delta n) [slotA (m0, d0), slotA (m1, d1), none, none, none, none, none] st) := interp_eq (Δ := delta) (d := dfD 2 7 sh_law_read_value) rfl _ st
theorem run_law_rules (n : Nat) {m0 : Md} {d0 : D} (st : Sto) : interp delta (n + 1) "_law_rules" [(m0, d0)] st = fin (sh_law_rules (interp delta n) [slotA (m0, d0), none, none, none, none, none, none, none] st) := interp_eq (Δ := delta) (d := dfD 1 8 sh_law_rules) rfl _ st
theorem run_law (n : Nat) {m0 : Md} {d0 : D} (st : Sto) : interp delta (n + 1) "law" [(m0, d0)] st = fin (sh_law (interp delta n) [slotA (m0, d0), none, none, none, none, none, none, none, none, none] st) := interp_eq (Δ := delta) (d := dfD 1 10 sh_law) rfl _ st
theorem run_law_same_h (n : Nat) {m0 m1 : Md} {d0 d1 : D} (st : Sto) : interp delta (n + 1) "_law_same!" [(m0, d0), (m1, d1)] st = fin (sh_law_same_h (interp delta n) [slotA (m0, d0), slotA (m1, d1), none] st) := interp_eq (Δ := delta) (d := dfD 2 3 sh_law_same_h) rfl _ st
theorem run_mk_Cursor (n : Nat) (as : List (Md × D)) (st : Sto) : interp delta (n + 1) "Cursor" as st = mkR "Cursor" (interp delta n "Cursor.__init__") as st := interp_eq (Δ := delta) (d := dfC "Cursor" "Cursor.__init__") rfl as st
theorem run_mk_Outsider (n : Nat) (as : List (Md × D)) (st : Sto) : interp delta (n + 1) "Outsider" as st = mkR "Outsider" (interp delta n "Outsider.__init__") as st := interp_eq (Δ := delta) (d := dfC "Outsider" "Outsider.__init__") rfl as st
end K35

/-! ### the texts of outsiders: the plain law -/
namespace K35
open PySem L2 NC
def signs : List Str := ["+", "-", "*", "/", "mod", "<", "="]
def seen : List Str := ["asked", "deep", "failed", "cell"]
inductive Si where
  | see (x : Str)
  | num (n : Nat)
  | op (s : Str) (l r : Si)
def Si.d : Si → D
  | .see x => .tup [.str x]
  | .num n => .tup [.str "number", .int n]
  | .op s l r => .tup [.str s, l.d, r.d]
def Si.w : Si → List Str
  | .see x => [x]
  | .num n => [numW n]
  | .op s l r => s :: (l.w ++ r.w)
def Si.ok : Nat → Si → Prop
  | _, .see x => x ∈ seen
  | _, .num n => n ≤ 65535
  | 0, .op _ _ _ => False
  | k + 1, .op s l r => s ∈ signs ∧ l.ok k ∧ r.ok k
inductive De where
  | ans (s : Si)
  | call (c p : Str) (s : Si)
def De.d : De → D
  | .ans s => .tup [.str "answer", s.d]
  | .call c p s => .tup [.str "call", .str c, .str p, s.d]
def De.w : De → List Str
  | .ans s => "answer" :: s.w
  | .call c p s => "call" :: c :: p :: s.w
def De.ok : De → Prop
  | .ans s => s.ok 7
  | .call c p s => isNm c = true ∧ isNm p = true ∧ s.ok 7
structure Ru where
  t : Si
  e : De
  c : Si
def Ru.d (r : Ru) : D := .tup [r.t.d, r.e.d, r.c.d]
def Ru.w (r : Ru) : List Str := "when" :: (r.t.w ++ (r.e.w ++ r.c.w))
def Ru.ok (r : Ru) : Prop := r.t.ok 7 ∧ r.e.ok ∧ r.c.ok 7
def allW : List Ru → List Str
  | [] => []
  | r :: rs => r.w ++ allW rs
/-! reading -/
def pA : List Str → PR Si
  | [] => .bad []
  | x :: r => if x ∈ seen then .ok (.see x) r else match numO x with
    | some n => .ok (.num n) r
    | none => .bad (x :: r)
def pS : Nat → List Str → PR Si
  | _, [] => .bad []
  | 0, x :: r => pA (x :: r)
  | k + 1, x :: r => if x ∈ signs then (pS k r).bind fun a r1 => (pS k r1).bind fun b r2 => .ok (.op x a b) r2 else pA (x :: r)
def pN : List Str → PR Str
  | [] => .bad []
  | x :: r => if isNm x = true then .ok x r else .bad (x :: r)
def pD : List Str → PR De
  | [] => .bad []
  | x :: r => if x = "answer" then (pS 7 r).bind fun s r1 => .ok (.ans s) r1
    else if x = "call" then (pN r).bind fun c r1 => (pN r1).bind fun p r2 => (pS 7 r2).bind fun s r3 => .ok (.call c p s) r3
    else .bad (x :: r)
def pR (r : List Str) : PR Ru := (pS 7 r).bind fun t r1 => (pD r1).bind fun e r2 => (pS 7 r2).bind fun c r3 => .ok ⟨t, e, c⟩ r3
def pL : Nat → List Str → PR (List Ru)
  | 0, r => .ok [] r
  | _ + 1, [] => .ok [] []
  | k + 1, x :: r => if x = "when" then (pR r).bind fun u r1 => (pL k r1).bind fun us r2 => .ok (u :: us) r2 else .ok [] (x :: r)
def pO (r : List Str) : PR (List Ru) := (pL 40 r).bind fun us r1 => if r1 = [] then .ok us [] else .bad r1
/-- what law_at answers -/
def atV (ws : List Str) : Int := match pO ws with
  | .ok _ _ => -3
  | .bad r => ((ws.length - r.length : Nat) : Int)
theorem pA_c (x : Str) (r : List Str) : pA (x :: r) = if x ∈ seen then .ok (.see x) r else match numO x with
    | some n => .ok (.num n) r
    | none => .bad (x :: r) := rfl
theorem pN_c (x : Str) (r : List Str) : pN (x :: r) = if isNm x = true then .ok x r else .bad (x :: r) := rfl
theorem pD_c (x : Str) (r : List Str) : pD (x :: r) = if x = "answer" then (pS 7 r).bind fun s r1 => .ok (.ans s) r1
    else if x = "call" then (pN r).bind fun c r1 => (pN r1).bind fun p r2 => (pS 7 r2).bind fun s r3 => .ok (.call c p s) r3
    else .bad (x :: r) := rfl
theorem pS_c (k : Nat) (x : Str) (r : List Str) : pS (k + 1) (x :: r) = if x ∈ signs then (pS k r).bind fun a r1 => (pS k r1).bind fun b r2 => .ok (.op x a b) r2 else pA (x :: r) := rfl
theorem pL_c (k : Nat) (x : Str) (r : List Str) : pL (k + 1) (x :: r) = if x = "when" then (pR r).bind fun u r1 => (pL k r1).bind fun us r2 => .ok (u :: us) r2 else .ok [] (x :: r) := rfl
/-! ### read back -/
theorem seen_facts : ∀ x ∈ seen, x ∉ signs ∧ numO x = none ∧ x.length ≤ 12 ∧ decide (32 ∈ x.cps.toList) = false := by decide +kernel
theorem signs_facts : ∀ x ∈ signs, x.length ≤ 12 ∧ decide (32 ∈ x.cps.toList) = false ∧ x ∉ seen ∧ numO x = none ∧ x ≠ "number" := by decide +kernel
theorem numW_sign {n : Nat} (h : n ≤ 65535) : numW n ∉ signs ∧ numW n ∉ seen := by
  have e := numO_num h
  constructor
  · intro m; rw [(signs_facts _ m).2.2.2.1] at e; cases e
  · intro m; rw [(seen_facts _ m).2.1] at e; cases e
theorem Si.ok_num {k n : Nat} (h : (Si.num n).ok k) : n ≤ 65535 := by cases k <;> exact h
theorem Si.ok_see {k : Nat} {x : Str} (h : (Si.see x).ok k) : x ∈ seen := by cases k <;> exact h
theorem pA_see {x : Str} (h : x ∈ seen) (T : List Str) : pA (x :: T) = .ok (.see x) T := by rw [pA_c, if_pos h]
theorem pA_num {n : Nat} (h : n ≤ 65535) (T : List Str) : pA (numW n :: T) = .ok (.num n) T := by
  rw [pA_c, if_neg (numW_sign h).2, numO_num h]
theorem pS_back : ∀ (k : Nat) (s : Si) (T : List Str), s.ok k → pS k (s.w ++ T) = .ok s T
  | 0, .see x, T, h => pA_see h T
  | k + 1, .see x, T, h => by
    show (if x ∈ signs then _ else _) = _
    rw [if_neg (seen_facts x h).1]
    exact pA_see h T
  | 0, .num n, T, h => pA_num h T
  | k + 1, .num n, T, h => by
    show (if numW n ∈ signs then _ else _) = _
    rw [if_neg (numW_sign h).1]
    exact pA_num h T
  | 0, .op _ _ _, T, h => absurd h id
  | k + 1, .op s l r, T, h => by
    show (if s ∈ signs then (pS k ((l.w ++ r.w) ++ T)).bind _ else _) = _
    rw [if_pos h.1, List.append_assoc, pS_back k l _ h.2.1]
    show (pS k (r.w ++ T)).bind _ = _
    rw [pS_back k r T h.2.2]
    rfl
/-- what can begin no word here -/
def alienW (x : Str) : Bool := !decide (x ∈ signs) && !decide (x ∈ seen) && (numO x).isNone && !isNm x && !decide (x ∈ [("when" : Str), "answer", "call"])
def Alien (T : List Str) : Prop := alienW (T.headD "") = true
theorem alien_of {T : List Str} (h : Alien T) : T = [] ∨ ∃ x r, T = x :: r ∧ x ∉ signs ∧ x ∉ seen ∧ numO x = none ∧ isNm x = false ∧ x ≠ "when" ∧ x ≠ "answer" ∧ x ≠ "call" := by
  cases T with
  | nil => exact .inl rfl
  | cons x r =>
    refine .inr ⟨x, r, rfl, ?_⟩
    unfold Alien alienW at h
    simp at h
    obtain ⟨⟨⟨⟨h1, h2⟩, h3⟩, h4⟩, h5, h6, h7⟩ := h
    exact ⟨h1, h2, h3, h4, h5, h6, h7⟩
theorem pA_alien {T : List Str} (h : Alien T) : pA T = .bad T := by
  rcases alien_of h with rfl | ⟨x, r, rfl, h1, h2, h3, _⟩
  · rfl
  · rw [pA_c, if_neg h2, h3]
theorem pS_alien (k : Nat) {T : List Str} (h : Alien T) : pS k T = .bad T := by
  rcases alien_of h with rfl | ⟨x, r, rfl, h1, h2, h3, _⟩
  · cases k <;> rfl
  · cases k with
    | zero => exact pA_alien h
    | succ k =>
      show (if x ∈ signs then _ else _) = _
      rw [if_neg h1]
      exact pA_alien h
theorem pN_alien {T : List Str} (h : Alien T) : pN T = .bad T := by
  rcases alien_of h with rfl | ⟨x, r, rfl, h1, h2, h3, h4, _⟩
  · rfl
  · rw [pN_c, h4]; rfl
theorem pD_alien {T : List Str} (h : Alien T) : pD T = .bad T := by
  rcases alien_of h with rfl | ⟨x, r, rfl, h1, h2, h3, h4, h5, h6, h7⟩
  · rfl
  · rw [pD_c, if_neg h6, if_neg h7]
/-- u ++ v is a ++ b: the cut lies in a or behind -/
theorem cut_app {a b u v : List Str} (h : a ++ b = u ++ v) : (∃ v1, v1 ≠ [] ∧ a = u ++ v1 ∧ v = v1 ++ b) ∨ (∃ u1, u = a ++ u1 ∧ b = u1 ++ v) := by
  rcases List.append_eq_append_iff.mp h with ⟨x, h1, h2⟩ | ⟨x, h1, h2⟩
  · exact .inr ⟨x, h1, h2⟩
  · by_cases hx : x = []
    · subst hx
      rw [List.append_nil] at h1
      exact .inr ⟨[], by rw [List.append_nil]; exact h1.symm, by simpa using h2.symm⟩
    · exact .inl ⟨x, hx, h1, h2⟩
theorem cut_cons {x : Str} {b u v : List Str} (h : x :: b = u ++ v) : u = [] ∨ ∃ u1, u = x :: u1 ∧ b = u1 ++ v := by
  cases u with
  | nil => exact .inl rfl
  | cons y u1 =>
    rw [List.cons_append] at h
    cases h
    exact .inr ⟨u1, rfl, rfl⟩
theorem pS_cut : ∀ (k : Nat) (s : Si) (u v T : List Str), s.ok k → s.w = u ++ v → v ≠ [] → Alien T → pS k (u ++ T) = .bad T
  | k, .see x, u, v, T, h, e, hv, ha => by
    rcases cut_cons (b := []) e with rfl | ⟨u1, rfl, h2⟩
    · exact pS_alien k ha
    · exact absurd (List.append_eq_nil_iff.mp h2.symm).2 hv
  | k, .num x, u, v, T, h, e, hv, ha => by
    rcases cut_cons (b := []) e with rfl | ⟨u1, rfl, h2⟩
    · exact pS_alien k ha
    · exact absurd (List.append_eq_nil_iff.mp h2.symm).2 hv
  | 0, .op _ _ _, u, v, T, h, e, hv, ha => absurd h id
  | k + 1, .op s l r, u, v, T, h, e, hv, ha => by
    rcases cut_cons e with rfl | ⟨u1, rfl, h2⟩
    · exact pS_alien _ ha
    · show (if s ∈ signs then (pS k (u1 ++ T)).bind _ else _) = _
      rw [if_pos h.1]
      rcases cut_app h2 with ⟨v1, hv1, h3, h4⟩ | ⟨u2, rfl, h4⟩
      · rw [pS_cut k l u1 v1 T h.2.1 h3 hv1 ha]; rfl
      · rw [List.append_assoc, pS_back k l _ h.2.1]
        show (pS k (u2 ++ T)).bind _ = _
        rw [pS_cut k r u2 v T h.2.2 h4 hv ha]; rfl
theorem ans_call : ¬ ("call" : Str) = "answer" := by decide +kernel
theorem pD_back (e : De) (T : List Str) (h : e.ok) : pD (e.w ++ T) = .ok e T := by
  cases e with
  | ans s =>
    show pD (("answer" : Str) :: (s.w ++ T)) = _
    rw [pD_c, if_pos rfl, pS_back 7 s T h]; rfl
  | call c p s =>
    show pD (("call" : Str) :: c :: p :: (s.w ++ T)) = _
    rw [pD_c, if_neg ans_call, if_pos rfl, pN_c, if_pos h.1, PR.bind_ok, pN_c, if_pos h.2.1, PR.bind_ok, pS_back 7 s T h.2.2]; rfl
theorem pD_cut (e : De) (u v T : List Str) (h : e.ok) (he : e.w = u ++ v) (hv : v ≠ []) (ha : Alien T) : pD (u ++ T) = .bad T := by
  cases e with
  | ans s =>
    rcases cut_cons he with rfl | ⟨u1, rfl, h2⟩
    · exact pD_alien ha
    · show pD (("answer" : Str) :: (u1 ++ T)) = _
      rw [pD_c, if_pos rfl, pS_cut 7 s u1 v T h h2 hv ha]; rfl
  | call c p s =>
    rcases cut_cons he with rfl | ⟨u1, rfl, h2⟩
    · exact pD_alien ha
    · show pD (("call" : Str) :: (u1 ++ T)) = _
      rw [pD_c, if_neg ans_call, if_pos rfl]
      rcases cut_cons h2 with rfl | ⟨u2, rfl, h3⟩
      · rw [List.nil_append, pN_alien ha]; rfl
      · show (if isNm c = true then PR.ok c (u2 ++ T) else _).bind _ = _
        rw [if_pos h.1, PR.bind_ok]
        rcases cut_cons h3 with rfl | ⟨u3, rfl, h4⟩
        · rw [List.nil_append, pN_alien ha]; rfl
        · show (if isNm p = true then PR.ok p (u3 ++ T) else _).bind _ = _
          rw [if_pos h.2.1, PR.bind_ok, pS_cut 7 s u3 v T h.2.2 h4 hv ha]; rfl
theorem pR_back (r : Ru) (T : List Str) (h : r.ok) : pR ((r.t.w ++ (r.e.w ++ r.c.w)) ++ T) = .ok r T := by
  unfold pR
  rw [List.append_assoc, pS_back 7 r.t _ h.1, PR.bind_ok, List.append_assoc, pD_back r.e _ h.2.1, PR.bind_ok, pS_back 7 r.c T h.2.2]; rfl
theorem pR_cut (r : Ru) (u v T : List Str) (h : r.ok) (e : r.t.w ++ (r.e.w ++ r.c.w) = u ++ v) (hv : v ≠ []) (ha : Alien T) : pR (u ++ T) = .bad T := by
  unfold pR
  rcases cut_app e with ⟨v1, hv1, h3, h4⟩ | ⟨u2, rfl, h4⟩
  · rw [pS_cut 7 r.t u v1 T h.1 h3 hv1 ha]; rfl
  · rw [List.append_assoc, pS_back 7 r.t _ h.1, PR.bind_ok]
    rcases cut_app h4 with ⟨v1, hv1, h3, h5⟩ | ⟨u3, rfl, h5⟩
    · rw [pD_cut r.e u2 v1 T h.2.1 h3 hv1 ha]; rfl
    · rw [List.append_assoc, pD_back r.e _ h.2.1, PR.bind_ok, pS_cut 7 r.c u3 v T h.2.2 h5 hv ha]; rfl
theorem alien_nil : Alien [] := by unfold Alien; decide +kernel
theorem pL_alien (k : Nat) {T : List Str} (h : Alien T) : pL k T = .ok [] T := by
  rcases alien_of h with rfl | ⟨x, r, rfl, h1, h2, h3, h4, h5, h6, h7⟩
  · cases k <;> rfl
  · cases k with
    | zero => rfl
    | succ k => show (if x = "when" then _ else _) = _; rw [if_neg h5]
/-- the text of rules, and behind it what fits nowhere -/
theorem pL_back : ∀ (rs : List Ru) (k : Nat) (T : List Str), (∀ r ∈ rs, r.ok) → rs.length ≤ k → Alien T → pL k (allW rs ++ T) = .ok rs T
  | [], k, T, _, _, ha => pL_alien k ha
  | r :: rs, 0, T, _, hk, _ => absurd hk (by simp)
  | r :: rs, k + 1, T, h, hk, ha => by
    show (if ("when" : Str) = "when" then (pR (((r.t.w ++ (r.e.w ++ r.c.w)) ++ allW rs) ++ T)).bind _ else _) = _
    rw [if_pos rfl, List.append_assoc, pR_back r _ (h r (List.mem_cons_self ..)), PR.bind_ok, pL_back rs k T (fun x hx => h x (List.mem_cons_of_mem _ hx)) (by simpa using hk) ha]
    rfl
theorem pL_cut : ∀ (rs : List Ru) (k : Nat) (u v T : List Str), (∀ r ∈ rs, r.ok) → rs.length ≤ k → allW rs = u ++ v → Alien T → pL k (u ++ T) = .bad T ∨ ∃ rs', pL k (u ++ T) = .ok rs' T
  | [], k, u, v, T, _, _, e, ha => by
    obtain ⟨rfl, rfl⟩ := List.append_eq_nil_iff.mp e.symm
    exact .inr ⟨[], pL_alien k ha⟩
  | r :: rs, 0, u, v, T, _, hk, _, _ => absurd hk (by simp)
  | r :: rs, k + 1, u, v, T, h, hk, e, ha => by
    rcases cut_cons (x := "when") (b := (r.t.w ++ (r.e.w ++ r.c.w)) ++ allW rs) e with rfl | ⟨u1, rfl, h2⟩
    · exact .inr ⟨[], pL_alien _ ha⟩
    · have hr := h r (List.mem_cons_self ..)
      have hu : pL (k + 1) ((("when" : Str) :: u1) ++ T) = (pR (u1 ++ T)).bind fun u r1 => (pL k r1).bind fun us r2 => .ok (u :: us) r2 := by
        show pL (k + 1) (("when" : Str) :: (u1 ++ T)) = _
        rw [pL_c, if_pos rfl]
      rw [hu]
      rcases cut_app h2 with ⟨v1, hv1, h3, h4⟩ | ⟨u2, rfl, h4⟩
      · rw [pR_cut r u1 v1 T hr h3 hv1 ha]; exact .inl rfl
      · rw [List.append_assoc, pR_back r _ hr, PR.bind_ok]
        rcases pL_cut rs k u2 v T (fun x hx => h x (List.mem_cons_of_mem _ hx)) (by simpa using hk) h4 ha with h5 | ⟨rs', h5⟩
        · rw [h5]; exact .inl rfl
        · rw [h5]; exact .inr ⟨r :: rs', rfl⟩
/-- THE TEXT is read back -/
theorem pO_back (rs : List Ru) (h : ∀ r ∈ rs, r.ok) (hk : rs.length ≤ 40) : pO (allW rs) = .ok rs [] := by
  have := pL_back rs 40 [] h hk alien_nil
  rw [List.append_nil] at this
  unfold pO
  rw [this]; rfl
/-- A STRANGE WORD is refused -/
theorem pO_strange (rs : List Ru) (h : ∀ r ∈ rs, r.ok) (hk : rs.length ≤ 40) (u v T : List Str) (e : allW rs = u ++ v) (ha : Alien T) (hT : T ≠ []) : atV (u ++ T) = u.length := by
  unfold atV pO
  rcases pL_cut rs 40 u v T h hk e ha with h1 | ⟨rs', h1⟩
  · rw [h1]; simp [PR.bind]
  · rw [h1]; simp [PR.bind, hT]
/-- A CUT TEXT -/
theorem pO_short (rs : List Ru) (h : ∀ r ∈ rs, r.ok) (hk : rs.length ≤ 40) (u v : List Str) (e : allW rs = u ++ v) : atV u = u.length ∨ atV u = -3 := by
  unfold atV pO
  rcases pL_cut rs 40 u v [] h hk e alien_nil with h1 | ⟨rs', h1⟩ <;> rw [List.append_nil] at h1 <;> rw [h1]
  · left; simp [PR.bind]
  · right; simp [PR.bind]
/-! ### what is read is written so -/
theorem pA_snd {T r : List Str} {s : Si} (h : pA T = .ok s r) (k : Nat) : T = s.w ++ r ∧ s.ok k := by
  cases T with
  | nil => cases h
  | cons x t =>
    rw [pA_c] at h
    split at h
    · rename_i h1; cases h; exact ⟨rfl, by cases k <;> exact h1⟩
    · split at h
      · rename_i n h2; cases h
        obtain ⟨h3, h4⟩ := numO_back h2
        subst h3
        exact ⟨rfl, by cases k <;> exact h4⟩
      · cases h
theorem pS_snd : ∀ (k : Nat) (T r : List Str) (s : Si), pS k T = .ok s r → T = s.w ++ r ∧ s.ok k
  | 0, [], _, _, h => by cases h
  | k + 1, [], _, _, h => by cases h
  | 0, x :: t, r, s, h => pA_snd (T := x :: t) h 0
  | k + 1, x :: t, r, s, h => by
    rw [pS_c] at h
    split at h
    · rename_i h1
      obtain ⟨a, r1, h2, h3⟩ := PR.bind_eq_ok h
      obtain ⟨b, r2, h4, h5⟩ := PR.bind_eq_ok h3
      cases h5
      obtain ⟨rfl, g1⟩ := pS_snd k _ _ _ h2
      obtain ⟨rfl, g2⟩ := pS_snd k _ _ _ h4
      exact ⟨by simp [Si.w], h1, g1, g2⟩
    · exact pA_snd h _
theorem pN_snd {T r : List Str} {x : Str} (h : pN T = .ok x r) : T = x :: r ∧ isNm x = true := by
  cases T with
  | nil => cases h
  | cons y t =>
    rw [pN_c] at h
    split at h
    · rename_i h1; cases h; exact ⟨rfl, h1⟩
    · cases h
theorem pD_snd {T r : List Str} {e : De} (h : pD T = .ok e r) : T = e.w ++ r ∧ e.ok := by
  cases T with
  | nil => cases h
  | cons x t =>
    rw [pD_c] at h
    split at h
    · rename_i h1
      subst h1
      obtain ⟨a, r1, h2, h3⟩ := PR.bind_eq_ok h
      cases h3
      obtain ⟨rfl, g1⟩ := pS_snd _ _ _ _ h2
      exact ⟨rfl, g1⟩
    · split at h
      · rename_i h1
        subst h1
        obtain ⟨c, r1, h2, h3⟩ := PR.bind_eq_ok h
        obtain ⟨p, r2, h4, h5⟩ := PR.bind_eq_ok h3
        obtain ⟨a, r3, h6, h7⟩ := PR.bind_eq_ok h5
        cases h7
        obtain ⟨rfl, g1⟩ := pN_snd h2
        obtain ⟨rfl, g2⟩ := pN_snd h4
        obtain ⟨rfl, g3⟩ := pS_snd _ _ _ _ h6
        exact ⟨rfl, g1, g2, g3⟩
      · cases h
theorem pR_snd {T r : List Str} {u : Ru} (h : pR T = .ok u r) : T = (u.t.w ++ (u.e.w ++ u.c.w)) ++ r ∧ u.ok := by
  unfold pR at h
  obtain ⟨t, r1, h2, h3⟩ := PR.bind_eq_ok h
  obtain ⟨e, r2, h4, h5⟩ := PR.bind_eq_ok h3
  obtain ⟨c, r3, h6, h7⟩ := PR.bind_eq_ok h5
  cases h7
  obtain ⟨rfl, g1⟩ := pS_snd _ _ _ _ h2
  obtain ⟨rfl, g2⟩ := pD_snd h4
  obtain ⟨rfl, g3⟩ := pS_snd _ _ _ _ h6
  exact ⟨by simp, g1, g2, g3⟩
theorem pL_snd : ∀ (k : Nat) (T r : List Str) (us : List Ru), pL k T = .ok us r → T = allW us ++ r ∧ (∀ u ∈ us, u.ok) ∧ us.length ≤ k
  | 0, T, r, us, h => by cases h; exact ⟨rfl, (fun _ h => by cases h), Nat.zero_le _⟩
  | k + 1, [], r, us, h => by cases h; exact ⟨rfl, (fun _ h => by cases h), Nat.zero_le _⟩
  | k + 1, x :: t, r, us, h => by
    rw [pL_c] at h
    split at h
    · rename_i h1
      subst h1
      obtain ⟨u, r1, h2, h3⟩ := PR.bind_eq_ok h
      obtain ⟨us', r2, h4, h5⟩ := PR.bind_eq_ok h3
      cases h5
      obtain ⟨rfl, g1⟩ := pR_snd h2
      obtain ⟨rfl, g2, g3⟩ := pL_snd k _ _ _ h4
      refine ⟨by simp [allW, Ru.w], fun y hy => ?_, by simpa using g3⟩
      rcases List.mem_cons.mp hy with rfl | hy
      · exact g1
      · exact g2 y hy
    · cases h; exact ⟨rfl, (fun _ h => by cases h), Nat.zero_le _⟩
theorem pO_snd {T r : List Str} {us : List Ru} (h : pO T = .ok us r) : T = allW us ∧ r = [] ∧ (∀ u ∈ us, u.ok) ∧ us.length ≤ 40 := by
  unfold pO at h
  obtain ⟨us', r1, h2, h3⟩ := PR.bind_eq_ok h
  split at h3
  · rename_i h4
    cases h3
    subst h4
    obtain ⟨rfl, g1, g2⟩ := pL_snd _ _ _ _ h2
    exact ⟨by simp, rfl, g1, g2⟩
  · cases h3
/-! the words that are asked -/
theorem strange_alien : ∀ x ∈ [("?" : Str), "", "65536", "00", "a_b", "aB", "a\nb", "\n", "x\t", "+1", "zzzzzzzzzzzzz"], alienW x = true := by decide +kernel
def one : List Str := ["when", "1", "answer", "0", "cell"]
theorem at_one40 : atV ((List.replicate 40 one).flatten) = -3 := by decide +kernel
theorem at_one41 : atV ((List.replicate 41 one).flatten) = 200 := by decide +kernel
end K35

namespace K35
open PySem L2 NC
/-! ### is_name, number_of -/
theorem kw : g_KEYWORDS = D.tup (keys.map D.str) := rfl
theorem comp_all (p : Nat → Bool) (l : List Nat) {env : Ev} {st : Sto} (f : F) (i : Nat) (hi : i < env.length) (h : ∀ c ∈ l, f (env.set i (some (.frz, .str (ch c)))) st = .ok (.bl (p c)) st) :
    compL (tgName i) cYes f (chrs (tx l)) env st = .ok (l.map fun c => .bl (p c)) st := by
  rw [chrs_tx]
  have := compL_map (t := tgName i) (f := f) (env := env) (st := st) (fun d => match d with | .str s => .bl (p (s.cps.getD 0 0)) | _ => .non) (ds := l.map fun c => D.str (ch c)) fun d hd => by
    obtain ⟨c, hc, rfl⟩ := List.mem_map.mp hd
    exact ⟨_, by unfold tgName; rw [if_pos hi], h c hc⟩
  rw [this, List.map_map]
  rfl
theorem kIn_L (c : Nat) (st : Sto) : kIn (.str (ch c)) g_LETTERS st = .ok (.bl (decide (c ∈ lets))) st := kIn_ch c _
theorem kNotIn_L (c : Nat) (st : Sto) : kNotIn (.str (ch c)) g_LETTERS st = .ok (.bl (!decide (c ∈ lets))) st := kNotIn_ch c _
theorem kIn_D (c : Nat) (st : Sto) : kIn (.str (ch c)) g_DIGITS st = .ok (.bl (decide (c ∈ digs))) st := kIn_ch c _
theorem kIn_K (x : Str) (st : Sto) : kIn (.str x) g_KEYWORDS st = .ok (.bl (decide (x ∈ keys))) st := kIn_strsT x keys
theorem ev_is_nameL (n : Nat) {m : Md} (l : List Nat) (hz : l.length ≤ sizeLine) (st : Sto) : interp delta (n+1) "is_name" [(m, .str (tx l))] st = .ok (.bl (nameL l)) st := by
  rw [run_is_name]
  cases l with
  | nil => simp [sh_is_name, nameL, tx_len, Nat.zero_le]
  | cons c l =>
    have hc : compL (tgName 1) cYes (bOrV (bBin kIn (bVarR 1) (bC g_LETTERS)) (bBin kIn (bVarR 1) (bC g_DIGITS))) (chrs (tx (c :: l))) [some (.frz, .str (tx (c :: l))), none] st = .ok ((c :: l).map fun c => .bl (decide (c ∈ lets) || decide (c ∈ digs))) st := by
      refine comp_all (fun c => decide (c ∈ lets) || decide (c ∈ digs)) (c :: l) _ 1 (by simp) fun c hc => ?_
      simp [kIn_L, kIn_D]
      split <;> simp_all
    have hcc := bComp_of (own := [1]) (fi := iVarC 0) (t := tgName 1) (c := cYes) (env := [some (.frz, .str (tx (c :: l))), none]) (st := st) (ds := chrs (tx (c :: l))) (by rw [iVarC_str, tx_len, if_pos hz]) hc
    have hi : kIx (.str (tx (c :: l))) (.int 0) st = .ok (.str (ch c)) st := kIx_str_of hz (seqIx0 c l)
    have ha : kAll [.lst ((c :: l).map fun c => .bl (decide (c ∈ lets) || decide (c ∈ digs)))] st = _ := kAll_map (fun c => decide (c ∈ lets) || decide (c ∈ digs)) (c :: l)
    simp only [List.map_cons] at hcc ha
    simp at hz
    simp [sh_is_name, tx_len, hi, hcc, ha, kNotIn_L, kIn_K, hz, nameL]
    by_cases h1 : 12 < (l.length : Int) + 1
    · have : ¬ l.length ≤ 11 := by omega
      simp [h1, this]
    · have : l.length ≤ 11 := by omega
      rw [if_neg h1]
      by_cases h2 : c ∈ lets <;> by_cases h3 : tx (c :: l) ∈ keys <;> simp [h2, h3, this]
theorem ev_is_name (n : Nat) {m : Md} (w : Str) (hz : w.length ≤ sizeLine) (st : Sto) : interp delta (n+1) "is_name" [(m, .str w)] st = .ok (.bl (isNm w)) st := ev_is_nameL n w.cps.toList (by rw [TL.len_tl] at hz; exact hz) st
def numV (l : List Nat) : Int := ((NumText.digitsVal l : Nat) : Int)
def numL (l : List Nat) : D := if 0 < l.length ∧ l.length ≤ 5 ∧ (l.all fun c => decide (c ∈ digs)) = true ∧ ¬ (ch (l.getD 0 0) = ("0" : Str) ∧ ¬ tx l = ("0" : Str)) ∧ numV l ≤ 65535 then .int (numV l) else .non
theorem digs_all {l : List Nat} (h : (l.all fun c => decide (c ∈ digs)) = true) : NumText.AllDigits l := fun c hc => by
  have h1 := List.all_eq_true.mp h c hc
  have h2 : c ∈ digs := by simpa using h1
  exact (digs_iff c).mp h2
theorem int_of {l : List Nat} (h : (l.all fun c => decide (c ∈ digs)) = true) (h0 : 0 < l.length) (h5 : l.length ≤ 5) (st : Sto) : kInt [.str (tx l)] st = .ok (.int (numV l)) st :=
  kInt_str_of (by show l.length ≤ 640; omega) (intText_digits (x := tx l) (digs_all h) (by intro e; have e' : l = [] := e; rw [e'] at h0; cases h0) (by show l.length ≤ 4300; omega))
theorem ev_number_ofL (n : Nat) {m : Md} (l : List Nat) (hz : l.length ≤ sizeLine) (st : Sto) : interp delta (n+1) "number_of" [(m, .str (tx l))] st = .ok (numL l) st := by
  rw [run_number_of]
  cases l with
  | nil => simp [sh_number_of, numL, tx_len, Nat.zero_le]
  | cons c l =>
    have hc : compL (tgName 1) cYes (bBin kIn (bVarR 1) (bC g_DIGITS)) (chrs (tx (c :: l))) [some (.frz, .str (tx (c :: l))), none, none] st = .ok ((c :: l).map fun c => .bl (decide (c ∈ digs))) st := by
      refine comp_all (fun c => decide (c ∈ digs)) (c :: l) _ 1 (by simp) fun c hc => ?_
      simp [kIn_D]
    have hcc := bComp_of (own := [1]) (fi := iVarC 0) (t := tgName 1) (c := cYes) (env := [some (.frz, .str (tx (c :: l))), none, none]) (st := st) (ds := chrs (tx (c :: l))) (by rw [iVarC_str, tx_len, if_pos hz]) hc
    have hi : kIx (.str (tx (c :: l))) (.int 0) st = .ok (.str (ch c)) st := kIx_str_of hz (seqIx0 c l)
    have ha : kAll [.lst ((c :: l).map fun c => .bl (decide (c ∈ digs)))] st = _ := kAll_map (fun c => decide (c ∈ digs)) (c :: l)
    by_cases h1 : (c :: l).length ≤ 5
    · by_cases h2 : ((c :: l).all fun c => decide (c ∈ digs)) = true
      · have hin := int_of h2 (Nat.succ_pos _) h1 st
        rw [h2] at ha
        have h1' : ((c :: l).length : Int) ≤ 5 := by omega
        simp only [List.map_cons] at hcc ha
        simp only [List.length_cons] at hz h1 h1'
        have hnum : numL (c :: l) = if ch c = ("0" : Str) ∧ ¬ tx (c :: l) = ("0" : Str) then .non else if 65535 < numV (c :: l) then .non else .int (numV (c :: l)) := by
          unfold numL
          by_cases a1 : ch c = ("0" : Str) ∧ ¬ tx (c :: l) = ("0" : Str)
          · rw [if_pos a1, if_neg fun z => z.2.2.2.1 a1]
          · rw [if_neg a1]
            by_cases a2 : 65535 < numV (c :: l)
            · rw [if_pos a2, if_neg fun z => by have := z.2.2.2.2; omega]
            · rw [if_neg a2, if_pos ⟨Nat.succ_pos _, h1, h2, a1, by omega⟩]
        rw [hnum]
        simp [sh_number_of, tx_len, hi, hcc, ha, hz, hin, g_GREATEST]
        rw [if_neg (by omega)]
        by_cases a1 : ch c = ("0" : Str) <;> by_cases a2 : tx (c :: l) = ("0" : Str) <;> by_cases a3 : 65535 < numV (c :: l) <;> simp [a1, a2, a3]
      · have hnum : numL (c :: l) = .non := if_neg fun z => h2 z.2.2.1
        have h2' : ((c :: l).all fun c => decide (c ∈ digs)) = false := by simpa using h2
        rw [h2'] at ha
        simp only [List.map_cons] at hcc ha
        simp only [List.length_cons] at hz
        rw [hnum]
        simp [sh_number_of, tx_len, hi, hcc, ha, hz, g_GREATEST]
    · have hnum : numL (c :: l) = .non := if_neg fun z => h1 z.2.1
      simp only [List.length_cons] at hz h1
      rw [hnum]
      simp [sh_number_of, tx_len, hi, hz, g_GREATEST]
      intro z
      omega
def numD (w : Str) : D := match numO w with
  | some n => .int n
  | none => .non
theorem numL_D (w : Str) : numL w.cps.toList = numD w := by
  unfold numL numD numO
  have e : numOk w.cps.toList = true ↔ (0 < w.cps.toList.length ∧ w.cps.toList.length ≤ 5 ∧ (w.cps.toList.all fun c => decide (c ∈ digs)) = true ∧ ¬ (ch (w.cps.toList.getD 0 0) = ("0" : Str) ∧ ¬ tx w.cps.toList = ("0" : Str)) ∧ numV w.cps.toList ≤ 65535) := by
    unfold numOk numV
    simp only [Bool.and_eq_true, decide_eq_true_eq, Bool.not_eq_true', Bool.and_eq_false_iff, decide_eq_false_iff_not, Bool.not_eq_false']
    constructor
    · rintro ⟨⟨⟨⟨a, b⟩, c⟩, d⟩, e⟩
      exact ⟨a, b, c, fun z => d.elim (fun q => q z.1) (fun q => z.2 q), by omega⟩
    · rintro ⟨a, b, c, d, e⟩
      refine ⟨⟨⟨⟨a, b⟩, c⟩, ?_⟩, by omega⟩
      by_cases q : ch (w.cps.toList.getD 0 0) = ("0" : Str)
      · by_cases q2 : tx w.cps.toList = ("0" : Str)
        · exact .inr q2
        · exact absurd ⟨q, q2⟩ d
      · exact .inl q
  by_cases h : numOk w.cps.toList = true
  · rw [if_pos (e.mp h), if_pos h]; rfl
  · rw [if_neg fun z => h (e.mpr z), if_neg h]
theorem ev_number_of (n : Nat) {m : Md} (w : Str) (hz : w.length ≤ sizeLine) (st : Sto) : interp delta (n+1) "number_of" [(m, .str w)] st = .ok (numD w) st := by
  rw [← numL_D]
  exact ev_number_ofL n w.cps.toList (by rw [TL.len_tl] at hz; exact hz) st
/-! ### the Cursor -/
abbrev cur (ws : List Str) (a : Nat) : Cell := .ins "Cursor" [("words", .lst (ws.map D.str)), ("at", .int (a : Nat))]
/-- the store with the cursor before the words r -/
def Sx (A B : Sto) (ws r : List Str) : Sto := A ++ cur ws (ws.length - r.length) :: B
theorem Sx_get (A B : Sto) (ws r : List Str) : (Sx A B ws r)[A.length]? = some (cur ws (ws.length - r.length)) := get_mid A B _
theorem getF_words (A B : Sto) (ws r : List Str) : getF "words" (Sx A B ws r) (.loc A.length) = .ok (.lst (ws.map D.str)) (Sx A B ws r) := getF_of (Sx_get A B ws r) rfl
theorem getF_at (A B : Sto) (ws r : List Str) : getF "at" (Sx A B ws r) (.loc A.length) = .ok (.int ((ws.length - r.length : Nat))) (Sx A B ws r) := getF_of (Sx_get A B ws r) rfl
theorem setF_at (A B : Sto) (ws r : List Str) (x : Str) (h : (x :: r) <:+ ws) : setF fc_at "at" (.int (((ws.length - (x :: r).length : Nat) : Int) + 1)) (Sx A B ws (x :: r)) (.loc A.length) = some (Sx A B ws r) := by
  rw [setF_of (Sx_get A B ws (x :: r)) (by decide +kernel) (Nat.lt_of_sub_eq_succ rfl)]
  unfold Sx
  rw [set_mid]
  have := h.length_le
  have e : ((ws.length - (x :: r).length : Nat) : Int) + 1 = ((ws.length - r.length : Nat) : Int) := by simp at this ⊢; omega
  rw [e]
  rfl
theorem disp_c {tab : List (Str × Str)} {m y : Str} (A B : Sto) (ws r : List Str) (h1 : (m == ("words" : Str)) = false) (h2 : (m == ("at" : Str)) = false) (h3 : tab.lookup ("Cursor" : Str) = some y) : disp tab m (Sx A B ws r) (.loc A.length) = some y := by
  refine disp_of (Sx_get A B ws r) ?_ h3
  simp only [List.lookup, h1, h2]
theorem disp_word (A B : Sto) (ws r : List Str) : disp tab_word "word" (Sx A B ws r) (.loc A.length) = some "Cursor.word" := disp_c A B ws r rfl rfl rfl
theorem disp_fail (A B : Sto) (ws r : List Str) : disp tab_fail "fail" (Sx A B ws r) (.loc A.length) = some "Cursor.fail" := disp_c A B ws r rfl rfl rfl
theorem disp_take (A B : Sto) (ws r : List Str) : disp tab_take "take" (Sx A B ws r) (.loc A.length) = some "Cursor.take" := disp_c A B ws r rfl rfl rfl
theorem disp_take_one (A B : Sto) (ws r : List Str) : disp tab_take_one "take_one" (Sx A B ws r) (.loc A.length) = some "Cursor.take_one" := disp_c A B ws r rfl rfl rfl
theorem disp_take_new (A B : Sto) (ws r : List Str) : disp tab_take_new "take_new" (Sx A B ws r) (.loc A.length) = some "Cursor.take_new" := disp_c A B ws r rfl rfl rfl
theorem disp_take_number (A B : Sto) (ws r : List Str) : disp tab_take_number "take_number" (Sx A B ws r) (.loc A.length) = some "Cursor.take_number" := disp_c A B ws r rfl rfl rfl
theorem drop_of {ws r : List Str} (h : r <:+ ws) : ws.drop (ws.length - r.length) = r := by
  obtain ⟨p, rfl⟩ := h
  simp
theorem ev_word (n : Nat) {m : Md} (A B : Sto) {ws r : List Str} (h : r <:+ ws) : interp delta (n+1) "Cursor.word" [(m, .loc A.length)] (Sx A B ws r) = .ok (.str (r.headD "")) (Sx A B ws r) := by
  rw [run_Cursor_word]
  have hl := h.length_le
  cases r with
  | nil => simp [sh_Cursor_word, getF_words, getF_at]
  | cons x r =>
    have hd := drop_of h
    have hx : (ws.map D.str)[ws.length - (x :: r).length]? = some (.str x) := by
      rw [List.getElem?_map, ← List.head?_drop, hd]; rfl
    have hi : kIx (.lst (ws.map D.str)) (.int ((ws.length - (x :: r).length : Nat))) (Sx A B ws (x :: r)) = .ok (.str x) (Sx A B ws (x :: r)) := kIx_lst_of (atI_nat hx)
    have hlt : ((ws.length - (x :: r).length : Nat) : Int) < ws.length := by simp at hl ⊢; omega
    simp only [sh_Cursor_word, sCons_eq, sIf_eq, bTst_eq, bBin_eq, bAttr_eq, bVarR_z, slotA_loc, bind_ok, getF_words, getF_at, bCall_eq, lCons_eq, lNil_eq, kLen_lst, List.length_map, kLt, kCmp_int, rBl_bl, outB_ok, hlt, decide_true, if_pos, sRet_eq, hi, out_ok, seq_ret, fin_ret, List.headD_cons]
def badX (ws r : List Str) : Exn := ⟨"BadText", [("at", .int ((ws.length - r.length : Nat)))]⟩
theorem ev_fail (n : Nat) {m : Md} (A B : Sto) (ws r : List Str) : interp delta (n+2) "Cursor.fail" [(m, .loc A.length)] (Sx A B ws r) = .exc (badX ws r) (Sx A B ws r) := by
  rw [run_Cursor_fail]
  unfold sh_Cursor_fail sRaise
  simp [getF_at, run_x_BadText, badX]
theorem ev_take (n : Nat) {m m' : Md} (A B : Sto) {ws r : List Str} {x : Str} (h : (x :: r) <:+ ws) : interp delta (n+2) "Cursor.take" [(m, .loc A.length), (m', .str x)] (Sx A B ws (x :: r)) = .ok .non (Sx A B ws r) := by
  rw [run_Cursor_take]
  have hs := setF_at A B ws r x h
  simp only [List.length_cons] at hs
  simp [sh_Cursor_take, disp_word, ev_word n A B h, getF_at, hs]
/-- what taking a word gives, as the program's result -/
def PR.R {α : Type} (f : α → D) (A B : Sto) (ws : List Str) : PR α → R D
  | .ok v r => .ok (f v) (Sx A B ws r)
  | .bad r => .exc (badX ws r) (Sx A B ws r)
def pOne (opts : List Str) : List Str → PR Str
  | [] => .bad []
  | x :: r => if x ∈ opts then .ok x r else .bad (x :: r)
theorem ev_take_one (n : Nat) {m m' : Md} (A B : Sto) {ws r : List Str} (opts : List Str) (h : r <:+ ws) (h0 : ("" : Str) ∉ opts) : interp delta (n+3) "Cursor.take_one" [(m, .loc A.length), (m', .tup (opts.map D.str))] (Sx A B ws r) = PR.R D.str A B ws (pOne opts r) := by
  rw [run_Cursor_take_one]
  cases r with
  | nil => simp [sh_Cursor_take_one, disp_word, ev_word (n+1) A B h, kNotIn_strsT, h0, disp_fail, ev_fail, pOne, PR.R]
  | cons x r =>
    by_cases hx : x ∈ opts
    · have hs := setF_at A B ws r x h
      simp [sh_Cursor_take_one, disp_word, ev_word (n+1) A B h, kNotIn_strsT, hx, pOne, PR.R, getF_at] at hs ⊢
      simp [hs]
    · simp [sh_Cursor_take_one, disp_word, ev_word (n+1) A B h, kNotIn_strsT, hx, disp_fail, ev_fail, pOne, PR.R]
theorem kIn_none (x : Str) (st : Sto) : kIn (.str x) (.tup []) st = .ok (.bl false) st := by
  have := kIn_strsT (st := st) x []
  simpa using this
theorem isNm_nil : isNm ("" : Str) = false := by decide +kernel
theorem numD_nil : numD ("" : Str) = .non := by unfold numD; rw [show numO ("" : Str) = none by decide +kernel]
theorem ev_take_new (n : Nat) {m m' : Md} (A B : Sto) {ws r : List Str} (h : r <:+ ws) (hz : ∀ w ∈ ws, w.length ≤ sizeLine) : interp delta (n+3) "Cursor.take_new" [(m, .loc A.length), (m', .tup [])] (Sx A B ws r) = PR.R D.str A B ws (pN r) := by
  rw [run_Cursor_take_new]
  cases r with
  | nil => simp [sh_Cursor_take_new, disp_word, ev_word (n+1) A B h, ev_is_name (n+1) ("" : Str) (Nat.zero_le _), isNm_nil, disp_fail, ev_fail, pN, PR.R]
  | cons x r =>
    have hl := hz x (h.subset (List.mem_cons_self ..))
    by_cases hx : isNm x = true
    · have hs := setF_at A B ws r x h
      simp [sh_Cursor_take_new, disp_word, ev_word (n+1) A B h, ev_is_name (n+1) x hl, hx, kIn_none, pN, PR.R, getF_at] at hs ⊢
      simp [hs]
    · simp [sh_Cursor_take_new, disp_word, ev_word (n+1) A B h, ev_is_name (n+1) x hl, hx, disp_fail, ev_fail, pN, PR.R]
def pNum : List Str → PR Nat
  | [] => .bad []
  | x :: r => match numO x with
    | some n => .ok n r
    | none => .bad (x :: r)
theorem ev_take_number (n : Nat) {m m1 m2 : Md} (A B : Sto) {ws r : List Str} (h : r <:+ ws) (hz : ∀ w ∈ ws, w.length ≤ sizeLine) : interp delta (n+3) "Cursor.take_number" [(m, .loc A.length), (m1, .int 0), (m2, .int 65535)] (Sx A B ws r) = PR.R (fun k : Nat => D.int k) A B ws (pNum r) := by
  rw [run_Cursor_take_number]
  cases r with
  | nil => simp [sh_Cursor_take_number, disp_word, ev_word (n+1) A B h, ev_number_of (n+1) ("" : Str) (Nat.zero_le _), numD_nil, disp_fail, ev_fail, pNum, PR.R]
  | cons x r =>
    have hl := hz x (h.subset (List.mem_cons_self ..))
    cases hx : numO x with
    | none =>
      have hD : numD x = .non := by unfold numD; rw [hx]
      simp [sh_Cursor_take_number, disp_word, ev_word (n+1) A B h, ev_number_of (n+1) x hl, hD, disp_fail, ev_fail, pNum, hx, PR.R]
    | some k =>
      have hD : numD x = .int k := by unfold numD; rw [hx]
      have hk := (numO_back hx).2
      have hk' : ¬ (65535 : Int) < k := by omega
      have hk'' : (k : Int) ≤ 65535 := by omega
      have hs := setF_at A B ws r x h
      simp [sh_Cursor_take_number, disp_word, ev_word (n+1) A B h, ev_number_of (n+1) x hl, hD, pNum, hx, PR.R, getF_at, hk', hk''] at hs ⊢
      simp [hs]
/-! ### the readers -/
theorem kIn_S (x : Str) (st : Sto) : kIn (.str x) g_SIGNS st = .ok (.bl (decide (x ∈ signs))) st := kIn_strsT x signs
theorem kIn_E (x : Str) (st : Sto) : kIn (.str x) g_SEEN st = .ok (.bl (decide (x ∈ seen))) st := kIn_strsT x seen
theorem nil_S : ("" : Str) ∉ signs := by decide +kernel
theorem nil_E : ("" : Str) ∉ seen := by decide +kernel
theorem Gr : g_GREATEST = D.int 65535 := rfl
section
variable {A B : Sto} {ws : List Str}
/-- the part of read_sight behind the operators -/
theorem sight_atom (n : Nat) {m m' : Md} {r : List Str} {k : Int} (h : r <:+ ws) (hz : ∀ w ∈ ws, w.length ≤ sizeLine) (hop : r.headD "" ∈ signs → ¬ 1 < k) :
    interp delta (n + 4) "read_sight" [(m, .loc A.length), (m', .int k)] (Sx A B ws r) = PR.R Si.d A B ws (pA r) := by
  rw [run_read_sight]
  cases r with
  | nil =>
    simp [sh_read_sight, disp_word, ev_word (n+2) A B h, kIn_S, kIn_E, nil_S, nil_E, Gr, disp_take_number, ev_take_number n A B h hz, pNum, pA, PR.R]
  | cons x r =>
    have hc : (decide (x ∈ signs) = true → decide (k > 1) = false) := by simpa using hop
    by_cases he : x ∈ seen
    · have hs := (seen_facts x he).1
      simp [sh_read_sight, disp_word, ev_word (n+2) A B h, kIn_S, kIn_E, hs, he, disp_take, ev_take (n+1) A B h, pA_c, PR.R, Si.d]
    · have ht := ev_take_number n (m := .esc) (m1 := .rd) (m2 := .rd) A B h hz
      cases hn : numO x with
      | none =>
        by_cases hs : x ∈ signs
        · have := hc (by simpa using hs)
          simp [sh_read_sight, disp_word, ev_word (n+2) A B h, kIn_S, kIn_E, he, Gr, disp_take_number, ht, pNum, hn, pA_c, PR.R, hs]
          simp at this
          omega
        · simp [sh_read_sight, disp_word, ev_word (n+2) A B h, kIn_S, kIn_E, he, Gr, disp_take_number, ht, pNum, hn, pA_c, PR.R, hs]
      | some q =>
        have hs : x ∉ signs := fun z => by rw [(signs_facts x z).2.2.2.1] at hn; cases hn
        simp [sh_read_sight, disp_word, ev_word (n+2) A B h, kIn_S, kIn_E, he, Gr, disp_take_number, ht, pNum, hn, pA_c, PR.R, hs, Si.d]
theorem ev_read_sight : ∀ (k n : Nat) {m m' : Md} {r : List Str}, r <:+ ws → (∀ w ∈ ws, w.length ≤ sizeLine) →
    interp delta (n + k + 4) "read_sight" [(m, .loc A.length), (m', .int ((k : Nat) + 1 : Int))] (Sx A B ws r) = PR.R Si.d A B ws (pS k r)
  | 0, n, m, m', r, h, hz => by
    have := sight_atom (A := A) (B := B) n (m := m) (m' := m') (k := ((0 : Nat) : Int) + 1) h hz (by simp)
    rw [this]
    cases r <;> rfl
  | k + 1, n, m, m', r, h, hz => by
    cases r with
    | nil =>
      have := sight_atom (A := A) (B := B) (n + (k + 1)) (m := m) (m' := m') (k := ((k + 1 : Nat) : Int) + 1) h hz (fun z => absurd z nil_S)
      rw [this]; rfl
    | cons x r =>
      by_cases hs : x ∈ signs
      · have hsfx : r <:+ ws := (List.suffix_cons x r).trans h
        have i1 := ev_read_sight k n (m := .rd) (m' := .rd) hsfx hz
        have e1 : n + (k + 1) + 3 = n + k + 4 := by omega
        have ht : interp delta (n + k + 4) "Cursor.take" [(.esc, .loc A.length), (.rd, .str x)] (Sx A B ws (x :: r)) = _ := ev_take (n + k + 2) A B h
        have hw : interp delta (n + k + 4) "Cursor.word" [(.esc, .loc A.length)] (Sx A B ws (x :: r)) = _ := ev_word (n + k + 3) A B h
        have ek : ((k : Nat) : Int) + 1 + 1 - 1 = (k : Nat) + 1 := by omega
        rw [show n + (k + 1) + 4 = (n + k + 4) + 1 by omega, run_read_sight, pS_c, if_pos hs]
        have hg : (1 : Int) < (k : Nat) + 1 + 1 := by omega
        cases hp : pS k r with
        | bad q =>
          rw [hp] at i1
          simp [sh_read_sight, disp_word, hw, kIn_S, hs, hg, disp_take, ht, ek, i1, PR.R]
        | ok a q =>
          have hq : q <:+ ws := by
            obtain ⟨hq, _⟩ := pS_snd k r q a hp
            exact (hq ▸ List.suffix_append a.w q : q <:+ r).trans hsfx
          have i2 := ev_read_sight k n (m := .rd) (m' := .rd) hq hz
          rw [hp] at i1
          cases hp2 : pS k q with
          | bad q2 =>
            rw [hp2] at i2
            simp [sh_read_sight, disp_word, hw, kIn_S, hs, hg, disp_take, ht, ek, i1, i2, hp2, PR.R]
          | ok b q2 =>
            rw [hp2] at i2
            simp [sh_read_sight, disp_word, hw, kIn_S, hs, hg, disp_take, ht, ek, i1, i2, hp2, PR.R, Si.d]
      · have := sight_atom (A := A) (B := B) (n + (k + 1)) (m := m) (m' := m') (k := ((k + 1 : Nat) : Int) + 1) h hz (fun z => absurd z hs)
        rw [this, pS_c, if_neg hs]
end
end K35

namespace K35
open PySem L2 NC
section
variable {A B : Sto} {ws : List Str}
theorem pOne_c (o : List Str) (x : Str) (r : List Str) : pOne o (x :: r) = if x ∈ o then .ok x r else .bad (x :: r) := rfl
theorem sfx_of {a r q : List Str} (h : r <:+ ws) (e : r = a ++ q) : q <:+ ws := (e ▸ List.suffix_append a q : q <:+ r).trans h
theorem ev_rs8 (n : Nat) {m m' : Md} {r : List Str} (h : r <:+ ws) (hz : ∀ w ∈ ws, w.length ≤ sizeLine) :
    interp delta (n + 11) "read_sight" [(m, .loc A.length), (m', .int 8)] (Sx A B ws r) = PR.R Si.d A B ws (pS 7 r) := ev_read_sight 7 n h hz
theorem ev_read_deed (n : Nat) {m : Md} {r : List Str} (h : r <:+ ws) (hz : ∀ w ∈ ws, w.length ≤ sizeLine) :
    interp delta (n + 12) "read_deed" [(m, .loc A.length)] (Sx A B ws r) = PR.R De.d A B ws (pD r) := by
  rw [run_read_deed]
  have ho : ∀ {m1 m2 : Md}, interp delta (n + 11) "Cursor.take_one" [(m1, .loc A.length), (m2, .tup [.str "call", .str "answer"])] (Sx A B ws r) = PR.R D.str A B ws (pOne ["call", "answer"] r) := fun {m1 m2} => ev_take_one (n + 8) A B ["call", "answer"] h (by decide +kernel)
  have hn : ∀ {m1 m2 : Md} {q : List Str}, q <:+ ws → interp delta (n + 11) "Cursor.take_new" [(m1, .loc A.length), (m2, .tup [])] (Sx A B ws q) = PR.R D.str A B ws (pN q) := fun {m1 m2 q} hq => ev_take_new (n + 8) A B hq hz
  have hs : ∀ {m1 m2 : Md} {q : List Str}, q <:+ ws → interp delta (n + 11) "read_sight" [(m1, .loc A.length), (m2, .int 8)] (Sx A B ws q) = PR.R Si.d A B ws (pS 7 q) := fun {m1 m2 q} hq => ev_rs8 n hq hz
  cases r with
  | nil => simp [sh_read_deed, disp_take_one, ho, pOne, PR.R, pD]
  | cons x r =>
    have h1 : r <:+ ws := sfx_of (a := [x]) h rfl
    by_cases ha : x = "answer"
    · subst ha
      have hm : ("answer" : Str) ∈ [("call" : Str), "answer"] := by decide +kernel
      have hp : pOne ["call", "answer"] (("answer" : Str) :: r) = .ok "answer" r := by rw [pOne_c, if_pos hm]
      rw [hp] at ho
      rw [pD_c, if_pos rfl]
      cases hq : pS 7 r with
      | bad q => simp [sh_read_deed, disp_take_one, ho, hs h1, hq, PR.R]
      | ok s q => simp [sh_read_deed, disp_take_one, ho, hs h1, hq, PR.R, De.d]
    · rw [pD_c, if_neg ha]
      by_cases hc : x = "call"
      · subst hc
        have hm : ("call" : Str) ∈ [("call" : Str), "answer"] := by decide +kernel
        have hp : pOne ["call", "answer"] (("call" : Str) :: r) = .ok "call" r := by rw [pOne_c, if_pos hm]
        rw [hp] at ho
        rw [if_pos rfl]
        cases hq : pN r with
        | bad q => simp [sh_read_deed, disp_take_one, disp_take_new, ho, hn h1, hq, PR.R, ha]
        | ok c q =>
          obtain ⟨e1, _⟩ := pN_snd hq
          have h2 : q <:+ ws := sfx_of (a := [c]) h1 e1
          cases hq2 : pN q with
          | bad q2 => simp [sh_read_deed, disp_take_one, disp_take_new, ho, hn h1, hq, hn h2, hq2, PR.R, ha]
          | ok p q2 =>
            obtain ⟨e2, _⟩ := pN_snd hq2
            have h3 : q2 <:+ ws := sfx_of (a := [p]) h2 e2
            cases hq3 : pS 7 q2 with
            | bad q3 => simp [sh_read_deed, disp_take_one, disp_take_new, ho, hn h1, hq, hn h2, hq2, hs h3, hq3, PR.R, ha]
            | ok s q3 => simp [sh_read_deed, disp_take_one, disp_take_new, ho, hn h1, hq, hn h2, hq2, hs h3, hq3, PR.R, ha, De.d]
      · have hp : pOne ["call", "answer"] (x :: r) = .bad (x :: r) := by rw [pOne_c, if_neg (by simp [ha, hc])]
        rw [hp] at ho
        simp [sh_read_deed, disp_take_one, ho, PR.R, if_neg hc]
/-- one turn of read_outsider -/
theorem turn_rule (n : Nat) {r : List Str} {x : Str} {us : List D} {s0 s3 : Slot} (h : (("when" : Str) :: r) <:+ ws) (hz : ∀ w ∈ ws, w.length ≤ sizeLine) (hu : us.length < sizeLine) :
    lb_read_outsider_0 (interp delta (n + 12)) [s0, some (.frz, .loc A.length), some (.own, .lst us), s3] (Sx A B ws ("when" :: r)) =
      match pR r with
      | .ok u q => .next [s0, some (.frz, .loc A.length), some (.own, .lst (us ++ [u.d])), some (.frz, u.t.d)] (Sx A B ws q)
      | .bad q => .exc (badX ws q) [s0, some (.frz, .loc A.length), some (.own, .lst us), (match pS 7 r with | .ok t _ => some (.frz, t.d) | .bad _ => s3)] (Sx A B ws q) := by
  have h1 : r <:+ ws := sfx_of (a := ["when"]) h rfl
  have ht : interp delta (n + 12) "Cursor.take" [(.esc, .loc A.length), (.rd, .str "when")] (Sx A B ws ("when" :: r)) = _ := ev_take (n + 10) A B h
  have hs : ∀ {m1 m2 : Md} {q : List Str}, q <:+ ws → interp delta (n + 12) "read_sight" [(m1, .loc A.length), (m2, .int 8)] (Sx A B ws q) = PR.R Si.d A B ws (pS 7 q) := fun {m1 m2 q} hq => ev_rs8 (n + 1) hq hz
  unfold pR
  cases hq : pS 7 r with
  | bad q => simp [lb_read_outsider_0, disp_take, ht, hs h1, hq, PR.R]
  | ok t q =>
    obtain ⟨e1, _⟩ := pS_snd _ _ _ _ hq
    have h2 := sfx_of h1 e1
    have hd := ev_read_deed (A := A) (B := B) n (m := .rd) h2 hz
    cases hq2 : pD q with
    | bad q2 =>
      rw [hq2] at hd
      simp [lb_read_outsider_0, disp_take, ht, hs h1, hq, hd, PR.R, sApp_E, appE_own, hq2]
    | ok e q2 =>
      obtain ⟨e2, _⟩ := pD_snd hq2
      have h3 := sfx_of h2 e2
      rw [hq2] at hd
      cases hq3 : pS 7 q2 with
      | bad q3 => simp [lb_read_outsider_0, disp_take, ht, hs h1, hq, hd, hs h3, hq3, PR.R, sApp_E, appE_own, hq2]
      | ok c q3 => simp [lb_read_outsider_0, disp_take, ht, hs h1, hq, hd, hs h3, hq3, PR.R, sApp_E, appE_own, hq2, appO_of, hu, Ru.d]
end
end K35

namespace K35
open PySem L2 NC
theorem sz40 : 1000000 ≤ sizeLine := by rw [sizeLine_eq]; decide
section
variable {A B : Sto} {ws : List Str}
abbrev tstR (cl : Calls) : FB := bAndT (bTst (bBin kEq (bMeth0 cl tab_word "word" (bVarR 1)) (bC (D.str "when")))) (bTst (bBin kLt (bCall kLen (lCons (bVarR 2) lNil)) (bC g_MOST_RULES)))
theorem when_ne : ¬ ("" : Str) = "when" := by decide +kernel
theorem gM : g_MOST_RULES = D.int 40 := rfl
theorem loop_rules (n : Nat) (hz : ∀ w ∈ ws, w.length ≤ sizeLine) : ∀ (k f : Nat) {r : List Str} {us : List D} (s0 s3 : Slot), r <:+ ws → us.length + k = 40 → k < f →
    match pL k r with
    | .ok vs q => ∃ s3', whL (tstR (interp delta (n + 12))) (lb_read_outsider_0 (interp delta (n + 12))) f [s0, some (.frz, .loc A.length), some (.own, .lst us), s3] (Sx A B ws r) = .next [s0, some (.frz, .loc A.length), some (.own, .lst (us ++ vs.map Ru.d)), s3'] (Sx A B ws q)
    | .bad q => ∃ e', whL (tstR (interp delta (n + 12))) (lb_read_outsider_0 (interp delta (n + 12))) f [s0, some (.frz, .loc A.length), some (.own, .lst us), s3] (Sx A B ws r) = .exc (badX ws q) e' (Sx A B ws q)
  | k, 0, r, us, s0, s3, h, hu, hf => absurd hf (Nat.not_lt_zero _)
  | k, f + 1, r, us, s0, s3, h, hu, hf => by
    have hw : interp delta (n + 12) "Cursor.word" [(.esc, .loc A.length)] (Sx A B ws r) = _ := ev_word (n + 11) A B h
    cases r with
    | nil =>
      have : pL k [] = .ok [] [] := by cases k <;> rfl
      rw [this, whL_step]
      exact ⟨s3, by simp [disp_word, hw, when_ne]⟩
    | cons x r =>
      have h1 : r <:+ ws := sfx_of (a := [x]) h rfl
      by_cases hx : x = "when"
      · subst hx
        cases k with
        | zero =>
          rw [show pL 0 (("when" : Str) :: r) = .ok [] ("when" :: r) from rfl, whL_step]
          have : ¬ ((us.length : Nat) : Int) < 40 := by omega
          exact ⟨s3, by simp [disp_word, hw, gM, this]⟩
        | succ k =>
          have hlt : ((us.length : Nat) : Int) < 40 := by omega
          have ht := turn_rule (A := A) (B := B) n (x := "") (us := us) (s0 := s0) (s3 := s3) h hz (by have := sz40; omega)
          have hc : tstR (interp delta (n + 12)) [s0, some (.frz, .loc A.length), some (.own, .lst us), s3] (Sx A B ws ("when" :: r)) = .ok true (Sx A B ws ("when" :: r)) := by simp [disp_word, hw, gM, hlt]
          rw [pL_c, if_pos rfl, whL_step, hc, outB_ok, if_pos rfl, ht]
          cases hq : pR r with
          | bad q => exact ⟨_, rfl⟩
          | ok u q =>
            obtain ⟨e1, _⟩ := pR_snd hq
            have h2 := sfx_of h1 e1
            have ih := loop_rules n hz k f (r := q) (us := us ++ [u.d]) s0 (some (.frz, u.t.d)) h2 (by simp; omega) (by omega)
            rw [PR.bind_ok]
            cases hl : pL k q with
            | bad q2 => rw [hl] at ih; exact ih
            | ok vs q2 =>
              rw [hl] at ih
              obtain ⟨s3', ih⟩ := ih
              refine ⟨s3', ih.trans ?_⟩
              rw [List.append_assoc]; rfl
      · have e1 : pL k (x :: r) = .ok [] (x :: r) := by
          cases k with
          | zero => rfl
          | succ k => rw [pL_c, if_neg hx]
        rw [e1, whL_step]
        exact ⟨s3, by simp [disp_word, hw, hx]⟩
end
/-! ### making objects -/
theorem ev_mk_Cursor (n : Nat) {m : Md} (st : Sto) {ws : List Str} (hne : ws ≠ [("" : Str)]) (hsp : ∀ w ∈ ws, noSp w) (hl : (Txt.join (" " : Str) ws).length + 2 ≤ sizeLine) :
    interp delta (n + 2) "Cursor" [(m, .str (Txt.join (" " : Str) ws))] st = .ok (.loc st.length) (Sx st [] ws ws) := by
  rw [run_mk_Cursor]
  unfold mkR
  have key : interp delta (n + 1) "Cursor.__init__" ((.esc, .loc st.length) :: [(m, .str (Txt.join (" " : Str) ws))]) (st ++ [.ins "Cursor" []]) = .ok .non (Sx st [] ws ws) := by
    rw [run_Cursor___init__]
    have h1 : ∀ d, setF fc_words "words" d (st ++ [.ins "Cursor" []]) (.loc st.length) = some (st ++ [.ins "Cursor" [("words", d)]]) := fun d => by
      rw [setF_of (c := "Cursor") (fs := []) (get_mid st [] _) (by decide +kernel) (by decide)]
      rw [set_mid]; rfl
    have h2 : ∀ d e, setF fc_at "at" e (st ++ [.ins "Cursor" [("words", d)]]) (.loc st.length) = some (st ++ [.ins "Cursor" [("words", d), ("at", e)]]) := fun d e => by
      rw [setF_of (c := "Cursor") (fs := [("words", d)]) (get_mid st [] _) (by decide +kernel) (Nat.lt_of_sub_eq_succ rfl)]
      rw [set_mid]; rfl
    have h3 : Sx st [] ws ws = st ++ [.ins "Cursor" [("words", .lst (ws.map D.str)), ("at", .int 0)]] := by unfold Sx; rw [Nat.sub_self]; rfl
    rw [h3]
    by_cases hw : ws = []
    · subst hw
      rw [join_nil]
      simp [sh_Cursor___init__, h1, h2]
    · have hj := join_ne hw hne
      have hs : kSplit (.str (Txt.join (" " : Str) ws)) (.str " ") (st ++ [.ins "Cursor" []]) = .ok (.lst (ws.map D.str)) (st ++ [.ins "Cursor" []]) := by
        rw [kSplit_of (by decide +kernel) hl, split_sp hw hsp]
      simp [sh_Cursor___init__, h1, h2, hj, hs]
  rw [key]
abbrev outC (us : List D) : Cell := .ins "Outsider" [("rules", .tup us)]
theorem ev_mk_OutsiderL (n : Nat) {m : Md} (st : Sto) (us : List D) : interp delta (n + 2) "Outsider" [(m, .lst us)] st = .ok (.loc st.length) (st ++ [outC us]) := by
  rw [run_mk_Outsider]
  unfold mkR
  have h1 : ∀ d, setF fc_rules "rules" d (st ++ [.ins "Outsider" []]) (.loc st.length) = some (st ++ [.ins "Outsider" [("rules", d)]]) := fun d => by
    rw [setF_of (c := "Outsider") (fs := []) (get_mid st [] _) (by decide +kernel) (by decide)]
    rw [set_mid]; rfl
  have key : interp delta (n + 1) "Outsider.__init__" ((.esc, .loc st.length) :: [(m, .lst us)]) (st ++ [.ins "Outsider" []]) = .ok .non (st ++ [outC us]) := by
    rw [run_Outsider___init__]
    simp [sh_Outsider___init__, h1]
  rw [key]
theorem ev_mk_OutsiderT (n : Nat) {m : Md} (st : Sto) (us : List D) : interp delta (n + 2) "Outsider" [(m, .tup us)] st = .ok (.loc st.length) (st ++ [outC us]) := by
  rw [run_mk_Outsider]
  unfold mkR
  have h1 : ∀ d, setF fc_rules "rules" d (st ++ [.ins "Outsider" []]) (.loc st.length) = some (st ++ [.ins "Outsider" [("rules", d)]]) := fun d => by
    rw [setF_of (c := "Outsider") (fs := []) (get_mid st [] _) (by decide +kernel) (by decide)]
    rw [set_mid]; rfl
  have key : interp delta (n + 1) "Outsider.__init__" ((.esc, .loc st.length) :: [(m, .tup us)]) (st ++ [.ins "Outsider" []]) = .ok .non (st ++ [outC us]) := by
    rw [run_Outsider___init__]
    simp [sh_Outsider___init__, h1]
  rw [key]
/-- words that can be handed in -/
structure Wds (ws : List Str) : Prop where
  ne : ws ≠ [("" : Str)]
  sp : ∀ w ∈ ws, noSp w
  jl : (Txt.join (" " : Str) ws).length ≤ 900000
theorem Wds.join {ws : List Str} (h : Wds ws) : (Txt.join (" " : Str) ws).length + 2 ≤ sizeLine := by
  have h1 := h.jl
  have := sz40
  omega
theorem Wds.kj {ws : List Str} (h : Wds ws) (st : Sto) : kJoin (.str " ") (.lst (ws.map D.str)) st = .ok (.str (Txt.join (" " : Str) ws)) st := by
  refine kJoin_map _ _ ?_
  have h2 := join_len_le ws
  have h3 := h.jl
  have h4 : ((" " : Str)).length = 1 := by decide +kernel
  rw [h4]
  omega
theorem Wds.hz {ws : List Str} (h : Wds ws) : ∀ w ∈ ws, w.length ≤ sizeLine := fun w hw => by
  have := mem_sum_le hw
  have h2 := join_len_le ws
  have h3 := h.jl
  have := sz40
  omega
theorem Wds.nn {ws : List Str} (h : Wds ws) : ws.length ≤ 900001 := by
  have h2 := join_len_le ws
  have h3 := h.jl
  omega
theorem ev_read_outsider (n : Nat) {m : Md} (st : Sto) {ws : List Str} (h : Wds ws) : interp delta (n + 13) "read_outsider" [(m, .str (Txt.join (" " : Str) ws))] st = match pO ws with
    | .ok us _ => .ok (.loc (st.length + 1)) (st ++ [cur ws ws.length, outC (us.map Ru.d)])
    | .bad q => .exc (badX ws q) (Sx st [] ws q) := by
  rw [run_read_outsider]
  have hc : ∀ {m : Md}, interp delta (n + 12) "Cursor" [(m, .str (Txt.join (" " : Str) ws))] st = _ := fun {m} => ev_mk_Cursor (n + 10) (m := m) st h.ne h.sp h.join
  have hf : ∀ {m : Md} (q : List Str), interp delta (n + 12) "Cursor.fail" [(m, .loc st.length)] (Sx st [] ws q) = _ := fun {m} q => ev_fail (n + 10) st [] ws q
  have hl := loop_rules (A := st) (B := []) (ws := ws) n h.hz 40 wFuel (r := ws) (us := []) (some (.frz, .str (Txt.join (" " : Str) ws))) none (List.suffix_refl ws) rfl (by decide)
  have hwh : ∀ e s, sWh (tstR (interp delta (n + 12))) (lb_read_outsider_0 (interp delta (n + 12))) e s = whL (tstR (interp delta (n + 12))) (lb_read_outsider_0 (interp delta (n + 12))) wFuel e s := fun e s => rfl
  unfold pO
  cases hq : pL 40 ws with
  | bad q =>
    rw [hq] at hl
    obtain ⟨e', hl⟩ := hl
    rw [PR.bind_bad]
    simp [sh_read_outsider, hc, hwh, hl]
  | ok vs q =>
    rw [hq] at hl
    obtain ⟨s3', hl⟩ := hl
    obtain ⟨e1, _⟩ := pL_snd _ _ _ _ hq
    have h2 : q <:+ ws := sfx_of (List.suffix_refl ws) e1
    have h3 := h2.length_le
    rw [PR.bind_ok]
    simp only [List.nil_append] at hl
    by_cases hn : q = []
    · subst hn
      have hlt : ¬ ((ws.length : Nat) : Int) < (ws.length : Nat) := by omega
      have ho : ∀ {m : Md}, interp delta (n + 12) "Outsider" [(m, .lst (vs.map Ru.d))] (Sx st [] ws []) = _ := fun {m} => ev_mk_OutsiderL (n + 10) (m := m) (Sx st [] ws []) (vs.map Ru.d)
      have hlen : (Sx st [] ws []).length = st.length + 1 := by simp [Sx]
      rw [if_pos rfl]
      simp [sh_read_outsider, hc, hwh, hl, getF_words, getF_at, ho, hlen]
      simp [Sx]
    · have hpos : 0 < q.length := List.length_pos_iff.mpr hn
      have hlt : ((ws.length - q.length : Nat) : Int) < (ws.length : Nat) := by omega
      rw [if_neg hn]
      simp [sh_read_outsider, hc, hwh, hl, getF_words, getF_at, hlt, disp_fail, hf]
end K35

namespace K35
open PySem L2 NC
theorem Si.w_len : ∀ (k : Nat) (s : Si), s.ok k → s.w.length + 1 ≤ 2 ^ (k + 1)
  | 0, .see x, h => Nat.le_refl 2
  | k + 1, .see x, h => by
    have := Nat.one_lt_two_pow (n := k + 1) (by omega)
    rw [Nat.pow_succ]
    show 2 ≤ _
    omega
  | 0, .num n, h => Nat.le_refl 2
  | k + 1, .num n, h => by
    have := Nat.one_lt_two_pow (n := k + 1) (by omega)
    rw [Nat.pow_succ]
    show 2 ≤ _
    omega
  | 0, .op _ _ _, h => absurd h id
  | k + 1, .op s l r, h => by
    have h1 := Si.w_len k l h.2.1
    have h2 := Si.w_len k r h.2.2
    rw [Nat.pow_succ]
    simp [Si.w]
    omega
theorem Si.w_le {k : Nat} {s : Si} (h : s.ok k) (hk : k ≤ 7) : s.w.length ≤ 255 := by
  have h1 := Si.w_len k s h
  have h2 : 2 ^ (k + 1) ≤ 2 ^ 8 := Nat.pow_le_pow_right (by decide) (by omega)
  omega
theorem seen_num {x : Str} (h : x ∈ seen) : ¬ x = "number" := by
  intro e
  subst e
  revert h
  decide +kernel
theorem ev_sight_words : ∀ (k n : Nat) {m : Md} (s : Si) (st : Sto), s.ok k → k ≤ 7 → interp delta (n + k + 1) "sight_words" [(m, s.d)] st = .ok (.lst (s.w.map D.str)) st
  | k, n, m, .see x, st, h, hk => by
    have hx := seen_num (Si.ok_see h)
    rw [run_sight_words]
    simp [sh_sight_words, Si.d, Si.w, hx]
  | k, n, m, .num q, st, h, hk => by
    have hl := kStr_num (Nat.lt_of_le_of_lt (Si.ok_num h) (by decide)) st
    rw [run_sight_words]
    simp [sh_sight_words, Si.d, Si.w, hl, -kStr_int]
  | 0, n, m, .op s l r, st, h, hk => absurd h id
  | k + 1, n, m, .op s l r, st, h, hk => by
    have hx := (signs_facts s h.1).2.2.2.2
    have i1 : ∀ {m : Md}, interp delta (n + (k + 1)) "sight_words" [(m, l.d)] st = _ := fun {m} => ev_sight_words k n l st h.2.1 (by omega)
    have i2 : ∀ {m : Md}, interp delta (n + (k + 1)) "sight_words" [(m, r.d)] st = _ := fun {m} => ev_sight_words k n r st h.2.2 (by omega)
    have l1 := Si.w_le h.2.1 (by omega)
    have l2 := Si.w_le h.2.2 (by omega)
    have hz := sz40
    have z1 : 1 + l.w.length ≤ sizeLine := by omega
    have z2 : l.w.length + 1 + r.w.length ≤ sizeLine := by omega
    rw [run_sight_words]
    simp [sh_sight_words, Si.d, Si.w, hx, i1, i2, z1, z2]
theorem De.w_le {e : De} (h : e.ok) : e.w.length ≤ 258 := by
  cases e with
  | ans s => have := Si.w_le h (by omega); simp [De.w]; omega
  | call c p s => have := Si.w_le h.2.2 (by omega); simp [De.w]; omega
theorem Ru.w_le {r : Ru} (h : r.ok) : r.w.length ≤ 800 := by
  have h1 := Si.w_le h.1 (by omega)
  have h2 := De.w_le h.2.1
  have h3 := Si.w_le h.2.2 (by omega)
  simp [Ru.w]; omega
theorem allW_le : ∀ {us : List Ru}, (∀ u ∈ us, u.ok) → (allW us).length ≤ us.length * 800
  | [], _ => Nat.zero_le _
  | u :: us, h => by
    have h1 := Ru.w_le (h u (List.mem_cons_self ..))
    have h2 := allW_le (us := us) fun x hx => h x (List.mem_cons_of_mem _ hx)
    simp [allW, Nat.succ_mul]; omega
theorem allW_app : ∀ (us vs : List Ru), allW (us ++ vs) = allW us ++ allW vs
  | [], vs => rfl
  | u :: us, vs => by simp [allW, allW_app us vs]
/-- one turn of outsider_text -/
theorem turn_text (n : Nat) (u : Ru) (hu : u.ok) (ds : List D) (s0 : Slot) (st : Sto) (hd : ds.length ≤ 100000) :
    lb_outsider_text_0 (interp delta (n + 8)) [s0, some (.own, .lst ds), some (.frz, u.t.d), some (.frz, u.e.d), some (.frz, u.c.d)] st = .next [s0, some (.own, .lst (ds ++ u.w.map D.str)), some (.frz, u.t.d), some (.frz, u.e.d), some (.frz, u.c.d)] st := by
  have h1 : ∀ {m : Md}, interp delta (n + 8) "sight_words" [(m, u.t.d)] st = _ := fun {m} => ev_sight_words 7 n u.t st hu.1 (by omega)
  have h3 : ∀ {m : Md}, interp delta (n + 8) "sight_words" [(m, u.c.d)] st = _ := fun {m} => ev_sight_words 7 n u.c st hu.2.2 (by omega)
  have l1 := Si.w_le hu.1 (by omega)
  have l3 := Si.w_le hu.2.2 (by omega)
  have hz := sz40
  obtain ⟨t, e, c⟩ := u
  dsimp only at *
  cases e with
  | ans s =>
    have hs : s.ok 7 := hu.2.1
    have h2 : ∀ {m : Md}, interp delta (n + 8) "sight_words" [(m, s.d)] st = _ := fun {m} => ev_sight_words 7 n s st hs (by omega)
    have l2 := Si.w_le hs (by omega)
    have z1 : 1 + t.w.length ≤ sizeLine := by omega
    have z2 : t.w.length + 1 + 1 ≤ sizeLine := by omega
    have z3 : t.w.length + 1 + 1 + s.w.length ≤ sizeLine := by omega
    have z4 : t.w.length + (s.w.length + 1) + 1 + c.w.length ≤ sizeLine := by omega
    have z5 : ds.length + (t.w.length + (s.w.length + (c.w.length + 1)) + 1) ≤ sizeLine := by omega
    simp [lb_outsider_text_0, sExt_E, extE_own, extD_lst, De.d, h1, h2, h3, z1, z2, z3, z4]
    rw [extO_of]
    · simp [Ru.w, De.w]
    · simp; omega
  | call k p s =>
    have hs : s.ok 7 := hu.2.1.2.2
    have h2 : ∀ {m : Md}, interp delta (n + 8) "sight_words" [(m, s.d)] st = _ := fun {m} => ev_sight_words 7 n s st hs (by omega)
    have l2 := Si.w_le hs (by omega)
    have z1 : 1 + t.w.length ≤ sizeLine := by omega
    have z2 : t.w.length + 1 + 3 ≤ sizeLine := by omega
    have z3 : t.w.length + 3 + 1 + s.w.length ≤ sizeLine := by omega
    have z4 : t.w.length + (s.w.length + 3) + 1 + c.w.length ≤ sizeLine := by omega
    simp [lb_outsider_text_0, sExt_E, extE_own, extD_lst, De.d, h1, h2, h3, z1, z2, z3, z4]
    rw [extO_of]
    · simp [Ru.w, De.w]
    · simp; omega
end K35

namespace K35
open PySem L2 NC
theorem isBad (us : List Ru) (k : Nat) (hk : us.length ≤ k) (h : ∀ u ∈ us, u.ok) : (allW us).length ≤ k * 800 := Nat.le_trans (allW_le h) (Nat.mul_le_mul_right _ hk)
theorem ev_outsider_text (n : Nat) {m : Md} (st : Sto) (c : Nat) (us : List Ru) (hc : st[c]? = some (outC (us.map Ru.d))) (h : ∀ u ∈ us, u.ok) (hn : us.length ≤ 40) (hw : Wds (allW us)) :
    interp delta (n + 9) "outsider_text" [(m, .loc c)] st = .ok (.str (Txt.join (" " : Str) (allW us))) st := by
  rw [run_outsider_text]
  have hg : getF "rules" st (.loc c) = .ok (.tup (us.map Ru.d)) st := getF_of hc rfl
  obtain ⟨e, s', h1, rfl, s2, s3, s4, rfl⟩ := forL_inv (t := tgTup (tgCons (tgName 2) (tgCons (tgName 3) (tgCons (tgName 4) tgNil)))) (b := lb_outsider_text_0 (interp delta (n + 8)))
    (fun i env st' => st' = st ∧ ∃ s2 s3 s4, env = [some (.frz, .loc c), some (.own, .lst ((allW (us.take i)).map D.str)), s2, s3, s4])
    (ds := us.map Ru.d) (fun i d env st' hd ⟨h0, s2, s3, s4, he⟩ => by
      subst h0 he
      rw [List.getElem?_map] at hd
      cases hu : us[i]? with
      | none => rw [hu] at hd; cases hd
      | some u =>
        rw [hu] at hd
        cases hd
        have hok := h u (List.mem_of_getElem? hu)
        have hl : ((allW (us.take i)).map D.str).length ≤ 100000 := by
          rw [List.length_map]
          have := isBad (us.take i) 40 (by rw [List.length_take]; omega) fun x hx => h x (List.mem_of_mem_take hx)
          omega
        have ht := turn_text n u hok ((allW (us.take i)).map D.str) (some (.frz, .loc c)) st' hl
        refine ⟨_, _, st', by simp [Ru.d, tgTup, tgCons, tgName, tgNil], .inl ht, rfl, some (.frz, u.t.d), some (.frz, u.e.d), some (.frz, u.c.d), ?_⟩
        have e2 : us.take (i + 1) = us.take i ++ [u] := by
          rw [List.take_succ, hu]; rfl
        rw [e2, allW_app]
        simp [allW]) (env := [some (.frz, .loc c), some (.own, .lst []), none, none, none]) (st := st) ⟨rfl, none, none, none, rfl⟩
  rw [List.length_map, List.take_length] at h1
  have hj := hw.kj s'
  simp [sh_outsider_text, sFor_L, hg, h1, hj, -sFor_eq]
end K35

namespace K35
open PySem L2 NC
/-! ### the pool that numbers are drawn from -/
abbrev plC (ns : List Int) (p : Nat) (b s l g : Int) : Cell := .lst [.lst (ns.map D.int), .int (p : Nat), .int b, .int s, .int l, .int g]
/-- the pool stands at place 0 -/
def Pool (ns : List Int) (st : Sto) : Prop := ∃ p b s l g, st[0]? = some (plC ns p b s l g)
theorem kIx_cell {st : Sto} {n : Nat} {ds : List D} {i : Int} {d : D} (h : st[n]? = some (.lst ds)) (h2 : atI ds i = some d) : kIx (.loc n) (.int i) st = .ok d st := by
  unfold kIx
  dsimp only
  rw [h]
  dsimp only
  rw [h2]
theorem setC_of {st : Sto} {env : Ev} {fo fk fe : F} {n j : Nat} {ds : List D} {k : Int} {d : D} (he : fe env st = .ok d st) (ho : fo env st = .ok (.loc n) st) (hk : fk env st = .ok (.int k) st) (h : st[n]? = some (.lst ds)) (hj : ixN ds.length k = some j) :
    sSetC fo fk fe env st = .next env (st.set n (.lst (ds.set j d))) := by
  unfold sSetC
  rw [he, out_ok, ho, out_ok, hk, out_ok, cellL_of h]
  dsimp only
  rw [hj]
theorem set0_get {st : Sto} (h : 0 < st.length) (c : Cell) : (st.set 0 c)[0]? = some c := by
  rw [List.getElem?_set_self h]
theorem set0_set (st : Sto) (c d : Cell) : (st.set 0 c).set 0 d = st.set 0 d := List.set_set ..
theorem k10 (st : Sto) : kPow (.int 10) (.int 18) st = .ok (.int 1000000000000000000) st := by
  rw [kPow_int, if_pos ⟨by omega, by omega, by decide⟩, show ((10 : Int) ^ (18 : Int).toNat) = 1000000000000000000 from by decide +kernel]
section
variable {ns : List Int} {st : Sto} (h0 : 0 < st.length)
include h0
theorem pl0 (p : Nat) (b s l g : Int) : kIx (.loc 0) (.int 0) (st.set 0 (plC ns p b s l g)) = .ok (.lst (ns.map D.int)) (st.set 0 (plC ns p b s l g)) := kIx_cell (set0_get h0 _) rfl
theorem pl1 (p : Nat) (b s l g : Int) : kIx (.loc 0) (.int 1) (st.set 0 (plC ns p b s l g)) = .ok (.int (p : Nat)) (st.set 0 (plC ns p b s l g)) := kIx_cell (set0_get h0 _) rfl
theorem pl2 (p : Nat) (b s l g : Int) : kIx (.loc 0) (.int 2) (st.set 0 (plC ns p b s l g)) = .ok (.int b) (st.set 0 (plC ns p b s l g)) := kIx_cell (set0_get h0 _) rfl
theorem pl3 (p : Nat) (b s l g : Int) : kIx (.loc 0) (.int 3) (st.set 0 (plC ns p b s l g)) = .ok (.int s) (st.set 0 (plC ns p b s l g)) := kIx_cell (set0_get h0 _) rfl
theorem pl4 (p : Nat) (b s l g : Int) : kIx (.loc 0) (.int 4) (st.set 0 (plC ns p b s l g)) = .ok (.int l) (st.set 0 (plC ns p b s l g)) := kIx_cell (set0_get h0 _) rfl
section
variable {env : Ev} {fe : F} (hv : ∀ S, bVarR 0 env S = .ok (.loc 0) S)
include hv
theorem sp1 {p p' : Nat} {b s l g x : Int} (hx : x = (p' : Nat)) (he : fe env (st.set 0 (plC ns p b s l g)) = .ok (.int x) (st.set 0 (plC ns p b s l g))) : sSetC (bVarR 0) (bC (D.int 1)) fe env (st.set 0 (plC ns p b s l g)) = .next env (st.set 0 (plC ns p' b s l g)) := by
  subst hx
  rw [setC_of he (hv _) rfl (set0_get h0 _) (j := 1) rfl, set0_set]; rfl
theorem sp2 {p : Nat} {b s l g x : Int} (he : fe env (st.set 0 (plC ns p b s l g)) = .ok (.int x) (st.set 0 (plC ns p b s l g))) : sSetC (bVarR 0) (bC (D.int 2)) fe env (st.set 0 (plC ns p b s l g)) = .next env (st.set 0 (plC ns p x s l g)) := by
  rw [setC_of he (hv _) rfl (set0_get h0 _) (j := 2) rfl, set0_set]; rfl
theorem sp3 {p : Nat} {b s l g x : Int} (he : fe env (st.set 0 (plC ns p b s l g)) = .ok (.int x) (st.set 0 (plC ns p b s l g))) : sSetC (bVarR 0) (bC (D.int 3)) fe env (st.set 0 (plC ns p b s l g)) = .next env (st.set 0 (plC ns p b x l g)) := by
  rw [setC_of he (hv _) rfl (set0_get h0 _) (j := 3) rfl, set0_set]; rfl
theorem sp4 {p : Nat} {b s l g x : Int} (he : fe env (st.set 0 (plC ns p b s l g)) = .ok (.int x) (st.set 0 (plC ns p b s l g))) : sSetC (bVarR 0) (bC (D.int 4)) fe env (st.set 0 (plC ns p b s l g)) = .next env (st.set 0 (plC ns p b s x g)) := by
  rw [setC_of he (hv _) rfl (set0_get h0 _) (j := 4) rfl, set0_set]; rfl
end
abbrev drE (size : Int) (s2 s3 : Slot) : Ev := [some (.frz, .loc 0), some (.frz, .int size), s2, s3]
/-- the number that is taken up -/
abbrev drA (cl : Calls) : FS := sCons (sAsg (tgName 2) (bBin kIx (bBin kIx (bVarR 0) (bC (D.int 0))) (bBin kIx (bVarR 0) (bC (D.int 1)))))
  (sCons (sSetC (bVarR 0) (bC (D.int 1)) (bBin kAdd (bBin kIx (bVarR 0) (bC (D.int 1))) (bC (D.int 1))))
  (sCons (sSetC (bVarR 0) (bC (D.int 3)) (bBin kMod (bCall kInt (lCons (bBin kAdd (bBin kMulL (bBin kIx (bVarR 0) (bC (D.int 3))) (bC (D.int 31))) (bVarR 2)) lNil)) (bC (D.int 2147483647))))
  (sCons (sSetC (bVarR 0) (bC (D.int 4)) (bC (D.int 7)))
  (sIf (bTst (bBin kGe (bVarR 2) (bBin kPow (bC (D.int 10)) (bC (D.int 18)))))
  (sSetC (bVarR 0) (bC (D.int 2)) (bVar 2))
  sNil))))
theorem ev_drA (cl : Calls) (size : Int) (p : Nat) (b s l g : Int) (hp : p < ns.length) : ∃ s2 p' b' s' l', drA cl (drE size none none) (st.set 0 (plC ns p b s l g)) = .next (drE size s2 none) (st.set 0 (plC ns p' b' s' l' g)) := by
  obtain ⟨c, hc⟩ : ∃ c, ns[p]? = some c := ⟨ns[p], List.getElem?_eq_getElem hp⟩
  have hi : ∀ S, kIx (.lst (ns.map D.int)) (.int (p : Nat)) S = .ok (.int c) S := fun S => kIx_lst_of (atI_nat (by rw [List.getElem?_map, hc]; rfl))
  have a1 := fun S hv x => sp1 (ns := ns) h0 (env := drE size (some (.frz, .int c)) none) (fe := S) hv (p := p) (p' := p + 1) (b := b) (s := s) (l := l) (g := g) (x := x) 
  have hv : ∀ S, bVarR 0 (drE size (some (.frz, .int c)) none) S = .ok (.loc 0) S := fun S => rfl
  refine ⟨some (.frz, .int c), p + 1, if 1000000000000000000 ≤ c then c else b, (s * 31 + c) % 2147483647, 7, ?_⟩
  have e0 : sAsg (tgName 2) (bBin kIx (bBin kIx (bVarR 0) (bC (D.int 0))) (bBin kIx (bVarR 0) (bC (D.int 1)))) (drE size none none) (st.set 0 (plC ns p b s l g)) = .next (drE size (some (.frz, .int c)) none) (st.set 0 (plC ns p b s l g)) := by
    simp [pl0 h0, pl1 h0, hi]
  have e1 := sp1 (ns := ns) h0 hv (fe := bBin kAdd (bBin kIx (bVarR 0) (bC (D.int 1))) (bC (D.int 1))) (p := p) (p' := p + 1) (b := b) (s := s) (l := l) (g := g) (x := (p : Int) + 1) (by omega) (by simp [pl1 h0])
  have e2 := sp3 (ns := ns) h0 hv (fe := bBin kMod (bCall kInt (lCons (bBin kAdd (bBin kMulL (bBin kIx (bVarR 0) (bC (D.int 3))) (bC (D.int 31))) (bVarR 2)) lNil)) (bC (D.int 2147483647))) (p := p + 1) (b := b) (s := s) (l := l) (g := g) (x := (s * 31 + c) % 2147483647) (by simp [pl3 h0])
  have e3 := sp4 (ns := ns) h0 hv (fe := bC (D.int 7)) (p := p + 1) (b := b) (s := (s * 31 + c) % 2147483647) (l := l) (g := g) (x := 7) rfl
  have e4 : sIf (bTst (bBin kGe (bVarR 2) (bBin kPow (bC (D.int 10)) (bC (D.int 18))))) (sSetC (bVarR 0) (bC (D.int 2)) (bVar 2)) sNil (drE size (some (.frz, .int c)) none) (st.set 0 (plC ns (p + 1) b ((s * 31 + c) % 2147483647) 7 g)) = .next (drE size (some (.frz, .int c)) none) (st.set 0 (plC ns (p + 1) (if 1000000000000000000 ≤ c then c else b) ((s * 31 + c) % 2147483647) 7 g)) := by
    have e5 := sp2 (ns := ns) h0 hv (fe := bVar 2) (p := p + 1) (b := b) (s := (s * 31 + c) % 2147483647) (l := 7) (g := g) (x := c) rfl
    rw [sIf_eq, bTst_eq, bBin_eq]
    have ev : bVarR 2 (drE size (some (.frz, .int c)) none) (st.set 0 (plC ns (p + 1) b ((s * 31 + c) % 2147483647) 7 g)) = .ok (.int c) _ := rfl
    rw [ev, bind_ok, bBin_eq, bC_eq, bind_ok, bC_eq, bind_ok, k10, bind_ok]
    show (rBl (.ok (.bl (decide (c ≥ 1000000000000000000))) _)).outB _ _ = _
    rw [rBl_bl, outB_ok]
    by_cases hc : 1000000000000000000 ≤ c
    · rw [if_pos hc, decide_eq_true (show c ≥ 1000000000000000000 from hc), if_pos rfl, e5]
    · rw [if_neg hc, decide_eq_false (show ¬ c ≥ 1000000000000000000 from hc), if_neg Bool.false_ne_true]; rfl
  show sCons _ _ _ _ = _
  rw [sCons_eq, e0, seq_next, sCons_eq, e1, seq_next, sCons_eq, e2, seq_next, sCons_eq, e3, seq_next, e4]
omit h0 in
theorem ev_draw (n : Nat) {m m' : Md} {st : Sto} (size : Int) (hs : 0 < size ∧ size < 1073741824) (hP : Pool ns st) : ∃ v st', interp delta (n + 1) "_law_draw" [(m, .loc 0), (m', .int size)] st = .ok (.int v) st' ∧ 0 ≤ v ∧ v < size ∧ Pool ns st' ∧ st'.length = st.length := by
  obtain ⟨p, b, s, l, g, hc⟩ := hP
  have h0 : 0 < st.length := by
    cases st with
    | nil => cases hc
    | cons => simp
  have est : st = st.set 0 (plC ns p b s l g) := by
    cases st with
    | nil => cases hc
    | cons c r => simp at hc; rw [hc]; rfl
  rw [run_law_draw, slotA_loc, slotA_int]
  have c1 : bTst (bBin kLe (bBin kIx (bVarR 0) (bC (D.int 2))) (bC (D.int 0))) (drE size none none) (st.set 0 (plC ns p b s l g)) = .ok (decide (b ≤ 0)) (st.set 0 (plC ns p b s l g)) := by simp [pl2 h0, kLe]
  have c2 : bTst (bBin kLe (bBin kIx (bVarR 0) (bC (D.int 4))) (bC (D.int 0))) (drE size none none) (st.set 0 (plC ns p b s l g)) = .ok (decide (l ≤ 0)) (st.set 0 (plC ns p b s l g)) := by simp [pl4 h0, kLe]
  have c3 : bTst (bBin kLt (bBin kIx (bVarR 0) (bC (D.int 1))) (bCall kLen (lCons (bBin kIx (bVarR 0) (bC (D.int 0))) lNil))) (drE size none none) (st.set 0 (plC ns p b s l g)) = .ok (decide (p < ns.length)) (st.set 0 (plC ns p b s l g)) := by simp [pl0 h0, pl1 h0, kLt]
  have first : ∃ s2 p' b' s' l', sIf (bAndT (bTst (bBin kLe (bBin kIx (bVarR 0) (bC (D.int 2))) (bC (D.int 0)))) (bAndT (bTst (bBin kLe (bBin kIx (bVarR 0) (bC (D.int 4))) (bC (D.int 0)))) (bTst (bBin kLt (bBin kIx (bVarR 0) (bC (D.int 1))) (bCall kLen (lCons (bBin kIx (bVarR 0) (bC (D.int 0))) lNil)))))) (drA (interp delta n)) sNil (drE size none none) st = .next (drE size s2 none) (st.set 0 (plC ns p' b' s' l' g)) := by
    rw [← est] at c1 c2 c3
    rw [sIf_eq, bAndT_eq, c1, bind_ok]
    by_cases z1 : b ≤ 0
    · rw [decide_eq_true z1, if_pos rfl, bAndT_eq, c2, bind_ok]
      by_cases z2 : l ≤ 0
      · rw [decide_eq_true z2, if_pos rfl, c3, outB_ok]
        by_cases z3 : p < ns.length
        · rw [decide_eq_true z3, if_pos rfl]
          obtain ⟨s2, p', b', s', l', h⟩ := ev_drA (ns := ns) h0 (interp delta n) size p b s l g z3
          rw [← est] at h
          exact ⟨s2, p', b', s', l', h⟩
        · rw [decide_eq_false z3, if_neg Bool.false_ne_true, sNil_eq]
          exact ⟨none, p, b, s, l, by rw [← est]⟩
      · rw [decide_eq_false z2, if_neg Bool.false_ne_true, outB_ok, if_neg Bool.false_ne_true, sNil_eq]
        exact ⟨none, p, b, s, l, by rw [← est]⟩
    · rw [decide_eq_false z1, if_neg Bool.false_ne_true, outB_ok, if_neg Bool.false_ne_true, sNil_eq]
      exact ⟨none, p, b, s, l, by rw [← est]⟩
  obtain ⟨s2, p', b', s', l', hf⟩ := first
  unfold sh_law_draw
  rw [sCons_eq]
  have hf' : sIf (bAndT (bTst (bBin kLe (bBin kIx (bVarR 0) (bC (D.int 2))) (bC (D.int 0)))) (bAndT (bTst (bBin kLe (bBin kIx (bVarR 0) (bC (D.int 4))) (bC (D.int 0)))) (bTst (bBin kLt (bBin kIx (bVarR 0) (bC (D.int 1))) (bCall kLen (lCons (bBin kIx (bVarR 0) (bC (D.int 0))) lNil)))))) (drA (interp delta n)) sNil [some (.frz, .loc 0), some (.frz, .int size), none, none] st = .next (drE size s2 none) (st.set 0 (plC ns p' b' s' l' g)) := hf
  rw [hf', seq_next]
  have hv : ∀ x S, bVarR 0 (drE size s2 x) S = .ok (.loc 0) S := fun x S => rfl
  have hv1 : ∀ x S, bVarR 1 (drE size s2 x) S = .ok (.int size) S := fun x S => rfl
  have pool : ∀ (p : Nat) (b s l : Int), Pool ns (st.set 0 (plC ns p b s l g)) := fun p b s l => ⟨p, b, s, l, g, set0_get h0 _⟩
  by_cases hb : 0 < b'
  · have hmod : ∀ S, kMod (.int b') (.int size) S = .ok (.int (b' % size)) S := fun S => by rw [kMod_int, if_pos hs.1]
    have hdiv : ∀ S, kFdiv (.int b') (.int size) S = .ok (.int (b' / size)) S := fun S => by rw [kFdiv_int, if_pos hs]
    have e1 := sp2 (ns := ns) h0 (hv (some (.frz, .int (b' % size)))) (fe := bBin kFdiv (bBin kIx (bVarR 0) (bC (D.int 2))) (bVarR 1)) (p := p') (b := b') (s := s') (l := l') (g := g) (x := b' / size) (by rw [bBin_eq, bBin_eq, hv, bind_ok, bC_eq, bind_ok, pl2 h0, bind_ok, hv1, bind_ok, hdiv])
    have e2 := sp4 (ns := ns) h0 (hv (some (.frz, .int (b' % size)))) (fe := bC (D.int 0)) (p := p') (b := b' / size) (s := s') (l := l') (g := g) (x := 0) rfl
    refine ⟨b' % size, st.set 0 (plC ns p' (b' / size) s' 0 g), ?_, Int.emod_nonneg _ (by omega), Int.emod_lt_of_pos _ hs.1, pool _ _ _ _, by simp⟩
    have hc : bTst (bBin kGt (bBin kIx (bVarR 0) (bC (D.int 2))) (bC (D.int 0))) (drE size s2 none) (st.set 0 (plC ns p' b' s' l' g)) = .ok true (st.set 0 (plC ns p' b' s' l' g)) := by
      simp [pl2 h0, kGt, hb]
    have e3 : sSet 3 (bBin kMod (bCall kInt (lCons (bBin kIx (bVarR 0) (bC (D.int 2))) lNil)) (bVarR 1)) (drE size s2 none) (st.set 0 (plC ns p' b' s' l' g)) = .next (drE size s2 (some (.frz, .int (b' % size)))) (st.set 0 (plC ns p' b' s' l' g)) := by
      rw [sSet_eq, bBin_eq, bCall_eq, lCons_eq, bBin_eq, hv, bind_ok, bC_eq, bind_ok, pl2 h0, bind_ok, lNil_eq, bind_ok, bind_ok, kInt_int, bind_ok, hv1, bind_ok, hmod, out_ok]
      rfl
    rw [sCons_eq, sIf_eq, hc, outB_ok, if_pos rfl, sCons_eq, e3, seq_next, sCons_eq, e1, seq_next, sCons_eq, e2, seq_next]
    rfl
  · have hc : bTst (bBin kGt (bBin kIx (bVarR 0) (bC (D.int 2))) (bC (D.int 0))) (drE size s2 none) (st.set 0 (plC ns p' b' s' l' g)) = .ok false (st.set 0 (plC ns p' b' s' l' g)) := by
      simp [pl2 h0, kGt, hb]
    have e1 := sp4 (ns := ns) h0 (hv none) (fe := bBin kSub (bBin kIx (bVarR 0) (bC (D.int 4))) (bC (D.int 1))) (p := p') (b := b') (s := s') (l := l') (g := g) (x := l' - 1) (by simp [pl4 h0])
    have e2 := sp3 (ns := ns) h0 (hv none) (fe := bBin kMod (bCall kInt (lCons (bBin kAdd (bBin kMulL (bBin kIx (bVarR 0) (bC (D.int 3))) (bC (D.int 48271))) (bC (D.int 12345))) lNil)) (bC (D.int 2147483647))) (p := p') (b := b') (s := s') (l := l' - 1) (g := g) (x := (s' * 48271 + 12345) % 2147483647) (by simp [pl3 h0])
    refine ⟨((s' * 48271 + 12345) % 2147483647 * 69621 + 7919) % 2147483647 % size, st.set 0 (plC ns p' b' ((s' * 48271 + 12345) % 2147483647) (l' - 1) g), ?_, Int.emod_nonneg _ (by omega), Int.emod_lt_of_pos _ hs.1, pool _ _ _ _, by simp⟩
    rw [sCons_eq, sIf_eq, hc, outB_ok, if_neg Bool.false_ne_true, sNil_eq, seq_next, sCons_eq, e1, seq_next, sCons_eq, e2, seq_next]
    simp [pl3 h0, hs.1]
end
/-! ### being the same -/
theorem isi_tuple_str (i : Str) (st : Sto) : isiV "tuple" (.str i) st = .ok (.bl false) st := by rfl
theorem isi_list_str (i : Str) (st : Sto) : isiV "list" (.str i) st = .ok (.bl false) st := by rfl
theorem isi_bool_str (i : Str) (st : Sto) : isiV "bool" (.str i) st = .ok (.bl false) st := by rfl
theorem isi_int_str (i : Str) (st : Sto) : isiV "int" (.str i) st = .ok (.bl false) st := by rfl
theorem isi_tuple_int (i : Int) (st : Sto) : isiV "tuple" (.int i) st = .ok (.bl false) st := by rfl
theorem isi_list_int (i : Int) (st : Sto) : isiV "list" (.int i) st = .ok (.bl false) st := by rfl
theorem isi_str_int (i : Int) (st : Sto) : isiV "str" (.int i) st = .ok (.bl false) st := by rfl
theorem isi_tuple_bl (i : Bool) (st : Sto) : isiV "tuple" (.bl i) st = .ok (.bl false) st := by rfl
theorem isi_list_bl (i : Bool) (st : Sto) : isiV "list" (.bl i) st = .ok (.bl false) st := by rfl
theorem isi_tuple_non (st : Sto) : isiV "tuple" .non st = .ok (.bl false) st := by rfl
theorem isi_list_non (st : Sto) : isiV "list" .non st = .ok (.bl false) st := by rfl
theorem isi_tuple_lst (i : List D) (st : Sto) : isiV "tuple" (.lst i) st = .ok (.bl false) st := by rfl
theorem isi_list_tup (i : List D) (st : Sto) : isiV "list" (.tup i) st = .ok (.bl false) st := by rfl
theorem kEq_non (st : Sto) : kEq .non .non st = .ok (.bl true) st := by rfl
theorem isN_str (i : Str) (st : Sto) : isN (.str i) st = .ok (.bl false) st := by rfl
theorem isN_int (i : Int) (st : Sto) : isN (.int i) st = .ok (.bl false) st := by rfl
theorem isN_bl (i : Bool) (st : Sto) : isN (.bl i) st = .ok (.bl false) st := by rfl
theorem isN_non (st : Sto) : isN .non st = .ok (.bl true) st := by rfl
theorem ev_same_str (n : Nat) {m m' : Md} (x : Str) (st : Sto) : interp delta (n + 1) "_law_same" [(m, .str x), (m', .str x)] st = .ok (.bl true) st := by
  rw [run_law_same]
  simp [sh_law_same, isi_tuple_str, isi_list_str, isi_bool_str, isi_int_str, isiV_str_str, isN_str]
theorem ev_same_int (n : Nat) {m m' : Md} (x : Int) (st : Sto) : interp delta (n + 1) "_law_same" [(m, .int x), (m', .int x)] st = .ok (.bl true) st := by
  rw [run_law_same]
  simp [sh_law_same, isi_tuple_int, isi_list_int, isiV_bool_int, isiV_int_int, isN_int]
theorem ev_same_non (n : Nat) {m m' : Md} (st : Sto) : interp delta (n + 1) "_law_same" [(m, .non), (m', .non)] st = .ok (.bl true) st := by
  rw [run_law_same]
  simp [sh_law_same, isi_tuple_non, isi_list_non, isN_non, kEq_non]
theorem ev_same_bl (n : Nat) {m m' : Md} (b : Bool) (st : Sto) : interp delta (n + 1) "_law_same" [(m, .bl b), (m', .bl b)] st = .ok (.bl true) st := by
  rw [run_law_same]
  simp [sh_law_same, isi_tuple_bl, isi_list_bl, isN_bl, isiV_bool_bl]
/-- data of texts, numbers and tuples, at most k deep -/
def Sk : Nat → D → Prop
  | _, .str _ => True
  | _, .int _ => True
  | k + 1, .tup ds => ds.length ≤ 100000 ∧ ∀ e ∈ ds, Sk k e
  | _, _ => False
theorem Sk.up : ∀ {k : Nat} {d : D}, Sk k d → Sk (k + 1) d
  | 0, .str _, _ => trivial
  | _ + 1, .str _, _ => trivial
  | 0, .int _, _ => trivial
  | _ + 1, .int _, _ => trivial
  | k + 1, .tup ds, h => ⟨h.1, fun e he => Sk.up (h.2 e he)⟩
theorem Sk.upn {k : Nat} {d : D} (h : Sk k d) : ∀ j : Nat, Sk (k + j) d
  | 0 => h
  | j + 1 => (Sk.upn h j).up
theorem ev_same_tup (n : Nat) {m m' : Md} (ds : List D) (st : Sto) (hl : ds.length ≤ 100000) (ih : ∀ e ∈ ds, ∀ {m m' : Md}, interp delta n "_law_same" [(m, e), (m', e)] st = .ok (.bl true) st) : interp delta (n + 1) "_law_same" [(m, .tup ds), (m', .tup ds)] st = .ok (.bl true) st := by
  rw [run_law_same, slotA_tup, slotA_tup]
  obtain ⟨e, s', h1, rfl, s2, rfl⟩ := forL_inv (t := tgName 2) (b := lb_law_same_0 (interp delta n)) (fun i env st' => st' = st ∧ ∃ s2, env = [some (.frz, .tup ds), some (.frz, .tup ds), s2])
    (ds := rngD 0 ds.length) (fun i d env st' hd ⟨h0, s2, he⟩ => by
      subst h0 he
      obtain ⟨rfl, hi⟩ := rngD_get hd
      have hi' : i < ds.length := by omega
      refine ⟨[some (.frz, .tup ds), some (.frz, .tup ds), some (.frz, .int i)], [some (.frz, .tup ds), some (.frz, .tup ds), some (.frz, .int i)], st', by simp [tgName], .inl ?_, rfl, _, rfl⟩
      have hx : ∀ S, kIx (.tup ds) (.int (i : Nat)) S = .ok ds[i] S := fun S => kIx_tup_of (atI_nat (List.getElem?_eq_getElem hi'))
      have hs := fun {m m' : Md} => ih ds[i] (List.getElem_mem hi') (m := m) (m' := m')
      unfold lb_law_same_0
      simp only [sIf_eq, bNotT_eq, bTru_eq, bDef_eq, lCons_eq, bBin_eq, bVarR_z, bVarR_s, bind_ok, hx, lNil_eq]
      show (R.bind (rTru (interp delta n "_law_same" [(.rd, ds[i]), (.rd, ds[i])] st')) _).outB _ _ = _
      rw [hs]
      rfl) (env := [some (.frz, .tup ds), some (.frz, .tup ds), none]) (st := st) ⟨rfl, none, rfl⟩
  have hz : (ds.length : Int) ≤ sizeLine ∧ -(2 ^ 62) ≤ (ds.length : Int) := by
    have := sz6
    exact ⟨by omega, by omega⟩
  have hir : iRng1D (bCall kLen (lCons (bVarR 1) lNil)) [some (.frz, .tup ds), some (.frz, .tup ds), none] s' = .ok (rngD 0 ds.length) s' := iRng1D_int _ _ (by simp) hz
  unfold sh_law_same
  have c1 : bOrT (bTru (bIsi "tuple" (bVarR 1))) (bTru (bIsi "list" (bVarR 1))) [some (.frz, .tup ds), some (.frz, .tup ds), none] s' = .ok true s' := by
    simp [isiV_tuple_tup]
  have c2 : bOrT (bTst (bBin kNe (bIsi "tuple" (bVarR 1)) (bIsi "tuple" (bVarR 0)))) (bTst (bBin kNe (bIsi "list" (bVarR 1)) (bIsi "list" (bVarR 0)))) [some (.frz, .tup ds), some (.frz, .tup ds), none] s' = .ok false s' := by
    simp [isiV_tuple_tup, isi_list_tup]
  have c3 : bTst (bBin kNe (bCall kLen (lCons (bVarR 0) lNil)) (bCall kLen (lCons (bVarR 1) lNil))) [some (.frz, .tup ds), some (.frz, .tup ds), none] s' = .ok false s' := by
    simp
  rw [sCons_eq, sIf_eq, c1, outB_ok, if_pos rfl, sCons_eq, sIf_eq, c2, outB_ok, if_neg Bool.false_ne_true, sNil_eq, seq_next, sCons_eq, sIf_eq, c3, outB_ok, if_neg Bool.false_ne_true, sNil_eq, seq_next, sCons_eq, sFor_L, hir, outL_ok, h1, seq_next, sRet_eq, bC_eq, out_ok, seq_ret, fin_ret]
theorem ev_same_sk (k : Nat) : ∀ (n : Nat) {m m' : Md} (d : D) (st : Sto), Sk k d → interp delta (n + k + 1) "_law_same" [(m, d), (m', d)] st = .ok (.bl true) st := by
  induction k with
  | zero =>
    intro n m m' d st h
    cases d with
    | str x => exact ev_same_str n x st
    | int x => exact ev_same_int n x st
    | _ => exact h.elim
  | succ k ih =>
    intro n m m' d st h
    cases d with
    | str x => exact ev_same_str (n + (k + 1)) x st
    | int x => exact ev_same_int (n + (k + 1)) x st
    | tup ds => exact ev_same_tup (n + k + 1) ds st h.1 fun e he {m m'} => ih n e st (h.2 e he)
    | _ => exact h.elim
end K35

namespace K35
open PySem L2 NC
/-! ### names and numbers, by the law -/
theorem lets_iff (c : Nat) : c ∈ lets ↔ (97 ≤ c ∧ c ≤ 122) := by
  have key : lets = [97, 98, 99, 100, 101, 102, 103, 104, 105, 106, 107, 108, 109, 110, 111, 112, 113, 114, 115, 116, 117, 118, 119, 120, 121, 122] := by decide +kernel
  rw [key]; simp; omega
theorem lex1 (a b : Nat) : decide (([a] : List Nat) < [b]) = decide (a < b) := by
  by_cases h : a < b
  · rw [decide_eq_true h, decide_eq_true]; exact List.Lex.rel h
  · rw [decide_eq_false h, decide_eq_false]
    intro z
    cases z with
    | rel z => exact h z
    | cons z => cases z
theorem kLeS_ch (k c : Nat) (st : Sto) : kLeS (.str (ch k)) (.str (ch c)) st = .ok (.bl (decide (k ≤ c))) st := by
  rw [kLeS_str]
  show R.ok (D.bl (!decide (([c] : List Nat) < [k]))) st = _
  rw [lex1]
  by_cases h : k ≤ c
  · rw [decide_eq_true h, decide_eq_false (by omega)]; rfl
  · rw [decide_eq_false h, decide_eq_true (by omega)]; rfl
theorem ca : ("a" : Str) = ch 97 := by decide +kernel
theorem cz : ("z" : Str) = ch 122 := by decide +kernel
theorem c0 : ("0" : Str) = ch 48 := by decide +kernel
theorem c9 : ("9" : Str) = ch 57 := by decide +kernel
def okC (d : D) : Bool := match d with
  | .str s => decide (s.cps.toList.getD 0 0 ∈ lets) || decide (s.cps.toList.getD 0 0 ∈ digs)
  | _ => true
def okN (d : D) : Bool := match d with
  | .str s => decide (s.cps.toList.getD 0 0 ∈ digs)
  | _ => true
theorem okC_ch (c : Nat) : okC (.str (ch c)) = (decide (c ∈ lets) || decide (c ∈ digs)) := rfl
theorem okN_ch (c : Nat) : okN (.str (ch c)) = decide (c ∈ digs) := rfl
theorem dlets (c : Nat) : (decide (97 ≤ c) && decide (c ≤ 122)) = decide (c ∈ lets) := by
  by_cases h : c ∈ lets
  · obtain ⟨a, b⟩ := (lets_iff c).mp h
    rw [decide_eq_true h, decide_eq_true a, decide_eq_true b]; rfl
  · rw [decide_eq_false h]
    by_cases a : 97 ≤ c
    · have b : ¬ c ≤ 122 := fun b => h ((lets_iff c).mpr ⟨a, b⟩)
      rw [decide_eq_false b, Bool.and_false]
    · rw [decide_eq_false a, Bool.false_and]
theorem ddigs (c : Nat) : (decide (48 ≤ c) && decide (c ≤ 57)) = decide (c ∈ digs) := by
  by_cases h : c ∈ digs
  · obtain ⟨a, b⟩ := (digs_iff c).mp h
    rw [decide_eq_true h, decide_eq_true a, decide_eq_true b]; rfl
  · rw [decide_eq_false h]
    by_cases a : 48 ≤ c
    · have b : ¬ c ≤ 57 := fun b => h ((digs_iff c).mpr ⟨a, b⟩)
      rw [decide_eq_false b, Bool.and_false]
    · rw [decide_eq_false a, Bool.false_and]
theorem chain_lets (e : Ev) (f : F) (c : Nat) (st : Sto) (h : f e st = .ok (.str (ch c)) st) : bTst (bChain kLeS kLeS (bC (D.str "a")) f (bC (D.str "z"))) e st = .ok (decide (c ∈ lets)) st := by
  rw [bTst_eq, bChain_eq, bC_eq, bind_ok, h, bind_ok, ca, cz, kLeS_ch, rBl_bl, bind_ok, bC_eq, bind_ok, kLeS_ch, ← dlets]
  cases decide (97 ≤ c) <;> rfl
theorem chain_digs (e : Ev) (f : F) (c : Nat) (st : Sto) (h : f e st = .ok (.str (ch c)) st) : bTst (bChain kLeS kLeS (bC (D.str "0")) f (bC (D.str "9"))) e st = .ok (decide (c ∈ digs)) st := by
  rw [bTst_eq, bChain_eq, bC_eq, bind_ok, h, bind_ok, c0, c9, kLeS_ch, rBl_bl, bind_ok, bC_eq, bind_ok, kLeS_ch, ← ddigs]
  cases decide (48 ≤ c) <;> rfl
theorem chain_len (e : Ev) (f : F) (k : Nat) (b : Int) (st : Sto) (h : f e st = .ok (.int (k : Nat)) st) : bTst (bChain kLt kLt (bC (D.int 0)) f (bC (D.int b))) e st = .ok (decide (0 < k) && decide ((k : Int) < b)) st := by
  rw [bTst_eq, bChain_eq, bC_eq, bind_ok, h, bind_ok, kLt, kCmp_int, rBl_bl, bind_ok, bC_eq, bind_ok, kCmp_int]
  have : decide ((0 : Int) < (k : Int)) = decide (0 < k) := by
    by_cases q : 0 < k
    · rw [decide_eq_true q, decide_eq_true (by omega)]
    · rw [decide_eq_false q, decide_eq_false (by omega)]
  rw [this]
  cases decide (0 < k) <;> rfl
theorem any_chrs (p : D → Bool) (l : List Nat) : ((l.map fun c => D.str (ch c)).any fun d => !p d) = !(l.all fun c => p (.str (ch c))) := by
  induction l with
  | nil => rfl
  | cons c l ih => rw [List.map_cons, List.any_cons, ih, List.all_cons, Bool.not_and]
theorem keysD : g_KEYWORDS = D.tup (keys.map D.str) := rfl
theorem ev_law_is_name (n : Nat) {m : Md} (w : Str) (hz : w.length ≤ sizeLine) (st : Sto) : interp delta (n + 1) "_law_is_name" [(m, .str w)] st = .ok (.bl (isNm w)) st := by
  rw [run_law_is_name, slotA_str]
  have key : ∀ l : List Nat, (tx l).length ≤ sizeLine → fin (sh_law_is_name (interp delta n) [some (.frz, .str (tx l)), none, none] st) = .ok (.bl (nameL l)) st := by
    intro l hz
    unfold sh_law_is_name
    have a1 : sSet 1 (bTup (lCons (bC (D.str "asset")) (lCons (bC (D.str "contract")) (lCons (bC (D.str "var")) (lCons (bC (D.str "hold")) (lCons (bC (D.str "proc")) (lCons (bC (D.str "shown")) (lCons (bC (D.str "hidden")) (lCons (bC (D.str "end")) (lCons (bC (D.str "set")) (lCons (bC (D.str "need")) (lCons (bC (D.str "give")) (lCons (bC (D.str "get")) (lCons (bC (D.str "move")) (lCons (bC (D.str "ask")) (lCons (bC (D.str "call")) lNil)))))))))))))))) [some (.frz, .str (tx l)), none, none] st = .next [some (.frz, .str (tx l)), some (.frz, .tup ((keys.take 15).map D.str)), none] st := rfl
    rw [sCons_eq, a1, seq_next]
    have a2 : sSet 1 (bBin kAdd (bVarR 1) (bTup (lCons (bC (D.str "if")) (lCons (bC (D.str "else")) (lCons (bC (D.str "given")) (lCons (bC (D.str "have")) (lCons (bC (D.str "out")) (lCons (bC (D.str "mod")) lNil)))))))) [some (.frz, .str (tx l)), some (.frz, .tup ((keys.take 15).map D.str)), none] st = .next [some (.frz, .str (tx l)), some (.frz, .tup (keys.map D.str)), none] st := by
      have : kAdd (.tup ((keys.take 15).map D.str)) (.tup [.str "if", .str "else", .str "given", .str "have", .str "out", .str "mod"]) st = .ok (.tup (keys.map D.str)) st := by
        rw [kAdd_tup, if_pos (by have := sz6; simp [keys]; omega)]
        rfl
      rw [sSet_eq, bBin_eq, bVarR_s, bVarR_z, bind_ok]
      show (R.bind (R.ok _ st) _).out _ _ = _
      rw [bind_ok, this]
      rfl
    rw [sCons_eq, a2, seq_next]
    have hlen : bCall kLen (lCons (bVarR 0) lNil) [some (.frz, .str (tx l)), some (.frz, .tup (keys.map D.str)), none] st = .ok (.int (l.length : Nat)) st := by
      rw [bCall_eq, lCons_eq, bVarR_z, bind_ok, lNil_eq, bind_ok, bind_ok, kLen_str, if_pos hz, tx_len]
    have t1 := chain_len [some (.frz, .str (tx l)), some (.frz, .tup (keys.map D.str)), none] _ l.length 13 st hlen
    have d13 : decide ((l.length : Int) < 13) = decide (l.length ≤ 12) := by
      by_cases q : l.length ≤ 12
      · rw [decide_eq_true q, decide_eq_true (by omega)]
      · rw [decide_eq_false q, decide_eq_false (by omega)]
    rw [d13] at t1
    cases l with
    | nil =>
      rw [sCons_eq, sIf_eq, bOrT_eq, bNotT_eq, t1, bind_ok, bind_ok]
      rfl
    | cons c r =>
      have hi : kIx (.str (tx (c :: r))) (.int 0) st = .ok (.str (ch c)) st := kIx_str_of hz (seqIx0 c r)
      have hix : bBin kIx (bVarR 0) (bC (D.int 0)) [some (.frz, .str (tx (c :: r))), some (.frz, .tup (keys.map D.str)), none] st = .ok (.str (ch c)) st := by
        rw [bBin_eq, bVarR_z, bind_ok, bC_eq, bind_ok, hi]
      have t2 := chain_lets _ _ c st hix
      have hk : bTst (bBin kIn (bVarR 0) (bVarR 1)) [some (.frz, .str (tx (c :: r))), some (.frz, .tup (keys.map D.str)), none] st = .ok (decide (tx (c :: r) ∈ keys)) st := by
        rw [bTst_eq, bBin_eq, bVarR_z, bind_ok, bVarR_s, bVarR_z, bind_ok, kIn_strsT, rBl_bl]
      have hpos : decide (0 < (c :: r).length) = true := by simp
      have hg : (c :: r).getD 0 0 = c := rfl
      rw [hpos, Bool.true_and] at t1
      have hcond : bOrT (bNotT (bTst (bChain kLt kLt (bC (D.int 0)) (bCall kLen (lCons (bVarR 0) lNil)) (bC (D.int 13))))) (bOrT (bNotT (bTst (bChain kLeS kLeS (bC (D.str "a")) (bBin kIx (bVarR 0) (bC (D.int 0))) (bC (D.str "z"))))) (bTst (bBin kIn (bVarR 0) (bVarR 1)))) [some (.frz, .str (tx (c :: r))), some (.frz, .tup (keys.map D.str)), none] st = .ok (!(decide ((c :: r).length ≤ 12) && decide (c ∈ lets) && !decide (tx (c :: r) ∈ keys))) st := by
        rw [bOrT_eq, bNotT_eq, t1, bind_ok, bind_ok, bOrT_eq, bNotT_eq, t2, bind_ok, bind_ok, hk]
        cases decide ((c :: r).length ≤ 12) <;> cases decide (c ∈ lets) <;> cases decide (tx (c :: r) ∈ keys) <;> rfl
      rw [sCons_eq, sIf_eq, hcond, outB_ok]
      unfold nameL
      rw [hpos, hg, Bool.true_and]
      cases decide ((c :: r).length ≤ 12) && decide (c ∈ lets) && !decide (tx (c :: r) ∈ keys) with
      | false => rfl
      | true =>
        rw [Bool.not_true, if_neg Bool.false_ne_true, sNil_eq, seq_next, Bool.true_and, sCons_eq, sFor_L, iVar_str, if_pos hz, outL_ok, chrs_tx]
        have hl := forL_ret (t := tgName 2) (b := lb_law_is_name_0 (interp delta n)) (st := st) (fun d => !okC d) (.bl false) (fun e => ∃ s2, e = [some (.frz, .str (tx (c :: r))), some (.frz, .tup (keys.map D.str)), s2]) (ds := (c :: r).map fun c => D.str (ch c)) (fun d hd e ⟨s2, he⟩ => by
          subst he
          obtain ⟨k, hk, rfl⟩ := List.mem_map.mp hd
          refine ⟨[some (.frz, .str (tx (c :: r))), some (.frz, .tup (keys.map D.str)), some (.frz, .str (ch k))], rfl, ?_⟩
          have v2 : bVarR 2 [some (.frz, .str (tx (c :: r))), some (.frz, .tup (keys.map D.str)), some (.frz, .str (ch k))] st = .ok (.str (ch k)) st := rfl
          have q1 := chain_lets _ _ k st v2
          have q2 := chain_digs _ _ k st v2
          have hb : bNotT (bOrT (bTst (bChain kLeS kLeS (bC (D.str "a")) (bVarR 2) (bC (D.str "z")))) (bTst (bChain kLeS kLeS (bC (D.str "0")) (bVarR 2) (bC (D.str "9"))))) [some (.frz, .str (tx (c :: r))), some (.frz, .tup (keys.map D.str)), some (.frz, .str (ch k))] st = .ok (!okC (.str (ch k))) st := by
            rw [bNotT_eq, bOrT_eq, q1, bind_ok, q2, okC_ch]
            cases decide (k ∈ lets) <;> cases decide (k ∈ digs) <;> rfl
          unfold lb_law_is_name_0
          rw [sIf_eq, hb, outB_ok]
          cases okC (.str (ch k)) with
          | true => exact ⟨_, rfl, _, rfl⟩
          | false => rfl) (env := [some (.frz, .str (tx (c :: r))), some (.frz, .tup (keys.map D.str)), none]) ⟨none, rfl⟩
        rw [any_chrs] at hl
        have hall : ((c :: r).all fun c => okC (.str (ch c))) = (c :: r).all fun c => decide (c ∈ lets) || decide (c ∈ digs) := rfl
        rw [hall] at hl
        cases h : (c :: r).all fun c => decide (c ∈ lets) || decide (c ∈ digs) with
        | true =>
          rw [h, Bool.not_true, if_neg Bool.false_ne_true] at hl
          obtain ⟨e', h1, s2, rfl⟩ := hl
          rw [h1]; rfl
        | false =>
          rw [h, Bool.not_false, if_pos rfl] at hl
          rw [hl]; rfl
  exact key w.cps.toList (by rw [← tx_eq]; exact hz)
theorem dv_lt (l : List Nat) : NumText.AllDigits l → NumText.digitsVal l < 10 ^ l.length := by
  refine rev_ind (P := fun l => NumText.AllDigits l → NumText.digitsVal l < 10 ^ l.length) ?_ ?_ l
  · intro _; decide
  · intro l c ih h
    have h1 := ih fun x hx => h x (List.mem_append_left _ hx)
    have h2 := h c (by simp)
    rw [NumText.digitsVal_snoc, List.length_append, List.length_singleton, Nat.pow_succ]
    omega
theorem numO_ex (l : List Nat) (h0 : 0 < l.length) (h5 : l.length ≤ 5) (ha : (l.all fun c => decide (c ∈ digs)) = true) : (numO (tx l)).isSome = (decide (numW (NumText.digitsVal l) = tx l) && decide (NumText.digitsVal l < 65536)) := by
  have hd : NumText.AllDigits l := digs_all ha
  have hl : (tx l).cps.toList = l := rfl
  by_cases h : (numO (tx l)).isSome = true
  · obtain ⟨k, hk⟩ := Option.isSome_iff_exists.mp h
    obtain ⟨e1, e2⟩ := numO_back hk
    have hv : NumText.digitsVal l = k := by
      have : l = TL.numL k := by rw [← hl, e1]; exact numW_tl k
      rw [this, TL.numL_val]
    rw [h, hv, e1, decide_eq_true rfl, decide_eq_true (by omega)]; rfl
  · have h' : (numO (tx l)).isSome = false := by simpa using h
    rw [h']
    by_cases q : numW (NumText.digitsVal l) = tx l
    · by_cases q2 : NumText.digitsVal l < 65536
      · have := numO_num (n := NumText.digitsVal l) (by omega)
        rw [q] at this
        rw [this] at h'
        cases h'
      · rw [decide_eq_false q2, Bool.and_false]
    · rw [decide_eq_false q, Bool.false_and]
theorem ev_law_is_number (n : Nat) {m : Md} (w : Str) (hz : w.length ≤ sizeLine) (st : Sto) : interp delta (n + 1) "_law_is_number" [(m, .str w)] st = .ok (.bl (numO w).isSome) st := by
  rw [run_law_is_number, slotA_str]
  have key : ∀ l : List Nat, (tx l).length ≤ sizeLine → fin (sh_law_is_number (interp delta n) [some (.frz, .str (tx l)), none] st) = .ok (.bl (numO (tx l)).isSome) st := by
    intro l hz
    unfold sh_law_is_number
    have hlen : bCall kLen (lCons (bVarR 0) lNil) [some (.frz, .str (tx l)), none] st = .ok (.int (l.length : Nat)) st := by
      rw [bCall_eq, lCons_eq, bVarR_z, bind_ok, lNil_eq, bind_ok, bind_ok, kLen_str, if_pos hz, tx_len]
    have t1 := chain_len [some (.frz, .str (tx l)), none] _ l.length 6 st hlen
    rw [sCons_eq, sIf_eq, bNotT_eq, t1, bind_ok, outB_ok]
    by_cases h0 : 0 < l.length
    · by_cases h5 : l.length ≤ 5
      · rw [decide_eq_true h0, decide_eq_true (show (l.length : Int) < 6 by omega)]
        show fin ((Out.next _ _).seq _) = _
        rw [seq_next, sCons_eq, sFor_L, iVar_str, if_pos hz, outL_ok, chrs_tx]
        have hl := forL_ret (t := tgName 1) (b := lb_law_is_number_0 (interp delta n)) (st := st) (fun d => !okN d) (.bl false) (fun e => ∃ s2, e = [some (.frz, .str (tx l)), s2]) (ds := l.map fun c => D.str (ch c)) (fun d hd e ⟨s2, he⟩ => by
          subst he
          obtain ⟨k, hk, rfl⟩ := List.mem_map.mp hd
          refine ⟨[some (.frz, .str (tx l)), some (.frz, .str (ch k))], rfl, ?_⟩
          have v2 : bVarR 1 [some (.frz, .str (tx l)), some (.frz, .str (ch k))] st = .ok (.str (ch k)) st := rfl
          have q2 := chain_digs _ _ k st v2
          have hb : bNotT (bTst (bChain kLeS kLeS (bC (D.str "0")) (bVarR 1) (bC (D.str "9")))) [some (.frz, .str (tx l)), some (.frz, .str (ch k))] st = .ok (!okN (.str (ch k))) st := by
            rw [bNotT_eq, q2, okN_ch]; rfl
          unfold lb_law_is_number_0
          rw [sIf_eq, hb, outB_ok]
          cases okN (.str (ch k)) with
          | true => exact ⟨_, rfl, _, rfl⟩
          | false => rfl) (env := [some (.frz, .str (tx l)), none]) ⟨none, rfl⟩
        rw [any_chrs] at hl
        have hall : (l.all fun c => okN (.str (ch c))) = l.all fun c => decide (c ∈ digs) := rfl
        rw [hall] at hl
        cases h : l.all fun c => decide (c ∈ digs) with
        | true =>
          rw [h, Bool.not_true, if_neg Bool.false_ne_true] at hl
          obtain ⟨e', h1, s2, rfl⟩ := hl
          have hin := int_of h h0 h5 st
          have hks : kStr [.int (numV l)] st = .ok (.str (numW (NumText.digitsVal l))) st := kStr_num (by
            have hlt : NumText.digitsVal l < 10 ^ l.length := dv_lt l (digs_all h)
            have : 10 ^ l.length ≤ 10 ^ 5 := Nat.pow_le_pow_right (by decide) h5
            have : (10 : Nat) ^ 5 < 2 ^ 64 := by decide
            omega) st
          rw [h1, seq_next, numO_ex l h0 h5 h]
          simp only [sRet_eq, bAndV_eq, bBin_eq, bCall_eq, lCons_eq, bVarR_z, bind_ok, lNil_eq, hin, hks, kEq_str, rBl_bl, bC_eq, kLt, kCmp_int]
          have : decide (numV l < 65536) = decide (NumText.digitsVal l < 65536) := by
            unfold numV
            by_cases q : NumText.digitsVal l < 65536
            · rw [decide_eq_true q, decide_eq_true (by omega)]
            · rw [decide_eq_false q, decide_eq_false (by omega)]
          rw [this]
          cases decide (numW (NumText.digitsVal l) = tx l) <;> rfl
        | false =>
          rw [h, Bool.not_false, if_pos rfl] at hl
          rw [hl, seq_ret, fin_ret]
          have : numO (tx l) = none := by
            unfold numO
            rw [if_neg]
            intro z
            unfold numOk at z
            simp only [Bool.and_eq_true] at z
            have := z.1.1.2
            rw [h] at this
            cases this
          rw [this]; rfl
      · rw [decide_eq_true h0, decide_eq_false (show ¬ (l.length : Int) < 6 by omega)]
        have : numO (tx l) = none := by
          unfold numO
          rw [if_neg]
          intro z
          unfold numOk at z
          simp only [Bool.and_eq_true, decide_eq_true_eq] at z
          exact h5 z.1.1.1.2
        rw [this]; rfl
    · rw [decide_eq_false h0]
      have : numO (tx l) = none := by
        unfold numO
        rw [if_neg]
        intro z
        unfold numOk at z
        simp only [Bool.and_eq_true, decide_eq_true_eq] at z
        exact h0 z.1.1.1.1
      rw [this]; rfl
  exact key w.cps.toList (by rw [← tx_eq]; exact hz)
end K35

namespace K35
open PySem L2 NC
/-! ### what is open before each word -/
inductive Stk where
  | deed
  | name
  | val (k : Nat)
def Stk.d : Stk → D
  | .deed => .tup [.str "deed"]
  | .name => .tup [.str "name"]
  | .val k => .tup [.str "value", .int (k : Nat)]
/-- one word: is it right, what is open then, the rules begun -/
def stepA : List Stk → Nat → Str → Bool × List Stk × Nat
  | [], c, x => (decide (x = "when") && decide (c + 1 < 41), [.val 8, .deed], c + 1)
  | .deed :: S, c, x => if x = "call" then (true, .name :: .name :: .val 8 :: .val 8 :: S, c) else (decide (x = "answer"), .val 8 :: .val 8 :: S, c)
  | .name :: S, c, x => (isNm x, S, c)
  | .val k :: S, c, x => if x ∈ signs ∧ 1 < k then (true, .val (k - 1) :: .val (k - 1) :: S, c) else (decide (x ∈ seen) || (numO x).isSome, S, c)
theorem stepA_nil (c : Nat) (x : Str) : stepA [] c x = (decide (x = "when") && decide (c + 1 < 41), [.val 8, .deed], c + 1) := rfl
theorem stepA_deed (S : List Stk) (c : Nat) (x : Str) : stepA (.deed :: S) c x = if x = "call" then (true, .name :: .name :: .val 8 :: .val 8 :: S, c) else (decide (x = "answer"), .val 8 :: .val 8 :: S, c) := rfl
theorem stepA_name (S : List Stk) (c : Nat) (x : Str) : stepA (.name :: S) c x = (isNm x, S, c) := rfl
theorem stepA_val (k : Nat) (S : List Stk) (c : Nat) (x : Str) : stepA (.val k :: S) c x = if x ∈ signs ∧ 1 < k then (true, .val (k - 1) :: .val (k - 1) :: S, c) else (decide (x ∈ seen) || (numO x).isSome, S, c) := rfl
def runA : List Stk → Nat → List Str → Option (List Str)
  | S, _, [] => if S.isEmpty = true then none else some []
  | S, c, x :: r => if (stepA S c x).1 = true then runA (stepA S c x).2.1 (stepA S c x).2.2 r else some (x :: r)
theorem runA_c (S : List Stk) (c : Nat) (x : Str) (r : List Str) : runA S c (x :: r) = if (stepA S c x).1 = true then runA (stepA S c x).2.1 (stepA S c x).2.2 r else some (x :: r) := rfl
theorem run_step {S S' : List Stk} {c c' : Nat} {x : Str} {b : Bool} (h : stepA S c x = (b, S', c')) (r : List Str) : runA S c (x :: r) = if b = true then runA S' c' r else some (x :: r) := by rw [runA_c, h]
/-- what a reading leaves to do -/
def thenA {α : Type} (S : List Stk) (c : Nat) : PR α → Option (List Str)
  | .ok _ q => runA S c q
  | .bad q => some q
theorem thenA_bind {α β : Type} (S : List Stk) (c : Nat) (p : PR α) (k : α → List Str → PR β) (S1 : List Stk) (h : ∀ v q, thenA S c (k v q) = runA S1 c q) : thenA S c (p.bind k) = thenA S1 c p := by
  cases p with
  | ok v q => exact h v q
  | bad q => rfl
theorem runA_val : ∀ (k : Nat) (S : List Stk) (c : Nat) (r : List Str), runA (.val (k + 1) :: S) c r = thenA S c (pS k r)
  | 0, S, c, [] => rfl
  | _ + 1, S, c, [] => rfl
  | 0, S, c, x :: r => by
    have hst : stepA (.val (0 + 1) :: S) c x = (decide (x ∈ seen) || (numO x).isSome, S, c) := if_neg (fun z => absurd z.2 (by decide))
    rw [run_step hst, show pS 0 (x :: r) = pA (x :: r) from rfl, pA_c]
    by_cases h : x ∈ seen
    · rw [if_pos h, decide_eq_true h]; rfl
    · rw [if_neg h, decide_eq_false h, Bool.false_or]
      cases numO x <;> rfl
  | k + 1, S, c, x :: r => by
    rw [pS_c]
    by_cases hs : x ∈ signs
    · have hst : stepA (.val (k + 1 + 1) :: S) c x = (true, .val (k + 1) :: .val (k + 1) :: S, c) := if_pos ⟨hs, by omega⟩
      rw [run_step hst, if_pos rfl, if_pos hs, runA_val k]
      refine (thenA_bind S c _ _ (.val (k + 1) :: S) fun a q => ?_).symm
      rw [runA_val k]
      exact thenA_bind S c _ _ S fun b q2 => rfl
    · have hst : stepA (.val (k + 1 + 1) :: S) c x = (decide (x ∈ seen) || (numO x).isSome, S, c) := if_neg (fun z => hs z.1)
      rw [run_step hst, if_neg hs, pA_c]
      by_cases h : x ∈ seen
      · rw [if_pos h, decide_eq_true h]; rfl
      · rw [if_neg h, decide_eq_false h, Bool.false_or]
        cases numO x <;> rfl
theorem runA_name (S : List Stk) (c : Nat) (r : List Str) : runA (.name :: S) c r = thenA S c (pN r) := by
  cases r with
  | nil => rfl
  | cons x r =>
    have hst : stepA (.name :: S) c x = (isNm x, S, c) := rfl
    rw [run_step hst, pN_c]
    cases isNm x <;> rfl
theorem runA_deed (S : List Stk) (c : Nat) (r : List Str) : runA (.deed :: S) c r = thenA S c ((pD r).bind fun e r2 => (pS 7 r2).bind fun s r3 => PR.ok (e, s) r3) := by
  cases r with
  | nil => rfl
  | cons x r =>
    rw [pD_c]
    by_cases h1 : x = "answer"
    · have hc : ¬ x = "call" := by rw [h1]; decide +kernel
      have hst : stepA (.deed :: S) c x = (true, .val 8 :: .val 8 :: S, c) := by rw [stepA_deed, if_neg hc, decide_eq_true h1]
      rw [run_step hst, if_pos h1, if_pos rfl, runA_val]
      have e : ((pS 7 r).bind fun s r1 => PR.ok (De.ans s) r1).bind (fun e r2 => (pS 7 r2).bind fun s r3 => PR.ok (e, s) r3) = (pS 7 r).bind fun s r1 => (pS 7 r1).bind fun s2 r3 => PR.ok (De.ans s, s2) r3 := by cases pS 7 r <;> rfl
      rw [e]
      refine (thenA_bind S c _ _ (.val 8 :: S) fun a q => ?_).symm
      rw [runA_val]
      exact thenA_bind S c _ _ S fun b q2 => rfl
    · rw [if_neg h1]
      by_cases h2 : x = "call"
      · have hst : stepA (.deed :: S) c x = (true, .name :: .name :: .val 8 :: .val 8 :: S, c) := if_pos h2
        rw [run_step hst, if_pos rfl, if_pos h2, runA_name]
        cases hn : pN r with
        | bad q => rfl
        | ok a q =>
          rw [PR.bind_ok]
          show runA _ c q = _
          rw [runA_name]
          cases hn2 : pN q with
          | bad q2 => rfl
          | ok b q2 =>
            rw [PR.bind_ok]
            show runA _ c q2 = _
            rw [runA_val]
            have e : ((pS 7 q2).bind fun s r1 => PR.ok (De.call a b s) r1).bind (fun e r2 => (pS 7 r2).bind fun s r3 => PR.ok (e, s) r3) = (pS 7 q2).bind fun s r1 => (pS 7 r1).bind fun s2 r3 => PR.ok (De.call a b s, s2) r3 := by cases pS 7 q2 <;> rfl
            rw [e]
            refine (thenA_bind S c _ _ (.val 8 :: S) fun a q => ?_).symm
            rw [runA_val]
            exact thenA_bind S c _ _ S fun b q2 => rfl
      · have hst : stepA (.deed :: S) c x = (false, .val 8 :: .val 8 :: S, c) := by rw [stepA_deed, if_neg h2, decide_eq_false h1]
        rw [run_step hst, if_neg h2]
        rfl
theorem runA_top : ∀ (k c : Nat) (r : List Str), c + k = 40 → runA [] c r = match pL k r with
    | .ok _ q => if q = [] then none else some q
    | .bad q => some q
  | 0, c, [], h => rfl
  | _ + 1, c, [], h => rfl
  | 0, c, x :: r, h => by
    have : decide (c + 1 < 41) = false := decide_eq_false (by omega)
    have hst : stepA [] c x = (false, [.val 8, .deed], c + 1) := by rw [stepA_nil, this, Bool.and_false]
    rw [run_step hst]; rfl
  | k + 1, c, x :: r, h => by
    have : decide (c + 1 < 41) = true := decide_eq_true (by omega)
    have hst : stepA [] c x = (decide (x = "when"), [.val 8, .deed], c + 1) := by rw [stepA_nil, this, Bool.and_true]
    rw [run_step hst, pL_c]
    by_cases hx : x = "when"
    · rw [decide_eq_true hx, if_pos rfl, if_pos hx, runA_val]
      unfold pR
      cases h1 : pS 7 r with
      | bad q => rfl
      | ok t q =>
        rw [PR.bind_ok]
        show runA [.deed] (c + 1) q = _
        rw [runA_deed]
        cases h2 : pD q with
        | bad q2 => rfl
        | ok e q2 =>
          rw [PR.bind_ok, PR.bind_ok]
          cases h3 : pS 7 q2 with
          | bad q3 => rfl
          | ok s q3 =>
            rw [PR.bind_ok, PR.bind_ok, PR.bind_ok]
            show runA [] (c + 1) q3 = _
            rw [runA_top k (c + 1) q3 (by omega)]
            cases pL k q3 <;> rfl
    · rw [decide_eq_false hx, if_neg Bool.false_ne_true, if_neg hx]
      rfl
/-- THE AUTOMATON FINDS THE WORD THAT THE READER REFUSES -/
theorem runA_pO (ws : List Str) : runA [] 0 ws = match pO ws with
    | .ok _ _ => none
    | .bad q => some q := by
  rw [runA_top 40 0 ws rfl]
  unfold pO
  cases pL 40 ws with
  | bad q => rfl
  | ok us q =>
    rw [PR.bind_ok]
    dsimp only
    by_cases h : q = []
    · rw [if_pos h, if_pos h]
    · rw [if_neg h, if_neg h]
end K35

namespace K35
open PySem L2 NC
theorem cons_next {s G : FS} {env e2 : Ev} {st st2 : Sto} (h : s env st = .next e2 st2) : sCons s G env st = G e2 st2 := by rw [sCons_eq, h, seq_next]
theorem szM {k : Nat} (h : k ≤ 1000000) : k ≤ sizeLine := Nat.le_trans h sz6
theorem szM7 {k : Nat} (h : k ≤ 9000000) : k ≤ sizeLine := Nat.le_trans h (by rw [sizeLine_eq]; decide)
/-- the store with what is open, and the rules begun -/
def Sw (A : Sto) (S : List Stk) (c : Nat) : Sto := A ++ [.lst (S.reverse.map Stk.d), .lst [.int (c : Nat)]]
section
variable (A : Sto) (S : List Stk) (c : Nat)
theorem sw0 : (Sw A S c)[A.length]? = some (.lst (S.reverse.map Stk.d)) := get_mid A _ _
theorem sw1 : (Sw A S c)[A.length + 1]? = some (.lst [.int (c : Nat)]) := by
  unfold Sw
  rw [List.getElem?_append_right (by omega), Nat.add_sub_cancel_left]
  rfl
theorem sw_set0 (S' : List Stk) : (Sw A S c).set A.length (.lst (S'.reverse.map Stk.d)) = Sw A S' c := by
  unfold Sw
  rw [set_mid]
theorem sw_set1 (c' : Nat) : (Sw A S c).set (A.length + 1) (.lst [.int (c' : Nat)]) = Sw A S c' := by
  unfold Sw
  rw [List.set_append_right _ _ (by omega), Nat.add_sub_cancel_left]
  rfl
theorem len_sw : kLen [.loc A.length] (Sw A S c) = .ok (.int (S.length : Nat)) (Sw A S c) := by
  show (match (Sw A S c)[A.length]? with
    | some (.lst ds) => R.ok (D.int (ds.length : Nat)) (Sw A S c)
    | _ => .stuck) = _
  rw [sw0]
  simp
theorem kIx_cnt : kIx (.loc (A.length + 1)) (.int 0) (Sw A S c) = .ok (.int (c : Nat)) (Sw A S c) := kIx_cell (sw1 A S c) rfl
theorem pop_sw (t : Stk) (env : Ev) (h : bVarR 0 env (Sw A (t :: S) c) = .ok (.loc A.length) (Sw A (t :: S) c)) : bPopC (bVarR 0) env (Sw A (t :: S) c) = .ok t.d (Sw A S c) := by
  unfold bPopC
  rw [h, bind_ok, cellL_of (sw0 A (t :: S) c)]
  dsimp only
  have e : (t :: S).reverse.map Stk.d = S.reverse.map Stk.d ++ [t.d] := by simp
  rw [e, List.length_append, List.length_singleton, Nat.add_sub_cancel]
  have e2 : (S.reverse.map Stk.d ++ [t.d])[(S.reverse.map Stk.d).length]? = some t.d := by simp
  rw [e2, List.dropLast_concat]
  dsimp only
  rw [sw_set0]
theorem ext_sw (S' : List Stk) (fe : F) (env : Ev) (h : bVarR 0 env (Sw A S c) = .ok (.loc A.length) (Sw A S c)) (he : fe env (Sw A S c) = .ok (.lst (S'.reverse.map Stk.d)) (Sw A S c)) (hl : S.length + S'.length ≤ 9000000) : sExtC (bVarR 0) fe env (Sw A S c) = .next env (Sw A (S' ++ S) c) := by
  unfold sExtC
  rw [h, out_ok, cellL_of (sw0 A S c)]
  dsimp only
  rw [he, out_ok, cellL_of (sw0 A S c)]
  dsimp only
  rw [if_pos (szM7 (by simp; omega)), ← List.map_append, ← List.reverse_append, sw_set0]
end
abbrev envX (a : Nat) (x : Str) (s3 : Slot) : Ev := [some (.frz, .loc a), some (.frz, .loc (a + 1)), some (.frz, .str x), s3]
theorem sg_in (x : Str) (st : Sto) : kIn (.str x) (.tup [.str "+", .str "-", .str "*", .str "/", .str "mod", .str "<", .str "="]) st = .ok (.bl (decide (x ∈ signs))) st := kIn_strsT x signs
theorem se_in (x : Str) (st : Sto) : kIn (.str x) (.tup [.str "asked", .str "deep", .str "failed", .str "cell"]) st = .ok (.bl (decide (x ∈ seen))) st := kIn_strsT x seen
theorem ca_in (x : Str) (st : Sto) : kIn (.str x) (.tup [.str "call", .str "answer"]) st = .ok (.bl (decide (x ∈ [("call" : Str), "answer"]))) st := kIn_strsT x ["call", "answer"]
def Stk.nm : Stk → Str
  | .deed => "deed"
  | .name => "name"
  | .val _ => "value"
theorem ix_d0 (t : Stk) (st : Sto) : kIx t.d (.int 0) st = .ok (.str t.nm) st := by cases t <;> exact kIx_tup_of atI_0
theorem ev_next (n : Nat) {m m1 m2 : Md} (A : Sto) (S : List Stk) (c : Nat) (x : Str) (hl : S.length ≤ 8000000) (hx : x.length ≤ sizeLine) : interp delta (n + 2) "_law_next" [(m, .loc A.length), (m1, .loc (A.length + 1)), (m2, .str x)] (Sw A S c) = .ok (.bl (stepA S c x).1) (Sw A (stepA S c x).2.1 (stepA S c x).2.2) := by
  rw [run_law_next, slotA_loc, slotA_loc, slotA_str]
  unfold sh_law_next
  have a1 : sSet 3 (bTup (lCons (bC (D.str "rule")) lNil)) [some (.frz, .loc A.length), some (.frz, .loc (A.length + 1)), some (.frz, .str x), none] (Sw A S c) = .next (envX A.length x (some (.frz, .tup [.str "rule"]))) (Sw A S c) := rfl
  rw [cons_next a1]
  cases S with
  | nil =>
    have a2 : sIf (bTst (bBin kGt (bCall kLen (lCons (bVarR 0) lNil)) (bC (D.int 0)))) (sAsg (tgName 3) (bPopC (bVarR 0))) sNil (envX A.length x (some (.frz, .tup [.str "rule"]))) (Sw A [] c) = .next (envX A.length x (some (.frz, .tup [.str "rule"]))) (Sw A [] c) := by
      simp [len_sw, kGt]
    rw [cons_next a2]
    have v0 : ∀ st, bVarR 0 (envX A.length x (some (.frz, .tup [.str "rule"]))) st = .ok (.loc A.length) st := fun _ => rfl
    have a3 : sSetC (bVarR 1) (bC (D.int 0)) (bBin kAdd (bBin kIx (bVarR 1) (bC (D.int 0))) (bC (D.int 1))) (envX A.length x (some (.frz, .tup [.str "rule"]))) (Sw A [] c) = .next (envX A.length x (some (.frz, .tup [.str "rule"]))) (Sw A [] (c + 1)) := by
      rw [setC_of (d := .int ((c + 1 : Nat))) (j := 0) (by simp [kIx_cnt]) rfl rfl (sw1 A [] c) rfl]
      show Out.next _ ((Sw A [] c).set (A.length + 1) (.lst [.int ((c + 1 : Nat))])) = _
      rw [sw_set1]
    have a4 : sExtC (bVarR 0) (bLst (lCons (bTup (lCons (bC (D.str "deed")) lNil)) (lCons (bTup (lCons (bC (D.str "value")) (lCons (bC (D.int 8)) lNil))) lNil))) (envX A.length x (some (.frz, .tup [.str "rule"]))) (Sw A [] (c + 1)) = .next (envX A.length x (some (.frz, .tup [.str "rule"]))) (Sw A [.val 8, .deed] (c + 1)) := ext_sw A [] (c + 1) [.val 8, .deed] _ _ (v0 _) rfl (by decide)
    have t1 : bTst (bBin kEq (bBin kIx (bVarR 3) (bC (D.int 0))) (bC (D.str "rule"))) (envX A.length x (some (.frz, .tup [.str "rule"]))) (Sw A [] c) = .ok true (Sw A [] c) := by simp
    have e7 : decide (((c + 1 : Nat) : Int) < 41) = decide (c + 1 < 41) := by
      by_cases q : c + 1 < 41
      · rw [decide_eq_true q, decide_eq_true (by omega)]
      · rw [decide_eq_false q, decide_eq_false (by omega)]
    rw [sCons_eq, sIf_eq, t1, outB_ok, if_pos rfl, cons_next a3, cons_next a4, stepA_nil]
    have a5 : bAndV (bBin kEq (bVarR 2) (bC (D.str "when"))) (bBin kLt (bBin kIx (bVarR 1) (bC (D.int 0))) (bC (D.int 41))) (envX A.length x (some (.frz, .tup [.str "rule"]))) (Sw A [.val 8, .deed] (c + 1)) = .ok (.bl (decide (x = "when") && decide (c + 1 < 41))) (Sw A [.val 8, .deed] (c + 1)) := by
      have v1 : bVarR 1 (envX A.length x (some (.frz, .tup [.str "rule"]))) (Sw A [.val 8, .deed] (c + 1)) = .ok (.loc (A.length + 1)) (Sw A [.val 8, .deed] (c + 1)) := rfl
      have v2 : bVarR 2 (envX A.length x (some (.frz, .tup [.str "rule"]))) (Sw A [.val 8, .deed] (c + 1)) = .ok (.str x) (Sw A [.val 8, .deed] (c + 1)) := rfl
      rw [bAndV_eq, bBin_eq, v2, bind_ok, bC_eq, bind_ok, kEq_str, rBl_bl, bind_ok, bBin_eq, bBin_eq, v1, bind_ok, bC_eq, bind_ok, kIx_cnt, bind_ok, bC_eq, bind_ok, kLt, kCmp_int, e7]
      cases decide (x = "when") <;> rfl
    rw [sRet_eq, a5]
    rfl
  | cons t S =>
    have hl' : S.length + 1 ≤ 8000000 := by simpa using hl
    have v0 : ∀ s3 st, bVarR 0 (envX A.length x s3) st = .ok (.loc A.length) st := fun _ _ => rfl
    have v2 : ∀ s3 st, bVarR 2 (envX A.length x s3) st = .ok (.str x) st := fun _ _ => rfl
    have a2 : sIf (bTst (bBin kGt (bCall kLen (lCons (bVarR 0) lNil)) (bC (D.int 0)))) (sAsg (tgName 3) (bPopC (bVarR 0))) sNil (envX A.length x (some (.frz, .tup [.str "rule"]))) (Sw A (t :: S) c) = .next (envX A.length x (some (.frz, t.d))) (Sw A S c) := by
      have q : bTst (bBin kGt (bCall kLen (lCons (bVarR 0) lNil)) (bC (D.int 0))) (envX A.length x (some (.frz, .tup [.str "rule"]))) (Sw A (t :: S) c) = .ok true (Sw A (t :: S) c) := by
        simp [len_sw, kGt]
      rw [sIf_eq, q, outB_ok, if_pos rfl]
      unfold sAsg
      rw [pop_sw A S c t _ (v0 _ _)]
      rfl
    rw [cons_next a2]
    have v3 : ∀ st, bVarR 3 (envX A.length x (some (.frz, t.d))) st = .ok t.d st := fun _ => rfl
    have nr : ¬ t.nm = ("rule" : Str) := by cases t <;> simp [ofS_inj, Stk.nm]
    have t1 : bTst (bBin kEq (bBin kIx (bVarR 3) (bC (D.int 0))) (bC (D.str "rule"))) (envX A.length x (some (.frz, t.d))) (Sw A S c) = .ok false (Sw A S c) := by
      rw [bTst_eq, bBin_eq, bBin_eq, v3, bind_ok, bC_eq, bind_ok, ix_d0, bind_ok, bC_eq, bind_ok, kEq_str, rBl_bl, decide_eq_false nr]
    rw [sCons_eq, sIf_eq, t1, outB_ok, if_neg Bool.false_ne_true, sNil_eq, seq_next]
    cases t with
    | deed =>
      have t2 : bTst (bBin kEq (bBin kIx (bVarR 3) (bC (D.int 0))) (bC (D.str "deed"))) (envX A.length x (some (.frz, Stk.deed.d))) (Sw A S c) = .ok true (Sw A S c) := by
        rw [bTst_eq, bBin_eq, bBin_eq, v3, bind_ok, bC_eq, bind_ok, ix_d0, bind_ok, bC_eq, bind_ok, kEq_str, rBl_bl]; simp [Stk.nm]
      rw [sCons_eq, sIf_eq, t2, outB_ok, if_pos rfl, stepA_deed]
      have x1 := ext_sw A S c [.name, .name, .val 8, .val 8] (bLst (lCons (bTup (lCons (bC (D.str "value")) (lCons (bC (D.int 8)) lNil))) (lCons (bTup (lCons (bC (D.str "value")) (lCons (bC (D.int 8)) lNil))) (lCons (bTup (lCons (bC (D.str "name")) lNil)) (lCons (bTup (lCons (bC (D.str "name")) lNil)) lNil))))) (envX A.length x (some (.frz, Stk.deed.d))) (v0 _ _) rfl (by simp; omega)
      have x2 := ext_sw A S c [.val 8, .val 8] (bLst (lCons (bTup (lCons (bC (D.str "value")) (lCons (bC (D.int 8)) lNil))) (lCons (bTup (lCons (bC (D.str "value")) (lCons (bC (D.int 8)) lNil))) lNil))) (envX A.length x (some (.frz, Stk.deed.d))) (v0 _ _) rfl (by simp; omega)
      by_cases hcl : x = "call"
      · have hin : x ∈ [("call" : Str), "answer"] := by rw [hcl]; simp
        rw [if_pos hcl, sCons_eq, sIf_eq, bTst_eq, bBin_eq, v2, bind_ok, bC_eq, bind_ok, kEq_str, rBl_bl, outB_ok, decide_eq_true hcl, if_pos rfl, x1, seq_next, sRet_eq, bBin_eq, v2, bind_ok]
        show fin (Out.seq (R.out (R.bind (R.ok (D.tup [.str "call", .str "answer"]) _) _) _ _) _) = _
        rw [bind_ok, ca_in, decide_eq_true hin]
        rfl
      · have hin : decide (x ∈ [("call" : Str), "answer"]) = decide (x = "answer") := by
          by_cases q : x = "answer"
          · rw [decide_eq_true q, decide_eq_true (by rw [q]; simp)]
          · rw [decide_eq_false q, decide_eq_false (by simp [hcl, q])]
        rw [if_neg hcl, sCons_eq, sIf_eq, bTst_eq, bBin_eq, v2, bind_ok, bC_eq, bind_ok, kEq_str, rBl_bl, outB_ok, decide_eq_false hcl, if_neg Bool.false_ne_true, x2, seq_next, sRet_eq, bBin_eq, v2, bind_ok]
        show fin (Out.seq (R.out (R.bind (R.ok (D.tup [.str "call", .str "answer"]) _) _) _ _) _) = _
        rw [bind_ok, ca_in, hin]
        rfl
    | name =>
      have t2 : bTst (bBin kEq (bBin kIx (bVarR 3) (bC (D.int 0))) (bC (D.str "deed"))) (envX A.length x (some (.frz, Stk.name.d))) (Sw A S c) = .ok false (Sw A S c) := by
        rw [bTst_eq, bBin_eq, bBin_eq, v3, bind_ok, bC_eq, bind_ok, ix_d0, bind_ok, bC_eq, bind_ok, kEq_str, rBl_bl]; simp [ofS_inj, Stk.nm]
      have t3 : bTst (bBin kEq (bBin kIx (bVarR 3) (bC (D.int 0))) (bC (D.str "name"))) (envX A.length x (some (.frz, Stk.name.d))) (Sw A S c) = .ok true (Sw A S c) := by
        rw [bTst_eq, bBin_eq, bBin_eq, v3, bind_ok, bC_eq, bind_ok, ix_d0, bind_ok, bC_eq, bind_ok, kEq_str, rBl_bl]; simp [Stk.nm]
      have hi := fun {m : Md} => ev_law_is_name n (m := m) x hx (Sw A S c)
      rw [sCons_eq, sIf_eq, t2, outB_ok, if_neg Bool.false_ne_true, sNil_eq, seq_next, sCons_eq, sIf_eq, t3, outB_ok, if_pos rfl, stepA_name, sRet_eq, bDef_eq, lCons_eq, v2, bind_ok, lNil_eq, bind_ok, bind_ok]
      show fin (Out.seq (R.out (interp delta (n + 1) "_law_is_name" [(.rd, .str x)] _) _ _) _) = _
      rw [hi]
      rfl
    | val k =>
      have t2 : bTst (bBin kEq (bBin kIx (bVarR 3) (bC (D.int 0))) (bC (D.str "deed"))) (envX A.length x (some (.frz, (Stk.val k).d))) (Sw A S c) = .ok false (Sw A S c) := by
        rw [bTst_eq, bBin_eq, bBin_eq, v3, bind_ok, bC_eq, bind_ok, ix_d0, bind_ok, bC_eq, bind_ok, kEq_str, rBl_bl]; simp [ofS_inj, Stk.nm]
      have t3 : bTst (bBin kEq (bBin kIx (bVarR 3) (bC (D.int 0))) (bC (D.str "name"))) (envX A.length x (some (.frz, (Stk.val k).d))) (Sw A S c) = .ok false (Sw A S c) := by
        rw [bTst_eq, bBin_eq, bBin_eq, v3, bind_ok, bC_eq, bind_ok, ix_d0, bind_ok, bC_eq, bind_ok, kEq_str, rBl_bl]; simp [ofS_inj, Stk.nm]
      have ix1 : ∀ st, kIx (Stk.val k).d (.int 1) st = .ok (.int (k : Nat)) st := fun st => kIx_tup_of atI_1
      have t4 : bAndT (bTst (bBin kIn (bVarR 2) (bC (D.tup [.str "+", .str "-", .str "*", .str "/", .str "mod", .str "<", .str "="])))) (bTst (bBin kGt (bBin kIx (bVarR 3) (bC (D.int 1))) (bC (D.int 1)))) (envX A.length x (some (.frz, (Stk.val k).d))) (Sw A S c) = .ok (decide (x ∈ signs ∧ 1 < k)) (Sw A S c) := by
        have e8 : decide ((k : Int) > 1) = decide (1 < k) := by
          by_cases q : 1 < k
          · rw [decide_eq_true q, decide_eq_true (by omega)]
          · rw [decide_eq_false q, decide_eq_false (by omega)]
        rw [bAndT_eq, bTst_eq, bBin_eq, v2, bind_ok, bC_eq, bind_ok, sg_in, rBl_bl, bind_ok, bTst_eq, bBin_eq, bBin_eq, v3, bind_ok, bC_eq, bind_ok, ix1, bind_ok, bC_eq, bind_ok, kGt, kCmp_int, rBl_bl, e8]
        by_cases q1 : x ∈ signs <;> by_cases q2 : 1 < k <;> simp [q1, q2]
      have t4' : bAndT (bTst (bBin kIn (bVarR 2) (bTup (lCons (bC (D.str "+")) (lCons (bC (D.str "-")) (lCons (bC (D.str "*")) (lCons (bC (D.str "/")) (lCons (bC (D.str "mod")) (lCons (bC (D.str "<")) (lCons (bC (D.str "=")) lNil)))))))))) (bTst (bBin kGt (bBin kIx (bVarR 3) (bC (D.int 1))) (bC (D.int 1)))) (envX A.length x (some (.frz, (Stk.val k).d))) (Sw A S c) = .ok (decide (x ∈ signs ∧ 1 < k)) (Sw A S c) := t4
      rw [sCons_eq, sIf_eq, t2, outB_ok, if_neg Bool.false_ne_true, sNil_eq, seq_next, sCons_eq, sIf_eq, t3, outB_ok, if_neg Bool.false_ne_true, sNil_eq, seq_next, sCons_eq, sIf_eq, t4', outB_ok, stepA_val]
      by_cases hs : x ∈ signs ∧ 1 < k
      · have hk : (k : Int) - 1 = ((k - 1 : Nat) : Int) := by omega
        have hv : bTup (lCons (bC (D.str "value")) (lCons (bBin kSub (bBin kIx (bVarR 3) (bC (D.int 1))) (bC (D.int 1))) lNil)) (envX A.length x (some (.frz, (Stk.val k).d))) (Sw A S c) = .ok (Stk.val (k - 1)).d (Sw A S c) := by
          rw [bTup_eq, lCons_eq, bC_eq, bind_ok, lCons_eq, bBin_eq, bBin_eq, v3, bind_ok, bC_eq, bind_ok, ix1, bind_ok, bC_eq, bind_ok, kSub_int, bind_ok, lNil_eq, bind_ok, bind_ok, bind_ok, hk]
          rfl
        have x1 := ext_sw A S c [.val (k - 1), .val (k - 1)] (bLst (lCons (bTup (lCons (bC (D.str "value")) (lCons (bBin kSub (bBin kIx (bVarR 3) (bC (D.int 1))) (bC (D.int 1))) lNil))) (lCons (bTup (lCons (bC (D.str "value")) (lCons (bBin kSub (bBin kIx (bVarR 3) (bC (D.int 1))) (bC (D.int 1))) lNil))) lNil))) (envX A.length x (some (.frz, (Stk.val k).d))) (v0 _ _) (by
          rw [bLst_eq, lCons_eq, hv, bind_ok, lCons_eq, hv, bind_ok, lNil_eq, bind_ok, bind_ok, bind_ok]; rfl) (by simp; omega)
        rw [if_pos hs, decide_eq_true hs, if_pos rfl, cons_next x1]
        rfl
      · have hi := fun {m : Md} => ev_law_is_number n (m := m) x hx (Sw A S c)
        rw [if_neg hs, decide_eq_false hs, if_neg Bool.false_ne_true, sNil_eq, seq_next, sRet_eq, bOrV_eq, bBin_eq, v2, bind_ok]
        show fin (R.out (R.bind (rBl (R.bind (R.ok (D.tup [.str "asked", .str "deep", .str "failed", .str "cell"]) _) _)) _) _ _) = _
        rw [bind_ok, se_in, rBl_bl, bind_ok, bDef_eq, lCons_eq, v2, bind_ok, lNil_eq, bind_ok, bind_ok]
        show fin (R.out (if _ then _ else interp delta (n + 1) "_law_is_number" [(.rd, .str x)] _) _ _) = _
        rw [hi]
        cases decide (x ∈ seen) <;> rfl
end K35

namespace K35
open PySem L2 NC
/-! ### the first wrong word -/
theorem stepA_len (S : List Stk) (c : Nat) (x : Str) : (stepA S c x).2.1.length ≤ S.length + 3 := by
  cases S with
  | nil => rw [stepA_nil]; simp
  | cons t S =>
    cases t with
    | deed => rw [stepA_deed]; split <;> simp
    | name => rw [stepA_name]; simp; omega
    | val k => rw [stepA_val]; split <;> simp <;> omega
theorem ixd {ws : List Str} {i : Nat} {x : Str} {r : List Str} (h : ws.drop i = x :: r) (st : Sto) : kIx (.lst (ws.map D.str)) (.int (i : Nat)) st = .ok (.str x) st := kIx_lst_of (atI_nat (by
  rw [List.getElem?_map, ← List.head?_drop, h]; rfl))
theorem rng_drop {n i : Nat} (h : i < n) : (rngD 0 (n : Nat)).drop i = D.int (i : Nat) :: (rngD 0 (n : Nat)).drop (i + 1) := by
  have hl : i < (rngD 0 (n : Nat)).length := by rw [rngD_len]; omega
  rw [List.drop_eq_getElem_cons hl]
  obtain ⟨e, _⟩ := rngD_get (List.getElem?_eq_getElem hl)
  rw [e, Int.zero_add]
abbrev envW (m : Md) (ws : List Str) (a : Nat) (s3 : Slot) : Ev := [some (flM m, .lst (ws.map D.str)), some (.frz, .loc a), some (.frz, .loc (a + 1)), s3]
theorem loop_wrong (n : Nat) (m : Md) (A : Sto) (ws : List Str) (hz : ∀ w ∈ ws, w.length ≤ sizeLine) : ∀ (k i : Nat) (S : List Stk) (c : Nat) (s3 : Slot), i + k = ws.length → S.length + 4 * k ≤ 7000000 →
    match runA S c (ws.drop i) with
    | none => ∃ s3' c', forL (tgName 3) (lb_law_wrong_0 (interp delta (n + 2))) ((rngD 0 (ws.length : Nat)).drop i) (envW m ws A.length s3) (Sw A S c) = .next (envW m ws A.length s3') (Sw A [] c')
    | some q => (q = [] ∧ ∃ s3' S' c', S' ≠ [] ∧ forL (tgName 3) (lb_law_wrong_0 (interp delta (n + 2))) ((rngD 0 (ws.length : Nat)).drop i) (envW m ws A.length s3) (Sw A S c) = .next (envW m ws A.length s3') (Sw A S' c')) ∨ (q ≠ [] ∧ ∃ S' c', forL (tgName 3) (lb_law_wrong_0 (interp delta (n + 2))) ((rngD 0 (ws.length : Nat)).drop i) (envW m ws A.length s3) (Sw A S c) = .ret (.int ((ws.length - q.length : Nat))) (Sw A S' c'))
  | 0, i, S, c, s3, hi, hl => by
    have e1 : ws.drop i = [] := List.drop_eq_nil_of_le (by omega)
    have e2 : (rngD 0 (ws.length : Nat)).drop i = [] := List.drop_eq_nil_of_le (by rw [rngD_len]; omega)
    rw [e1, e2]
    cases S with
    | nil => exact ⟨s3, c, rfl⟩
    | cons t S => exact .inl ⟨rfl, s3, t :: S, c, by simp, rfl⟩
  | k + 1, i, S, c, s3, hi, hl => by
    have hlt : i < ws.length := by omega
    obtain ⟨x, hx⟩ : ∃ x, ws.drop i = x :: ws.drop (i + 1) := ⟨ws[i], List.drop_eq_getElem_cons hlt⟩
    have hxm : x ∈ ws := List.mem_of_mem_drop (by rw [hx]; exact List.mem_cons_self ..)
    rw [rng_drop hlt, hx, runA_c]
    have hn := fun {m m1 m2 : Md} => ev_next n (m := m) (m1 := m1) (m2 := m2) A S c x (by omega) (hz x hxm)
    have hix := fun st => ixd hx st
    rw [forL_cons (env1 := envW m ws A.length (some (.frz, .int (i : Nat)))) rfl]
    have v0 : ∀ st, bVarR 0 (envW m ws A.length (some (.frz, .int (i : Nat)))) st = .ok (.lst (ws.map D.str)) st := fun st => bVarR_z3 _ _ _
    have hcall : bNotT (bTru (bDef (interp delta (n + 2)) "_law_next" [.rd, .rd, .rd] (lCons (bVarR 1) (lCons (bVarR 2) (lCons (bBin kIx (bVarR 0) (bVarR 3)) lNil))))) (envW m ws A.length (some (.frz, .int (i : Nat)))) (Sw A S c) = .ok (!(stepA S c x).1) (Sw A (stepA S c x).2.1 (stepA S c x).2.2) := by
      have q : lCons (bVarR 1) (lCons (bVarR 2) (lCons (bBin kIx (bVarR 0) (bVarR 3)) lNil)) (envW m ws A.length (some (.frz, .int (i : Nat)))) (Sw A S c) = .ok [.loc A.length, .loc (A.length + 1), .str x] (Sw A S c) := by
        have v1 : bVarR 1 (envW m ws A.length (some (.frz, .int (i : Nat)))) (Sw A S c) = .ok (.loc A.length) (Sw A S c) := rfl
        have v2 : bVarR 2 (envW m ws A.length (some (.frz, .int (i : Nat)))) (Sw A S c) = .ok (.loc (A.length + 1)) (Sw A S c) := rfl
        have v3 : bVarR 3 (envW m ws A.length (some (.frz, .int (i : Nat)))) (Sw A S c) = .ok (.int (i : Nat)) (Sw A S c) := rfl
        rw [lCons_eq, v1, bind_ok, lCons_eq, v2, bind_ok, lCons_eq, bBin_eq, v0, bind_ok, v3, bind_ok, hix, bind_ok, lNil_eq, bind_ok, bind_ok, bind_ok]
      rw [bNotT_eq, bTru_eq, bDef_eq, q, bind_ok]
      show (rTru (interp delta (n + 2) "_law_next" [(.rd, .loc A.length), (.rd, .loc (A.length + 1)), (.rd, .str x)] (Sw A S c))).bind _ = _
      rw [hn, rTru_bl, bind_ok]
    by_cases hb : (stepA S c x).1 = true
    · rw [if_pos hb]
      have hbody : lb_law_wrong_0 (interp delta (n + 2)) (envW m ws A.length (some (.frz, .int (i : Nat)))) (Sw A S c) = .next (envW m ws A.length (some (.frz, .int (i : Nat)))) (Sw A (stepA S c x).2.1 (stepA S c x).2.2) := by
        unfold lb_law_wrong_0
        rw [sIf_eq, hcall, outB_ok, hb]
        rfl
      rw [hbody, turn_next]
      exact loop_wrong n m A ws hz k (i + 1) _ _ _ (by omega) (by have := stepA_len S c x; omega)
    · rw [if_neg hb]
      have hb' : (stepA S c x).1 = false := by simpa using hb
      have hbody : lb_law_wrong_0 (interp delta (n + 2)) (envW m ws A.length (some (.frz, .int (i : Nat)))) (Sw A S c) = .ret (.int (i : Nat)) (Sw A (stepA S c x).2.1 (stepA S c x).2.2) := by
        unfold lb_law_wrong_0
        rw [sIf_eq, hcall, outB_ok, hb']
        rfl
      rw [hbody]
      refine .inr ⟨by simp, (stepA S c x).2.1, (stepA S c x).2.2, ?_⟩
      have : ws.length - (x :: ws.drop (i + 1)).length = i := by rw [← hx, List.length_drop]; omega
      rw [this]
      rfl
def wrongV (ws : List Str) : Option Nat := match pO ws with
  | .ok _ _ => none
  | .bad q => some (ws.length - q.length)
def optD : Option Nat → D
  | none => .non
  | some i => .int (i : Nat)
theorem ev_wrong (n : Nat) {m : Md} (st : Sto) {ws : List Str} (hz : ∀ w ∈ ws, w.length ≤ sizeLine) (hn : ws.length ≤ 900001) : ∃ T, interp delta (n + 3) "_law_wrong" [(m, .lst (ws.map D.str))] st = .ok (optD (wrongV ws)) (st ++ T) := by
  rw [run_law_wrong, slotA_lst]
  unfold sh_law_wrong
  have a1 : sAsg (tgName 1) (bRef (bLst lNil)) [some (flM m, .lst (ws.map D.str)), none, none, none] st = .next [some (flM m, .lst (ws.map D.str)), some (.frz, .loc st.length), none, none] (st ++ [.lst []]) := rfl
  rw [cons_next a1]
  have a2 : sAsg (tgName 2) (bRef (bLst (lCons (bC (D.int 0)) lNil))) [some (flM m, .lst (ws.map D.str)), some (.frz, .loc st.length), none, none] (st ++ [.lst []]) = .next (envW m ws st.length none) (Sw st [] 0) := by
    have q : bRef (bLst (lCons (bC (D.int 0)) lNil)) [some (flM m, .lst (ws.map D.str)), some (.frz, .loc st.length), none, none] (st ++ [.lst []]) = .ok (.loc (st.length + 1)) (Sw st [] 0) := by
      unfold bRef
      show R.ok (D.loc (st ++ [Cell.lst []]).length) ((st ++ [Cell.lst []]) ++ [.lst [.int 0]]) = _
      rw [List.length_append, List.append_assoc]
      rfl
    unfold sAsg
    rw [q]
    rfl
  rw [cons_next a2, sCons_eq, sFor_L]
  have hz2 : (ws.length : Int) ≤ sizeLine ∧ -(2 ^ 62) ≤ (ws.length : Int) := by have := sz6; exact ⟨by omega, by omega⟩
  have v0 : ∀ st', bVarR 0 (envW m ws st.length none) st' = .ok (.lst (ws.map D.str)) st' := fun st' => bVarR_z3 _ _ _
  have hr : iRng1D (bCall kLen (lCons (bVarR 0) lNil)) (envW m ws st.length none) (Sw st [] 0) = .ok (rngD 0 (ws.length : Nat)) (Sw st [] 0) := iRng1D_int _ _ (by rw [bCall_eq, lCons_eq, v0, bind_ok, lNil_eq, bind_ok, bind_ok, kLen_lst, List.length_map]) hz2
  rw [hr, outL_ok]
  have hl := loop_wrong n m st ws hz ws.length 0 [] 0 none (Nat.zero_add _) (by simp; omega)
  rw [List.drop_zero, List.drop_zero, runA_pO] at hl
  have fin1 : ∀ (s3 : Slot) (S : List Stk) (c : Nat), S ≠ [] → fin (Out.seq (.next (envW m ws st.length s3) (Sw st S c)) (sCons (sIf (bTst (bBin kGt (bCall kLen (lCons (bVarR 1) lNil)) (bC (D.int 0)))) (sRet (bCall kLen (lCons (bVarR 0) lNil))) sNil) (sRet (bC D.non)))) = .ok (.int (ws.length : Nat)) (Sw st S c) := fun s3 S c hS => by
    have v0 : ∀ st', bVarR 0 (envW m ws st.length s3) st' = .ok (.lst (ws.map D.str)) st' := fun st' => bVarR_z3 _ _ _
    have v1 : bVarR 1 (envW m ws st.length s3) (Sw st S c) = .ok (.loc st.length) (Sw st S c) := rfl
    have hp : decide ((S.length : Int) > 0) = true := decide_eq_true (by have := List.length_pos_iff.mpr hS; omega)
    rw [seq_next, sCons_eq, sIf_eq, bTst_eq, bBin_eq, bCall_eq, lCons_eq, v1, bind_ok, lNil_eq, bind_ok, bind_ok, len_sw, bind_ok, bC_eq, bind_ok, kGt, kCmp_int, rBl_bl, outB_ok, hp, if_pos rfl, sRet_eq, bCall_eq, lCons_eq, v0, bind_ok, lNil_eq, bind_ok, bind_ok, kLen_lst, List.length_map]
    rfl
  have fin0 : ∀ (s3 : Slot) (c : Nat), fin (Out.seq (.next (envW m ws st.length s3) (Sw st [] c)) (sCons (sIf (bTst (bBin kGt (bCall kLen (lCons (bVarR 1) lNil)) (bC (D.int 0)))) (sRet (bCall kLen (lCons (bVarR 0) lNil))) sNil) (sRet (bC D.non)))) = .ok .non (Sw st [] c) := fun s3 c => by
    have v1 : bVarR 1 (envW m ws st.length s3) (Sw st [] c) = .ok (.loc st.length) (Sw st [] c) := rfl
    rw [seq_next, sCons_eq, sIf_eq, bTst_eq, bBin_eq, bCall_eq, lCons_eq, v1, bind_ok, lNil_eq, bind_ok, bind_ok, len_sw, bind_ok, bC_eq, bind_ok, kGt, kCmp_int, rBl_bl, outB_ok]
    rfl
  unfold wrongV
  cases hp : pO ws with
  | ok us q =>
    rw [hp] at hl
    obtain ⟨s3, c, hl⟩ := hl
    rw [hl, fin0]
    exact ⟨_, rfl⟩
  | bad q =>
    rw [hp] at hl
    rcases hl with ⟨hq, s3, S, c, hS, hl⟩ | ⟨hq, S, c, hl⟩
    · subst hq
      rw [hl, fin1 s3 S c hS]
      exact ⟨_, rfl⟩
    · rw [hl]
      exact ⟨_, rfl⟩
end K35

namespace K35
open PySem L2 NC
/-! ### the rules, read by the law -/
theorem kInt_numW {n : Nat} (h : n ≤ 65535) (st : Sto) : kInt [.str (numW n)] st = .ok (.int (n : Nat)) st := by
  have e : numW n = tx (TL.numL n) := TL.ext_tl (numW_tl n)
  have hl : (TL.numL n).length ≤ 5 := TL.numL_len (by omega) (by omega)
  have hp : 0 < (TL.numL n).length := List.length_pos_iff.mpr (TL.numL_ne n)
  have ha : ((TL.numL n).all fun c => decide (c ∈ digs)) = true := List.all_eq_true.mpr fun c hc => by
    simpa using (digs_iff c).mpr (TL.numL_digits n c hc)
  rw [e, int_of ha hp hl]
  unfold numV
  rw [TL.numL_val]
theorem kInt_len {n : Nat} (h : n ≤ 65535) : (numW n).length ≤ sizeLine := szM (by have := numW_len h; omega)
abbrev envV (m : Md) (ws : List Str) (i : Nat) (s2 s3 s4 s5 s6 : Slot) : Ev := [some (flM m, .lst (ws.map D.str)), some (.frz, .int (i : Nat)), s2, s3, s4, s5, s6]
theorem sgt (x : Str) (e : Ev) (st : Sto) (h : bVarR 2 e st = .ok (.str x) st) : bTst (bBin kIn (bVarR 2) (bTup (lCons (bC (D.str "+")) (lCons (bC (D.str "-")) (lCons (bC (D.str "*")) (lCons (bC (D.str "/")) (lCons (bC (D.str "mod")) (lCons (bC (D.str "<")) (lCons (bC (D.str "=")) lNil))))))))) e st = .ok (decide (x ∈ signs)) st := by
  rw [bTst_eq, bBin_eq, h, bind_ok]
  show rBl (R.bind (R.ok (D.tup [.str "+", .str "-", .str "*", .str "/", .str "mod", .str "<", .str "="]) _) _) = _
  rw [bind_ok, sg_in, rBl_bl]
theorem ev_read_value (ws : List Str) (hz : ∀ w ∈ ws, w.length ≤ sizeLine) : ∀ (k n : Nat) {m m' : Md} (s : Si) (i : Nat) (r : List Str) (st : Sto), s.ok k → ws.drop i = s.w ++ r → interp delta (n + k + 2) "_law_read_value" [(m, .lst (ws.map D.str)), (m', .int (i : Nat))] st = .ok (.tup [s.d, .int ((i + s.w.length : Nat))]) st
  | k, n, m, m', .see x, i, r, st, h, hd => by
    have hx := Si.ok_see h
    obtain ⟨f1, f2, _⟩ := seen_facts x hx
    have hix := fun st => ixd hd st
    have hxm : x ∈ ws := List.mem_of_mem_drop (by rw [hd]; exact List.mem_cons_self ..)
    have hi := fun {m : Md} => ev_law_is_number (n + k) (m := m) x (hz x hxm) st
    rw [f2] at hi
    rw [run_law_read_value, slotA_lst, slotA_int]
    simp [sh_law_read_value, hix, sg_in, f1, hi, Si.d, Si.w]
  | k, n, m, m', .num q, i, r, st, h, hd => by
    have hq := Si.ok_num h
    have hx := (numW_sign hq).1
    have hix := fun st => ixd hd st
    have hi := fun {m : Md} => ev_law_is_number (n + k) (m := m) (numW q) (kInt_len hq) st
    rw [numO_num hq] at hi
    have hin := kInt_numW hq st
    rw [run_law_read_value, slotA_lst, slotA_int]
    generalize numW q = w at *
    simp [sh_law_read_value, hix, sg_in, hx, hi, hin, Si.d, Si.w]
  | 0, n, m, m', .op s a b, i, r, st, h, hd => absurd h id
  | k + 1, n, m, m', .op s a b, i, r, st, h, hd => by
    obtain ⟨hs, h1, h2⟩ := h
    have hd0 : ws.drop i = s :: (a.w ++ (b.w ++ r)) := by rw [hd, Si.w]; simp
    have hd1 : ws.drop (i + 1) = a.w ++ (b.w ++ r) := by
      rw [← List.drop_drop, hd0]; rfl
    have hd2 : ws.drop (i + 1 + a.w.length) = b.w ++ r := by
      rw [← List.drop_drop, hd1, List.drop_left]
    have hix := fun st => ixd hd0 st
    have i1 := fun {m m' : Md} => ev_read_value ws hz k n (m := m) (m' := m') a (i + 1) _ st h1 hd1
    have i2 := fun {m m' : Md} => ev_read_value ws hz k n (m := m) (m' := m') b (i + 1 + a.w.length) _ st h2 hd2
    have e1 : ((i + 1 : Nat) : Int) = (i : Int) + 1 := by omega
    rw [e1] at i1
    rw [show n + (k + 1) + 2 = (n + k + 2) + 1 by omega, run_law_read_value, slotA_lst, slotA_int]
    have v0 : ∀ s2 s3 s4 s5 s6 st, bVarR 0 (envV m ws i s2 s3 s4 s5 s6) st = .ok (.lst (ws.map D.str)) st := fun _ _ _ _ _ st => bVarR_z3 _ _ _
    have v1 : ∀ s2 s3 s4 s5 s6 st, bVarR 1 (envV m ws i s2 s3 s4 s5 s6) st = .ok (.int (i : Nat)) st := fun _ _ _ _ _ st => rfl
    unfold sh_law_read_value
    have a1 : sAsg (tgName 2) (bBin kIx (bVarR 0) (bVarR 1)) (envV m ws i none none none none none) st = .next (envV m ws i (some (.frz, .str s)) none none none none) st := by
      unfold sAsg
      rw [bBin_eq, v0, bind_ok, v1, bind_ok, hix]
      rfl
    rw [cons_next a1, sCons_eq, sIf_eq, sgt s _ _ rfl, outB_ok, decide_eq_true hs, if_pos rfl]
    have a2 : sAsg (tgTup (tgCons (tgName 3) (tgCons (tgName 4) tgNil))) (bDef (interp delta (n + k + 2)) "_law_read_value" [.rd, .rd] (lCons (bVarR 0) (lCons (bBin kAdd (bVarR 1) (bC (D.int 1))) lNil))) (envV m ws i (some (.frz, .str s)) none none none none) st = .next (envV m ws i (some (.frz, .str s)) (some (.frz, a.d)) (some (.frz, .int ((i + 1 + a.w.length : Nat)))) none none) st := by
      have q : bDef (interp delta (n + k + 2)) "_law_read_value" [.rd, .rd] (lCons (bVarR 0) (lCons (bBin kAdd (bVarR 1) (bC (D.int 1))) lNil)) (envV m ws i (some (.frz, .str s)) none none none none) st = .ok (.tup [a.d, .int ((i + 1 + a.w.length : Nat))]) st := by
        rw [bDef_eq, lCons_eq, v0, bind_ok, lCons_eq, bBin_eq, v1, bind_ok, bC_eq, bind_ok, kAdd_int, bind_ok, lNil_eq, bind_ok, bind_ok, bind_ok]
        exact i1
      unfold sAsg
      rw [q]
      rfl
    rw [cons_next a2]
    have a3 : sAsg (tgTup (tgCons (tgName 5) (tgCons (tgName 6) tgNil))) (bDef (interp delta (n + k + 2)) "_law_read_value" [.rd, .rd] (lCons (bVarR 0) (lCons (bVarR 4) lNil))) (envV m ws i (some (.frz, .str s)) (some (.frz, a.d)) (some (.frz, .int ((i + 1 + a.w.length : Nat)))) none none) st = .next (envV m ws i (some (.frz, .str s)) (some (.frz, a.d)) (some (.frz, .int ((i + 1 + a.w.length : Nat)))) (some (.frz, b.d)) (some (.frz, .int ((i + 1 + a.w.length + b.w.length : Nat))))) st := by
      have q : bDef (interp delta (n + k + 2)) "_law_read_value" [.rd, .rd] (lCons (bVarR 0) (lCons (bVarR 4) lNil)) (envV m ws i (some (.frz, .str s)) (some (.frz, a.d)) (some (.frz, .int ((i + 1 + a.w.length : Nat)))) none none) st = .ok (.tup [b.d, .int ((i + 1 + a.w.length + b.w.length : Nat))]) st := by
        have v4 : bVarR 4 (envV m ws i (some (.frz, .str s)) (some (.frz, a.d)) (some (.frz, .int ((i + 1 + a.w.length : Nat)))) none none) st = .ok (.int ((i + 1 + a.w.length : Nat))) st := rfl
        rw [bDef_eq, lCons_eq, v0, bind_ok, lCons_eq, v4, bind_ok, lNil_eq, bind_ok, bind_ok, bind_ok]
        exact i2
      unfold sAsg
      rw [q]
      rfl
    rw [cons_next a3]
    have e : i + (Si.op s a b).w.length = i + 1 + a.w.length + b.w.length := by simp [Si.w]; omega
    rw [e]
    rfl
/-- one turn: a rule is read -/
abbrev envR (m : Md) (ws : List Str) (us : List Ru) (i : Nat) (s3 s4 s5 s6 s7 : Slot) : Ev := [some (flM m, .lst (ws.map D.str)), some (.own, .lst (us.map Ru.d)), some (.frz, .int (i : Nat)), s3, s4, s5, s6, s7]
theorem turn_rules (n : Nat) (m : Md) (ws : List Str) (hz : ∀ w ∈ ws, w.length ≤ sizeLine) (us : List Ru) (i : Nat) (s3 s4 s5 s6 s7 : Slot) (u : Ru) (hu : u.ok) (r : List Str) (hd : ws.drop i = u.w ++ r) (hl : us.length ≤ 1000) (st : Sto) :
    ∃ s4' s5' s6' s7', lb_law_rules_0 (interp delta (n + 9)) (envR m ws us i s3 s4 s5 s6 s7) st = .next (envR m ws (us ++ [u]) (i + u.w.length) s3 s4' s5' s6' s7') st := by
  obtain ⟨t, e, c⟩ := u
  obtain ⟨ht, he, hc⟩ := hu
  dsimp only at ht he hc
  have v0 : ∀ us j s3 s4 s5 s6 s7 st, bVarR 0 (envR m ws us j s3 s4 s5 s6 s7) st = .ok (.lst (ws.map D.str)) st := fun _ _ _ _ _ _ _ st => bVarR_z3 _ _ _
  have v2 : ∀ us (j : Nat) s3 s4 s5 s6 s7 st, bVarR 2 (envR m ws us j s3 s4 s5 s6 s7) st = .ok (.int (j : Nat)) st := fun _ _ _ _ _ _ _ st => rfl
  have hd0 : ws.drop i = ("when" : Str) :: (t.w ++ (e.w ++ (c.w ++ r))) := by rw [hd, Ru.w]; simp
  have hlt : i < ws.length := by
    have := congrArg List.length hd0
    rw [List.length_drop] at this
    simp at this
    omega
  have hd1 : ws.drop (i + 1) = t.w ++ (e.w ++ (c.w ++ r)) := by rw [← List.drop_drop, hd0]; rfl
  have hd2 : ws.drop (i + 1 + t.w.length) = e.w ++ (c.w ++ r) := by rw [← List.drop_drop, hd1, List.drop_left]
  have r1 := fun {m m' : Md} => ev_read_value ws hz 7 n (m := m) (m' := m') t (i + 1) _ st ht hd1
  rw [show ((i + 1 : Nat) : Int) = (i : Int) + 1 by omega] at r1
  have hcnd : bTst (bBin kLt (bVarR 2) (bCall kLen (lCons (bVarR 0) lNil))) (envR m ws us i s3 s4 s5 s6 s7) st = .ok true st := by
    rw [bTst_eq, bBin_eq, v2, bind_ok, bCall_eq, lCons_eq, v0, bind_ok, lNil_eq, bind_ok, bind_ok, kLen_lst, bind_ok, kLt, kCmp_int, rBl_bl, List.length_map, decide_eq_true (by omega)]
  have a1 : sAsg (tgTup (tgCons (tgName 4) (tgCons (tgName 2) tgNil))) (bDef (interp delta (n + 9)) "_law_read_value" [.rd, .rd] (lCons (bVarR 0) (lCons (bBin kAdd (bVarR 2) (bC (D.int 1))) lNil))) (envR m ws us i s3 s4 s5 s6 s7) st = .next (envR m ws us (i + 1 + t.w.length) s3 (some (.frz, t.d)) s5 s6 s7) st := by
    have q : bDef (interp delta (n + 9)) "_law_read_value" [.rd, .rd] (lCons (bVarR 0) (lCons (bBin kAdd (bVarR 2) (bC (D.int 1))) lNil)) (envR m ws us i s3 s4 s5 s6 s7) st = .ok (.tup [t.d, .int ((i + 1 + t.w.length : Nat))]) st := by
      rw [bDef_eq, lCons_eq, v0, bind_ok, lCons_eq, bBin_eq, v2, bind_ok, bC_eq, bind_ok, kAdd_int, bind_ok, lNil_eq, bind_ok, bind_ok, bind_ok]
      exact r1
    unfold sAsg
    rw [q]
    rfl
  have a2 : ∀ s4, sSet 5 (bTup (lCons (bC (D.str "answer")) lNil)) (envR m ws us (i + 1 + t.w.length) s3 s4 s5 s6 s7) st = .next (envR m ws us (i + 1 + t.w.length) s3 s4 (some (.frz, .tup [.str "answer"])) s6 s7) st := fun _ => rfl
  -- the deed's words
  have mid : ∃ (j : Nat) (ds : List D) (s : Si), s.ok 7 ∧ e.d = .tup (ds ++ [s.d]) ∧ ds.length ≤ 3 ∧ i + 1 + t.w.length + e.w.length = j + 1 + s.w.length ∧ ws.drop (j + 1) = s.w ++ (c.w ++ r) ∧ ∀ s4, (sIf (bTst (bBin kEq (bBin kIx (bVarR 0) (bVarR 2)) (bC (D.str "call")))) (sCons (sSet 5 (bTup (lCons (bC (D.str "call")) (lCons (bBin kIx (bVarR 0) (bBin kAdd (bVarR 2) (bC (D.int 1)))) (lCons (bBin kIx (bVarR 0) (bBin kAdd (bVarR 2) (bC (D.int 2)))) lNil))))) (sSet 2 (bBin kAdd (bVarR 2) (bC (D.int 2))))) sNil) (envR m ws us (i + 1 + t.w.length) s3 s4 (some (.frz, .tup [.str "answer"])) s6 s7) st = .next (envR m ws us j s3 s4 (some (.frz, .tup ds)) s6 s7) st := by
    cases e with
    | ans s =>
      have hdw : ws.drop (i + 1 + t.w.length) = ("answer" : Str) :: (s.w ++ (c.w ++ r)) := hd2
      have hix := fun st => ixd hdw st
      refine ⟨i + 1 + t.w.length, [.str "answer"], s, he, rfl, by decide, by simp [De.w]; omega, by rw [← List.drop_drop, hdw]; rfl, fun s4 => ?_⟩
      have hne : ¬ ("answer" : Str) = "call" := by decide +kernel
      rw [sIf_eq, bTst_eq, bBin_eq, bBin_eq, v0, bind_ok, v2, bind_ok, hix, bind_ok, bC_eq, bind_ok, kEq_str, rBl_bl, outB_ok, decide_eq_false hne, if_neg Bool.false_ne_true]
      rfl
    | call k p s =>
      have hdw : ws.drop (i + 1 + t.w.length) = ("call" : Str) :: k :: p :: (s.w ++ (c.w ++ r)) := hd2
      have hdk : ws.drop (i + 1 + t.w.length + 1) = k :: p :: (s.w ++ (c.w ++ r)) := by rw [← List.drop_drop, hdw]; rfl
      have hdp : ws.drop (i + 1 + t.w.length + 2) = p :: (s.w ++ (c.w ++ r)) := by rw [← List.drop_drop, hdw]; rfl
      have hds : ws.drop (i + 1 + t.w.length + 2 + 1) = s.w ++ (c.w ++ r) := by rw [← List.drop_drop, hdp]; rfl
      have hix := fun st => ixd hdw st
      have hik := fun st => ixd hdk st
      have hip := fun st => ixd hdp st
      generalize i + 1 + t.w.length = j at *
      refine ⟨j + 2, [.str "call", .str k, .str p], s, he.2.2, rfl, by simp, by simp [De.w]; omega, hds, fun s4 => ?_⟩
      have w1 : ((j + 1 : Nat) : Int) = (j : Int) + 1 := by omega
      have w2 : ((j + 2 : Nat) : Int) = (j : Int) + 2 := by omega
      rw [w1] at hik
      rw [w2] at hip
      have b1 : sSet 5 (bTup (lCons (bC (D.str "call")) (lCons (bBin kIx (bVarR 0) (bBin kAdd (bVarR 2) (bC (D.int 1)))) (lCons (bBin kIx (bVarR 0) (bBin kAdd (bVarR 2) (bC (D.int 2)))) lNil)))) (envR m ws us j s3 s4 (some (.frz, .tup [.str "answer"])) s6 s7) st = .next (envR m ws us j s3 s4 (some (.frz, .tup [.str "call", .str k, .str p])) s6 s7) st := by
        rw [sSet_eq, bTup_eq, lCons_eq, bC_eq, bind_ok, lCons_eq, bBin_eq, v0, bind_ok, bBin_eq, v2, bind_ok, bC_eq, bind_ok, kAdd_int, bind_ok, hik, bind_ok, lCons_eq, bBin_eq, v0, bind_ok, bBin_eq, v2, bind_ok, bC_eq, bind_ok, kAdd_int, bind_ok, hip, bind_ok, lNil_eq, bind_ok, bind_ok, bind_ok, bind_ok, out_ok]
        rfl
      have b2 : sSet 2 (bBin kAdd (bVarR 2) (bC (D.int 2))) (envR m ws us j s3 s4 (some (.frz, .tup [.str "call", .str k, .str p])) s6 s7) st = .next (envR m ws us (j + 2) s3 s4 (some (.frz, .tup [.str "call", .str k, .str p])) s6 s7) st := by
        rw [sSet_eq, bBin_eq, v2, bind_ok, bC_eq, bind_ok, kAdd_int, out_ok, ← w2]
        rfl
      rw [sIf_eq, bTst_eq, bBin_eq, bBin_eq, v0, bind_ok, v2, bind_ok, hix, bind_ok, bC_eq, bind_ok, kEq_str, rBl_bl, outB_ok, decide_eq_true rfl, if_pos rfl, sCons_eq, b1, seq_next, b2]
  obtain ⟨j, ds, s, hs, hed, hdl, hj, hdj, hm⟩ := mid
  have r2 := fun {m m' : Md} => ev_read_value ws hz 7 n (m := m) (m' := m') s (j + 1) _ st hs hdj
  rw [show ((j + 1 : Nat) : Int) = (j : Int) + 1 by omega] at r2
  have hdc : ws.drop (j + 1 + s.w.length) = c.w ++ r := by rw [← List.drop_drop, hdj, List.drop_left]
  have r3 := fun {m m' : Md} => ev_read_value ws hz 7 n (m := m) (m' := m') c (j + 1 + s.w.length) _ st hc hdc
  have a4 : ∀ s4 s5, sAsg (tgTup (tgCons (tgName 6) (tgCons (tgName 2) tgNil))) (bDef (interp delta (n + 9)) "_law_read_value" [.rd, .rd] (lCons (bVarR 0) (lCons (bBin kAdd (bVarR 2) (bC (D.int 1))) lNil))) (envR m ws us j s3 s4 s5 s6 s7) st = .next (envR m ws us (j + 1 + s.w.length) s3 s4 s5 (some (.frz, s.d)) s7) st := fun s4 s5 => by
    have q : bDef (interp delta (n + 9)) "_law_read_value" [.rd, .rd] (lCons (bVarR 0) (lCons (bBin kAdd (bVarR 2) (bC (D.int 1))) lNil)) (envR m ws us j s3 s4 s5 s6 s7) st = .ok (.tup [s.d, .int ((j + 1 + s.w.length : Nat))]) st := by
      rw [bDef_eq, lCons_eq, v0, bind_ok, lCons_eq, bBin_eq, v2, bind_ok, bC_eq, bind_ok, kAdd_int, bind_ok, lNil_eq, bind_ok, bind_ok, bind_ok]
      exact r2
    unfold sAsg
    rw [q]
    rfl
  have a5 : ∀ s4 s5 s6, sAsg (tgTup (tgCons (tgName 7) (tgCons (tgName 2) tgNil))) (bDef (interp delta (n + 9)) "_law_read_value" [.rd, .rd] (lCons (bVarR 0) (lCons (bVarR 2) lNil))) (envR m ws us (j + 1 + s.w.length) s3 s4 s5 s6 s7) st = .next (envR m ws us (j + 1 + s.w.length + c.w.length) s3 s4 s5 s6 (some (.frz, c.d))) st := fun s4 s5 s6 => by
    have q : bDef (interp delta (n + 9)) "_law_read_value" [.rd, .rd] (lCons (bVarR 0) (lCons (bVarR 2) lNil)) (envR m ws us (j + 1 + s.w.length) s3 s4 s5 s6 s7) st = .ok (.tup [c.d, .int ((j + 1 + s.w.length + c.w.length : Nat))]) st := by
      rw [bDef_eq, lCons_eq, v0, bind_ok, lCons_eq, v2, bind_ok, lNil_eq, bind_ok, bind_ok, bind_ok]
      exact r3
    unfold sAsg
    rw [q]
    rfl
  have a6 : sApp 1 (bTup (lCons (bVar 4) (lCons (bBin kAdd (bVarR 5) (bTup (lCons (bVar 6) lNil))) (lCons (bVar 7) lNil)))) (envR m ws us (j + 1 + s.w.length + c.w.length) s3 (some (.frz, t.d)) (some (.frz, .tup ds)) (some (.frz, s.d)) (some (.frz, c.d))) st = .next (envR m ws (us ++ [⟨t, e, c⟩]) (j + 1 + s.w.length + c.w.length) s3 (some (.frz, t.d)) (some (.frz, .tup ds)) (some (.frz, s.d)) (some (.frz, c.d))) st := by
    have q : bTup (lCons (bVar 4) (lCons (bBin kAdd (bVarR 5) (bTup (lCons (bVar 6) lNil))) (lCons (bVar 7) lNil))) (envR m ws us (j + 1 + s.w.length + c.w.length) s3 (some (.frz, t.d)) (some (.frz, .tup ds)) (some (.frz, s.d)) (some (.frz, c.d))) st = .ok (Ru.d ⟨t, e, c⟩) st := by
      have k5 : kAdd (.tup ds) (.tup [s.d]) st = .ok (.tup (ds ++ [s.d])) st := by rw [kAdd_tup, if_pos (szM (by simp; omega))]
      rw [bTup_eq, lCons_eq, bVar_of (d := t.d) rfl, bind_ok, lCons_eq, bBin_eq, bVarR_of (fl := .frz) (d := .tup ds) (by decide) rfl, bind_ok, bTup_eq, lCons_eq, bVar_of (d := s.d) rfl, bind_ok, lNil_eq, bind_ok, bind_ok, bind_ok, k5, bind_ok, lCons_eq, bVar_of (d := c.d) rfl, bind_ok, lNil_eq, bind_ok, bind_ok, bind_ok, bind_ok]
      unfold Ru.d
      rw [hed]
    rw [sApp_E]
    show appE 1 _ _ st (some (some (.own, .lst (us.map Ru.d)))) = _
    rw [appE_own, q, out_ok, appO_of _ _ _ (by rw [List.length_map]; have := sz6; omega)]
    have em : us.map Ru.d ++ [Ru.d ⟨t, e, c⟩] = (us ++ [(⟨t, e, c⟩ : Ru)]).map Ru.d := by simp
    rw [em]
    rfl
  refine ⟨some (.frz, t.d), some (.frz, .tup ds), some (.frz, s.d), some (.frz, c.d), ?_⟩
  have el : i + (Ru.w ⟨t, e, c⟩).length = j + 1 + s.w.length + c.w.length := by
    unfold Ru.w
    simp
    omega
  rw [el]
  unfold lb_law_rules_0
  rw [sIf_eq, hcnd, outB_ok, if_pos rfl, cons_next a1, cons_next (a2 _), cons_next (hm _), cons_next (a4 _ _), cons_next (a5 _ _ _), a6]
theorem ev_rules (n : Nat) {m : Md} (st : Sto) {us : List Ru} (hu : ∀ u ∈ us, u.ok) (hl : us.length ≤ 40) (hz : ∀ w ∈ allW us, w.length ≤ sizeLine) : interp delta (n + 10) "_law_rules" [(m, .lst ((allW us).map D.str))] st = .ok (.tup (us.map Ru.d)) st := by
  rw [run_law_rules, slotA_lst]
  have hdrop : ∀ i, (allW us).drop (allW (us.take i)).length = allW (us.drop i) := fun i => by
    have : allW us = allW (us.take i) ++ allW (us.drop i) := by rw [← allW_app, List.take_append_drop]
    rw [this, List.drop_left]
  obtain ⟨e, s', h1, rfl, s3, s4, s5, s6, s7, rfl⟩ := forL_inv (t := tgName 3) (b := lb_law_rules_0 (interp delta (n + 9)))
    (fun i env st' => st' = st ∧ ∃ s3 s4 s5 s6 s7, env = envR m (allW us) (us.take i) (allW (us.take i)).length s3 s4 s5 s6 s7)
    (ds := rngD 0 50) (fun i d env st' hd ⟨h0, s3, s4, s5, s6, s7, he⟩ => by
      subst h0 he
      obtain ⟨rfl, hi⟩ := rngD_get hd
      by_cases hlt : i < us.length
      · have hd := hdrop i
        rw [List.drop_eq_getElem_cons hlt] at hd
        obtain ⟨s4', s5', s6', s7', ht⟩ := turn_rules n m (allW us) hz (us.take i) (allW (us.take i)).length (some (.frz, .int (0 + (i : Nat)))) s4 s5 s6 s7 us[i] (hu _ (List.getElem_mem hlt)) (allW (us.drop (i + 1))) hd (by rw [List.length_take]; omega) st'
        have e1 : us.take (i + 1) = us.take i ++ [us[i]] := by rw [List.take_succ, List.getElem?_eq_getElem hlt]; rfl
        have e2 : (allW (us.take (i + 1))).length = (allW (us.take i)).length + us[i].w.length := by rw [e1, allW_app]; simp [allW]
        refine ⟨_, _, st', rfl, .inl ht, rfl, some (.frz, .int (0 + (i : Nat))), s4', s5', s6', s7', ?_⟩
        rw [e2, e1]
      · have e1 : us.take i = us := List.take_of_length_le (by omega)
        have e2 : us.take (i + 1) = us := List.take_of_length_le (by omega)
        refine ⟨_, envR m (allW us) us (allW us).length (some (.frz, .int (0 + (i : Nat)))) s4 s5 s6 s7, st', rfl, .inl ?_, rfl, some (.frz, .int (0 + (i : Nat))), s4, s5, s6, s7, by rw [e2]⟩
        rw [e1]
        have v0 : ∀ us j s3 s4 s5 s6 s7 st, bVarR 0 (envR m (allW us) us j s3 s4 s5 s6 s7) st = .ok (.lst ((allW us).map D.str)) st := fun _ _ _ _ _ _ _ st => bVarR_z3 _ _ _
        have hcnd : bTst (bBin kLt (bVarR 2) (bCall kLen (lCons (bVarR 0) lNil))) (envR m (allW us) us (allW us).length (some (.frz, .int (0 + (i : Nat)))) s4 s5 s6 s7) st' = .ok false st' := by
          rw [bTst_eq, bBin_eq]
          show rBl (R.bind (R.ok (D.int ((allW us).length : Nat)) st') _) = _
          rw [bind_ok, bCall_eq, lCons_eq, v0, bind_ok, lNil_eq, bind_ok, bind_ok, kLen_lst, bind_ok, kLt, kCmp_int, rBl_bl, List.length_map, decide_eq_false (by omega)]
        unfold lb_law_rules_0
        show sIf _ _ _ (envR m (allW us) us (allW us).length (some (.frz, .int (0 + (i : Nat)))) s4 s5 s6 s7) st' = _
        rw [sIf_eq, hcnd, outB_ok, if_neg Bool.false_ne_true]
        rfl) (env := envR m (allW us) [] 0 none none none none none) (st := st) ⟨rfl, none, none, none, none, none, rfl⟩
  have hlen : (rngD 0 50).length = 50 := by rw [rngD_len]; rfl
  rw [hlen, show us.take 50 = us from List.take_of_length_le (by omega)] at h1
  have a1 : sSet 1 (bLst lNil) [some (flM m, .lst ((allW us).map D.str)), none, none, none, none, none, none, none] s' = .next [some (flM m, .lst ((allW us).map D.str)), some (.own, .lst []), none, none, none, none, none, none] s' := rfl
  have a2 : sSet 2 (bC (D.int 0)) [some (flM m, .lst ((allW us).map D.str)), some (.own, .lst []), none, none, none, none, none, none] s' = .next (envR m (allW us) [] 0 none none none none none) s' := rfl
  have hz50 : (50 : Int) ≤ sizeLine ∧ -(2 ^ 62) ≤ (50 : Int) := by have := sz6; exact ⟨by omega, by omega⟩
  have hr : iRng1D (bC (D.int 50)) (envR m (allW us) [] 0 none none none none none) s' = .ok (rngD 0 50) s' := iRng1D_int _ _ rfl hz50
  unfold sh_law_rules
  rw [cons_next a1, cons_next a2, sCons_eq, sFor_L, hr, outL_ok, h1, seq_next, sRet_eq]
  rfl
end K35

namespace K35
open PySem L2 NC
/-! ### drawing, as an expression -/
theorem draw_of {ns : List Int} (n : Nat) {i : Nat} {f : F} {env : Ev} {st : Sto} {k : Int} (hk : 0 < k ∧ k < 1073741824) (hP : Pool ns st) (hv : bVarR i env st = .ok (.loc 0) st) (hf : f env st = .ok (.int k) st) :
    ∃ v st', bDef (interp delta (n + 1)) "_law_draw" [.rd, .rd] (lCons (bVarR i) (lCons f lNil)) env st = .ok (.int v) st' ∧ 0 ≤ v ∧ v < k ∧ Pool ns st' := by
  obtain ⟨v, st', h, h0, h1, P, _⟩ := ev_draw (ns := ns) n (m := .rd) (m' := .rd) k hk hP
  refine ⟨v, st', ?_, h0, h1, P⟩
  rw [bDef_eq, lCons_eq, hv, bind_ok, lCons_eq, hf, bind_ok, lNil_eq, bind_ok, bind_ok, bind_ok]
  exact h
/-- drawn signs -/
theorem chars {ns : List Int} (n j q : Nat) (L : List Nat) (z : Int) (hz : (L.length : Int) = z) (hz0 : 0 < z ∧ z ≤ 1000) (E : Ev) (hE : j < E.length) (h0 : ∀ x S, bVarR 0 (E.set j x) S = .ok (.loc 0) S) (h3 : ∀ x S, bVarR q (E.set j x) S = .ok (.str (tx L)) S) : ∀ (ds : List D) {st : Sto}, Pool ns st → ∃ (cs : List Nat) (st' : Sto), compL (tgName j) cYes (bBin kIx (bVarR q) (bDef (interp delta (n + 1)) "_law_draw" [.rd, .rd] (lCons (bVarR 0) (lCons (bC (D.int z)) lNil)))) ds E st = .ok (cs.map fun c => D.str (ch c)) st' ∧ Pool ns st' ∧ cs.length = ds.length ∧ ∀ c ∈ cs, c ∈ L
  | [], st, hP => ⟨[], st, rfl, hP, rfl, fun c h => by cases h⟩
  | d :: ds, st, hP => by
    obtain ⟨v, st1, e1, v0, v1, P1⟩ := draw_of (ns := ns) n (env := E.set j (some (.frz, d))) (f := bC (D.int z)) (i := 0) (k := z) ⟨hz0.1, by omega⟩ hP (h0 _ _) rfl
    obtain ⟨c, hc, hci⟩ := kIx_str_in (z := tx L) (i := v) (st := st1) (Nat.le_trans (show (tx L).length ≤ 1000 by rw [tx_len]; omega) (Nat.le_trans (by decide) sz6)) v0 (by rw [tx_len, hz]; exact v1)
    obtain ⟨cs, st', h1, h2, h4, h5⟩ := chars n j q L z hz hz0 E hE h0 h3 ds P1
    have hcm : c ∈ L := List.mem_of_getElem? hci
    refine ⟨c :: cs, st', ?_, h2, by simp [h4], fun x hx => ?_⟩
    · unfold compL
      have ht : tgName j d E = some (E.set j (some (.frz, d))) := by
        unfold tgName
        rw [if_pos hE]
      rw [ht]
      dsimp only
      rw [cYes_eq, nox_ok, bind_ok, if_pos rfl, bBin_eq, h3, bind_ok, e1, bind_ok, hc, nox_ok, bind_ok, h1, bind_ok]
      rfl
    · rcases List.mem_cons.mp hx with rfl | hx
      · exact hcm
      · exact h5 x hx
theorem asg_of {i : Nat} {f : F} {env : Ev} {st st1 : Sto} {d : D} (h : f env st = .ok d st1) (hi : i < env.length) : sAsg (tgName i) f env st = .next (env.set i (some (.frz, d))) st1 := by
  unfold sAsg
  rw [h]
  show (match tgName i d env with | some env' => Out.next env' st1 | none => .stuck) = _
  unfold tgName
  rw [if_pos hi]
theorem setF_next {i : Nat} {f : F} {env : Ev} {st st1 : Sto} {d : D} (h : f env st = .ok d st1) (hi : i < env.length) : sSet i f env st = .next (env.set i (slotOf d)) st1 := by
  rw [sSet_eq, h, out_ok, if_pos hi]
/-! ### drawn words -/
theorem signs_l : ∀ x ∈ signs, x.length ≤ 13 := by decide +kernel
theorem seen_l : ∀ x ∈ seen, x.length ≤ 13 := by decide +kernel
theorem kAdd_ws (vs ws : List Str) (h : vs.length + ws.length ≤ 1000000) (st : Sto) : kAdd (.lst (vs.map D.str)) (.lst (ws.map D.str)) st = .ok (.lst ((vs ++ ws).map D.str)) st := by
  rw [kAdd_lst, if_pos (szM (by simpa using h)), List.map_append]
abbrev drw (cl : Calls) (k : Int) : F := bDef cl "_law_draw" [.rd, .rd] (lCons (bVarR 0) (lCons (bC (D.int k)) lNil))
/-- one of written words -/
theorem one_of {ns : List Int} (n : Nat) {i : Nat} {env : Ev} {st : Sto} {k : Int} (L : List Str) (hL : (L.length : Int) = k) (hk : 0 < k ∧ k < 1000) (ft : F) (ht : ft env st = .ok (.tup (L.map D.str)) st) (hP : Pool ns st) (hv : bVarR i env st = .ok (.loc 0) st) :
    ∃ x st', x ∈ L ∧ bBin kIx ft (bDef (interp delta (n + 1)) "_law_draw" [.rd, .rd] (lCons (bVarR i) (lCons (bC (D.int k)) lNil))) env st = .ok (.str x) st' ∧ Pool ns st' := by
  obtain ⟨v, st1, e1, v0, v1, P1⟩ := draw_of (ns := ns) n (i := i) (f := bC (D.int k)) (k := k) ⟨hk.1, by omega⟩ hP hv rfl
  obtain ⟨x, hx, hxi⟩ := kIx_tupM (st := st1) D.str L v0 (by rw [hL]; exact v1)
  exact ⟨x, st1, hx, by rw [bBin_eq, ht, bind_ok, e1, bind_ok, hxi], P1⟩
abbrev eV (m' : D) (s2 s3 : Slot) : Ev := [some (.frz, .loc 0), some (.frz, m'), s2, s3]
theorem vw_leaf {ns : List Int} (n : Nat) (d : D) (v : Int) (s3 : Slot) {st : Sto} (hP : Pool ns st) : ∃ ws st', fin ((sCons (sIf (bTst (bBin kLt (bVarR 2) (bC (D.int 7))))
  (sRet (bLst (lCons (bBin kIx (bTup (lCons (bC (D.str "asked")) (lCons (bC (D.str "deep")) (lCons (bC (D.str "failed")) (lCons (bC (D.str "cell")) lNil))))) (drw (interp delta (n + 1)) 4)) lNil)))
  sNil)
  (sRet (bLst (lCons (bCall kStr (lCons (bBin kIx (bTup (lCons (drw (interp delta (n + 1)) 9) (lCons (drw (interp delta (n + 1)) 65536) lNil))) (drw (interp delta (n + 1)) 2)) lNil)) lNil)))) (eV d (some (.frz, .int v)) s3) st) = .ok (.lst (ws.map D.str)) st' ∧ Pool ns st' ∧ WB 1 13 ws := by
  have c1 : bTst (bBin kLt (bVarR 2) (bC (D.int 7))) (eV d (some (.frz, .int v)) s3) st = .ok (decide (v < 7)) st := rfl
  rw [sCons_eq, sIf_eq, c1, outB_ok]
  by_cases hv : v < 7
  · obtain ⟨x, st1, hx, e1, P1⟩ := one_of (ns := ns) n (i := 0) (env := eV d (some (.frz, .int v)) s3) (k := 4) seen (by decide) (by decide) (bTup (lCons (bC (D.str "asked")) (lCons (bC (D.str "deep")) (lCons (bC (D.str "failed")) (lCons (bC (D.str "cell")) lNil))))) rfl hP rfl
    refine ⟨[x], st1, ?_, P1, wb_one (seen_l x hx) (Nat.le_refl _)⟩
    rw [decide_eq_true hv, if_pos rfl, sRet_eq, bLst_eq, lCons_eq]
    show fin (Out.seq (R.out (R.bind (R.bind (bBin kIx _ _ _ _) _) _) _ _) _) = _
    rw [e1]
    rfl
  · obtain ⟨a, st1, e1, a0, a1, P1⟩ := draw_of (ns := ns) n (i := 0) (env := eV d (some (.frz, .int v)) s3) (f := bC (D.int 9)) (k := 9) ⟨by decide, by decide⟩ hP rfl rfl
    obtain ⟨b, st2, e2, b0, b1, P2⟩ := draw_of (ns := ns) n (i := 0) (env := eV d (some (.frz, .int v)) s3) (f := bC (D.int 65536)) (k := 65536) ⟨by decide, by decide⟩ P1 rfl rfl
    obtain ⟨c, st3, e3, c0, c1, P3⟩ := draw_of (ns := ns) n (i := 0) (env := eV d (some (.frz, .int v)) s3) (f := bC (D.int 2)) (k := 2) ⟨by decide, by decide⟩ P2 rfl rfl
    have hq : ∃ q : Nat, q ≤ 65535 ∧ kIx (.tup [.int a, .int b]) (.int c) st3 = .ok (.int (q : Nat)) st3 := by
      obtain ⟨a', rfl⟩ := Int.eq_ofNat_of_zero_le a0
      obtain ⟨b', rfl⟩ := Int.eq_ofNat_of_zero_le b0
      have : c = 0 ∨ c = 1 := by omega
      rcases this with rfl | rfl
      · exact ⟨a', by omega, kIx_tup_of atI_0⟩
      · exact ⟨b', by omega, kIx_tup_of atI_1⟩
    obtain ⟨q, hq, hqi⟩ := hq
    refine ⟨[numW q], st3, ?_, P3, wb_one (by have := numW_len hq; omega) (Nat.le_refl _)⟩
    have hks := kStr_num (show q < 2 ^ 64 by have : (2 : Nat) ^ 64 = 18446744073709551616 := by decide
                                             omega) st3
    have ht : bTup (lCons (drw (interp delta (n + 1)) 9) (lCons (drw (interp delta (n + 1)) 65536) lNil)) (eV d (some (.frz, .int v)) s3) st = .ok (.tup [.int a, .int b]) st2 := by
      rw [bTup_eq, lCons_eq]
      show R.bind (R.bind (bDef _ _ _ _ _ _) _) _ = _
      rw [e1, bind_ok, lCons_eq]
      show R.bind (R.bind (R.bind (bDef _ _ _ _ _ _) _) _) _ = _
      rw [e2]
      rfl
    rw [decide_eq_false hv, if_neg Bool.false_ne_true, sNil_eq, seq_next, sRet_eq, bLst_eq, lCons_eq, bCall_eq, lCons_eq, bBin_eq, ht, bind_ok]
    show fin (R.out (R.bind (R.bind (R.bind (R.bind (R.bind (bDef _ _ _ _ _ _) _) _) _) _) _) _ _) = _
    rw [e3, bind_ok, hqi, bind_ok, lNil_eq, bind_ok, bind_ok, hks, bind_ok, lNil_eq]
    rfl
theorem ev_value_words {ns : List Int} : ∀ (k n : Nat) {m m' : Md} {st : Sto}, k ≤ 8 → Pool ns st → ∃ ws st', interp delta (n + k + 2) "_law_value_words" [(m, .loc 0), (m', .int ((k : Nat) + 1 : Int))] st = .ok (.lst (ws.map D.str)) st' ∧ Pool ns st' ∧ WB (2 ^ (k + 1) - 1) 13 ws := by
  intro k
  induction k with
  | zero =>
    intro n m m' st hk hP
    rw [run_law_value_words, slotA_loc, slotA_int]
    obtain ⟨v, st1, e1, v0, v1, P1⟩ := draw_of (ns := ns) n (env := eV (.int (((0 : Nat) : Int) + 1)) none none) (f := bC (D.int 8)) (i := 0) (k := 8) ⟨by decide, by decide⟩ hP rfl rfl
    unfold sh_law_value_words
    have a1 : sAsg (tgName 2) (drw (interp delta (n + 1)) 8) (eV (.int (((0 : Nat) : Int) + 1)) none none) st = .next (eV (.int (((0 : Nat) : Int) + 1)) (some (.frz, .int v)) none) st1 := asg_of e1 (by simp)
    rw [cons_next a1]
    have c1 : bAndT (bTst (bBin kGt (bVarR 1) (bC (D.int 1)))) (bTst (bBin kLt (bVarR 2) (bC (D.int 4)))) (eV (.int (((0 : Nat) : Int) + 1)) (some (.frz, .int v)) none) st1 = .ok false st1 := rfl
    rw [sCons_eq, sIf_eq, c1, outB_ok, if_neg Bool.false_ne_true, sNil_eq, seq_next]
    obtain ⟨ws, st', h1, h2, h3⟩ := vw_leaf (ns := ns) n (.int (((0 : Nat) : Int) + 1)) v none P1
    exact ⟨ws, st', h1, h2, h3⟩
  | succ k ih =>
    intro n m m' st hk hP
    have hpow : 2 ^ (k + 1 + 1) = 2 ^ (k + 1) * 2 := Nat.pow_succ ..
    have hp1 : 1 ≤ 2 ^ (k + 1) := Nat.one_le_two_pow
    have hp2 : 2 ^ (k + 1) ≤ 2 ^ 9 := Nat.pow_le_pow_right (by decide) (by omega)
    rw [show n + (k + 1) + 2 = (n + k + 2) + 1 by omega, run_law_value_words, slotA_loc, slotA_int]
    obtain ⟨v, st1, e1, v0, v1, P1⟩ := draw_of (ns := ns) (n + k + 1) (env := eV (.int (((k + 1 : Nat) : Int) + 1)) none none) (f := bC (D.int 8)) (i := 0) (k := 8) ⟨by decide, by decide⟩ hP rfl rfl
    unfold sh_law_value_words
    have a1 : sAsg (tgName 2) (drw (interp delta (n + k + 2)) 8) (eV (.int (((k + 1 : Nat) : Int) + 1)) none none) st = .next (eV (.int (((k + 1 : Nat) : Int) + 1)) (some (.frz, .int v)) none) st1 := asg_of e1 (by simp)
    rw [cons_next a1]
    have hg : decide ((((k + 1 : Nat) : Int) + 1) > 1) = true := decide_eq_true (by omega)
    have c1 : bAndT (bTst (bBin kGt (bVarR 1) (bC (D.int 1)))) (bTst (bBin kLt (bVarR 2) (bC (D.int 4)))) (eV (.int (((k + 1 : Nat) : Int) + 1)) (some (.frz, .int v)) none) st1 = .ok (decide (v < 4)) st1 := by
      show (if decide ((((k + 1 : Nat) : Int) + 1) > 1) = true then R.ok (decide (v < 4)) st1 else R.ok false st1) = _
      rw [hg, if_pos rfl]
    rw [sCons_eq, sIf_eq, c1, outB_ok]
    by_cases hv : v < 4
    · rw [decide_eq_true hv, if_pos rfl]
      have ek : (((k + 1 : Nat) : Int) + 1) - 1 = (k : Nat) + 1 := by omega
      obtain ⟨w1, st2, e2, P2, b2⟩ := ih n (m := .rd) (m' := .rd) (by omega) P1
      obtain ⟨x, st3, hx, e3, P3⟩ := one_of (ns := ns) (n + k + 1) (i := 0) (env := eV (.int (((k + 1 : Nat) : Int) + 1)) (some (.frz, .int v)) (some (.frz, .lst (w1.map D.str)))) (k := 7) signs (by decide) (by decide) (bTup (lCons (bC (D.str "+")) (lCons (bC (D.str "-")) (lCons (bC (D.str "*")) (lCons (bC (D.str "/")) (lCons (bC (D.str "mod")) (lCons (bC (D.str "<")) (lCons (bC (D.str "=")) lNil)))))))) rfl P2 rfl
      obtain ⟨w2, st4, e4, P4, b4⟩ := ih n (m := .rd) (m' := .rd) (by omega) P3
      have call : ∀ (s3 : Slot) (S S' : Sto) (w : List Str), interp delta (n + k + 2) "_law_value_words" [(.rd, .loc 0), (.rd, .int ((k : Nat) + 1 : Int))] S = .ok (.lst (w.map D.str)) S' → bDef (interp delta (n + k + 2)) "_law_value_words" [.rd, .rd] (lCons (bVarR 0) (lCons (bBin kSub (bVarR 1) (bC (D.int 1))) lNil)) (eV (.int (((k + 1 : Nat) : Int) + 1)) (some (.frz, .int v)) s3) S = .ok (.lst (w.map D.str)) S' := fun s3 S S' w h => by
        rw [← ek] at h
        exact h
      have a2 : sAsg (tgName 3) (bDef (interp delta (n + k + 2)) "_law_value_words" [.rd, .rd] (lCons (bVarR 0) (lCons (bBin kSub (bVarR 1) (bC (D.int 1))) lNil))) (eV (.int (((k + 1 : Nat) : Int) + 1)) (some (.frz, .int v)) none) st1 = .next (eV (.int (((k + 1 : Nat) : Int) + 1)) (some (.frz, .int v)) (some (.frz, .lst (w1.map D.str)))) st2 := asg_of (call _ _ _ _ e2) (by simp)
      have l1 := b2.n
      have l2 := b4.n
      refine ⟨x :: (w1 ++ w2), st4, ?_, P4, ?_⟩
      · rw [cons_next a2, sRet_eq, bBin_eq, bBin_eq, bLst_eq, lCons_eq]
        show fin (Out.seq (R.out (R.bind (R.bind (R.bind (R.bind (bBin kIx _ _ _ _) _) _) _) _) _ _) _) = _
        rw [e3, bind_ok, lNil_eq, bind_ok, bind_ok, bind_ok]
        show fin (Out.seq (R.out (R.bind (R.bind (R.ok (D.lst (w1.map D.str)) st3) _) _) _ _) _) = _
        rw [bind_ok, show ([D.str x] : List D) = ([x] : List Str).map D.str from rfl, kAdd_ws _ _ (by simp; omega), bind_ok, call _ _ _ _ e4, bind_ok, kAdd_ws _ _ (by simp; omega)]
        rfl
      · refine ⟨?_, fun w hw => ?_⟩
        · simp; omega
        · rcases List.mem_cons.mp hw with rfl | hw
          · exact signs_l _ hx
          · exact (List.mem_append.mp hw).elim (b2.l w) (b4.l w)
    · rw [decide_eq_false hv, if_neg Bool.false_ne_true, sNil_eq, seq_next]
      obtain ⟨ws, st', h1, h2, h3⟩ := vw_leaf (ns := ns) (n + k + 1) (.int (((k + 1 : Nat) : Int) + 1)) v none P1
      exact ⟨ws, st', h1, h2, h3.mono (by omega) (Nat.le_refl _)⟩
end K35

namespace K35
open PySem L2 NC
theorem flat_map (k : Nat) (xs : List Str) : (List.replicate k (xs.map D.str)).flatten = ((List.replicate k xs).flatten).map D.str := by
  rw [List.map_flatten, List.map_replicate]
theorem flat_wb {l : Nat} (k : Nat) {xs : List Str} (h : ∀ x ∈ xs, x.length ≤ l) : WB (k * xs.length) l (List.replicate k xs).flatten := by
  refine ⟨by simp, fun w hw => ?_⟩
  obtain ⟨ys, h1, h2⟩ := List.mem_flatten.mp hw
  rw [(List.mem_replicate.mp h1).2] at h2
  exact h w h2
theorem mul_ws (xs : List Str) (k : Nat) (hk : k ≤ 1000) (hx : xs.length ≤ 100) (st : Sto) : kMulL (.lst (xs.map D.str)) (.int (k : Nat)) st = .ok (.lst (((List.replicate k xs).flatten).map D.str)) st := by
  rw [kMulL_lst _ _ (Nat.lt_of_le_of_lt hk (by decide)) (by
    rw [List.length_map]
    have : xs.length * k ≤ 100 * 1000 := Nat.mul_le_mul hx hk
    exact szM (by omega)), flat_map]
abbrev e2 (s1 : Slot) : Ev := [some (.frz, .loc 0), s1]
theorem ev_chain {ns : List Int} (n : Nat) {m : Md} {st : Sto} (hP : Pool ns st) : ∃ ws st', interp delta (n + 2) "_law_chain" [(m, .loc 0)] st = .ok (.lst (ws.map D.str)) st' ∧ Pool ns st' ∧ WB 19 13 ws := by
  rw [run_law_chain, slotA_loc]
  obtain ⟨v, st1, e1, v0, v1, P1⟩ := draw_of (ns := ns) n (i := 0) (env := e2 none) (f := bC (D.int 4)) (k := 4) ⟨by decide, by decide⟩ hP rfl rfl
  obtain ⟨k, rfl⟩ := Int.eq_ofNat_of_zero_le v0
  have ek : (6 : Int) + (k : Nat) = ((6 + k : Nat) : Int) := by omega
  have a1 : sSet 1 (bBin kAdd (bC (D.int 6)) (drw (interp delta (n + 1)) 4)) (e2 none) st = .next (e2 (some (.frz, .int ((6 + k : Nat))))) st1 := by
    rw [← ek]
    exact setF_next (d := .int (6 + (k : Nat))) (by rw [bBin_eq, bC_eq, bind_ok]; show R.bind (bDef _ _ _ _ _ _) _ = _; rw [e1, bind_ok, kAdd_int]) (by simp)
  obtain ⟨w, st2, e2', w0, w1, P2⟩ := draw_of (ns := ns) n (i := 0) (env := e2 (some (.frz, .int ((6 + k : Nat))))) (f := bC (D.int 2)) (k := 2) ⟨by decide, by decide⟩ P1 rfl rfl
  unfold sh_law_chain
  have v1' : ∀ S, bVarR 1 (e2 (some (.frz, .int ((6 + k : Nat))))) S = .ok (.int ((6 + k : Nat))) S := fun S => rfl
  have c1 : bTst (bBin kEq (drw (interp delta (n + 1)) 2) (bC (D.int 0))) (e2 (some (.frz, .int ((6 + k : Nat))))) st1 = .ok (decide (w = 0)) st2 := by
    rw [bTst_eq, bBin_eq]
    show rBl (R.bind (bDef _ _ _ _ _ _) _) = _
    rw [e2', bind_ok, bC_eq, bind_ok, kEq_int, rBl_bl]
  rw [cons_next a1, sCons_eq, sIf_eq, c1, outB_ok]
  by_cases hw : w = 0
  · refine ⟨(List.replicate (6 + k) [("+" : Str)]).flatten ++ (List.replicate (6 + k + 1) [("1" : Str)]).flatten, st2, ?_, P2, ?_⟩
    · have q1 := mul_ws ["+"] (6 + k) (by omega) (by decide) st2
      have q2 := mul_ws ["1"] (6 + k + 1) (by omega) (by decide) st2
      have ek2 : ((6 + k : Nat) : Int) + 1 = ((6 + k + 1 : Nat) : Int) := by omega
      have m1 : bBin kMulL (bLst (lCons (bC (D.str "+")) lNil)) (bVarR 1) (e2 (some (.frz, .int ((6 + k : Nat))))) st2 = .ok (.lst (((List.replicate (6 + k) [("+" : Str)]).flatten).map D.str)) st2 := by
        rw [bBin_eq]
        show R.bind (R.ok (D.lst [D.str "+"]) st2) _ = _
        rw [bind_ok, v1', bind_ok]
        exact q1
      have m2 : bBin kMulL (bLst (lCons (bC (D.str "1")) lNil)) (bBin kAdd (bVarR 1) (bC (D.int 1))) (e2 (some (.frz, .int ((6 + k : Nat))))) st2 = .ok (.lst (((List.replicate (6 + k + 1) [("1" : Str)]).flatten).map D.str)) st2 := by
        rw [bBin_eq]
        show R.bind (R.ok (D.lst [D.str "1"]) st2) _ = _
        rw [bind_ok, bBin_eq, v1', bind_ok, bC_eq, bind_ok, kAdd_int, bind_ok, ek2]
        exact q2
      rw [decide_eq_true hw, if_pos rfl, sRet_eq, bBin_eq, m1, bind_ok, m2, bind_ok, kAdd_ws _ _ (by simp; omega)]
      rfl
    · exact ((flat_wb (6 + k) (xs := ["+"]) (by decide +kernel)).app (flat_wb (6 + k + 1) (xs := ["1"]) (by decide +kernel))).mono (by simp; omega) (Nat.le_refl _)
  · refine ⟨(List.replicate (6 + k) [("mod" : Str), "7"]).flatten ++ [("cell" : Str)], st2, ?_, P2, ?_⟩
    · have q1 := mul_ws ["mod", "7"] (6 + k) (by omega) (by decide) st2
      have m1 : bBin kMulL (bLst (lCons (bC (D.str "mod")) (lCons (bC (D.str "7")) lNil))) (bVarR 1) (e2 (some (.frz, .int ((6 + k : Nat))))) st2 = .ok (.lst (((List.replicate (6 + k) [("mod" : Str), "7"]).flatten).map D.str)) st2 := by
        rw [bBin_eq]
        show R.bind (R.ok (D.lst [D.str "mod", D.str "7"]) st2) _ = _
        rw [bind_ok, v1', bind_ok]
        exact q1
      rw [decide_eq_false hw, if_neg Bool.false_ne_true, sNil_eq, seq_next, sRet_eq, bBin_eq, m1, bind_ok]
      show fin (R.out (R.bind (R.ok (D.lst (([("cell" : Str)] : List Str).map D.str)) st2) _) _ _) = _
      rw [bind_ok, kAdd_ws _ _ (by simp; omega)]
      rfl
    · exact ((flat_wb (6 + k) (xs := ["mod", "7"]) (by decide +kernel)).app (wb_one (n := 1) (w := ("cell" : Str)) (by decide +kernel) (Nat.le_refl _))).mono (by simp; omega) (Nat.le_refl _)
/-! names -/
def l36 : List Nat := ("abcdefghijklmnopqrstuvwxyz0123456789" : Str).cps.toList
theorem l36_s : ("abcdefghijklmnopqrstuvwxyz0123456789" : Str) = tx l36 := rfl
theorem tx_app (a b : List Nat) : tx a ++ tx b = tx (a ++ b) := TL.ext_tl (TL.tl_append _ _)
abbrev eD (s2 s3 : Slot) : Ev := [some (.frz, .loc 0), some (.frz, .str (tx l36)), s2, s3]
theorem ev_drawn_name {ns : List Int} (n : Nat) {m : Md} {st : Sto} (hP : Pool ns st) : ∃ w st', interp delta (n + 2) "_law_drawn_name" [(m, .loc 0)] st = .ok (.str w) st' ∧ Pool ns st' ∧ w.length ≤ 13 := by
  rw [run_law_drawn_name, slotA_loc]
  unfold sh_law_drawn_name
  have a1 : sSet 1 (bC (D.str "abcdefghijklmnopqrstuvwxyz0123456789")) [some (.frz, .loc 0), none, none, none] st = .next (eD none none) st := rfl
  rw [cons_next a1]
  obtain ⟨v, st1, e1, v0, v1, P1⟩ := draw_of (ns := ns) n (i := 0) (env := eD none none) (f := bC (D.int 26)) (k := 26) ⟨by decide, by decide⟩ hP rfl rfl
  obtain ⟨c, hci, _⟩ := kIx_str_in (z := tx l36) (i := v) (st := st1) (szM (by decide +kernel)) v0 (by rw [show ((tx l36).length : Int) = 36 from by decide +kernel]; omega)
  obtain ⟨u, st2, e2, u0, u1, P2⟩ := draw_of (ns := ns) n (i := 0) (env := eD none none) (f := bC (D.int 12)) (k := 12) ⟨by decide, by decide⟩ P1 rfl rfl
  obtain ⟨cs, st3, h1, P3, hl, _⟩ := chars (ns := ns) n 3 1 l36 36 (by decide +kernel) ⟨by decide, by decide⟩ (eD none none) (by simp) (fun _ _ => rfl) (fun _ _ => rfl) (rngD 0 u) P2
  have hl2 : cs.length ≤ 11 := by rw [hl, rngD_len]; omega
  have hb : bComp [3] (iRng1D (drw (interp delta (n + 1)) 12)) (tgName 3) cYes (bBin kIx (bVarR 1) (drw (interp delta (n + 1)) 36)) (eD none none) st1 = .ok (.lst (cs.map fun c => D.str (ch c))) st3 := by
    unfold bComp iRng1D
    show (match (R.bind (bDef _ _ _ _ _ _) _ : R (List D)) with | .ok ds st1 => _ | .exc x st1 => _ | .stuck => _) = _
    rw [e2, bind_ok]
    dsimp only
    have hz : u ≤ sizeLine ∧ -(2 ^ 62) ≤ u := by have := sz6; exact ⟨by omega, by omega⟩
    rw [if_pos hz]
    dsimp only
    show (compL _ _ _ _ (eD none none) st2).bind _ = _
    rw [h1, bind_ok]
  have a2 : sSet 2 (bBin kAdd (bBin kIx (bVarR 1) (drw (interp delta (n + 1)) 26)) (bMethS kJoin (bC (D.str "")) (bComp [3] (iRng1D (drw (interp delta (n + 1)) 12)) (tgName 3) cYes (bBin kIx (bVarR 1) (drw (interp delta (n + 1)) 36))))) (eD none none) st = .next (eD (some (.frz, .str (tx (c :: cs)))) none) st3 := by
    refine setF_next (d := .str (tx (c :: cs))) ?_ (by simp)
    have q1 : bBin kIx (bVarR 1) (drw (interp delta (n + 1)) 26) (eD none none) st = .ok (.str (ch c)) st1 := by
      rw [bBin_eq]
      show R.bind (R.ok (D.str (tx l36)) st) _ = _
      rw [bind_ok]
      show R.bind (bDef _ _ _ _ _ _) _ = _
      rw [e1, bind_ok, hci]
    rw [bBin_eq, q1, bind_ok, bMethS_eq _ _ _ _ (bC_eq _), hb, bind_ok, kJoin_chs cs (by omega), bind_ok, kAdd_str, if_pos (szM (by rw [tx_len]; show 1 + cs.length ≤ 1000000; omega))]
    rw [show (ch c ++ tx cs : Str) = tx (c :: cs) from tx_app [c] cs]
  rw [cons_next a2]
  have hi := fun {m : Md} => ev_law_is_name n (m := m) (tx (c :: cs)) (szM (by rw [tx_len]; simp; omega)) st3
  have c1 : bNotT (bTru (bDef (interp delta (n + 1)) "_law_is_name" [.rd] (lCons (bVarR 2) lNil))) (eD (some (.frz, .str (tx (c :: cs)))) none) st3 = .ok (!isNm (tx (c :: cs))) st3 := by
    rw [bNotT_eq, bTru_eq, bDef_eq]
    show R.bind (rTru (interp delta (n + 1) "_law_is_name" [(.rd, .str (tx (c :: cs)))] st3)) _ = _
    rw [hi]
    rfl
  rw [sCons_eq, sIf_eq, c1, outB_ok]
  cases isNm (tx (c :: cs)) with
  | true => exact ⟨tx (c :: cs), st3, rfl, P3, by rw [tx_len]; simp; omega⟩
  | false => exact ⟨"y9", st3, rfl, P3, by decide +kernel⟩
/-! the menu -/
def menuA : List Str := ["when", "call", "answer", "asked", "deep", "failed", "cell", "+", "-", "mod", "<", "=", "0", "1", "7", "65535", "65536", "99999"]
def menuB : List Str := ["100000", "01", "", "c", "p", "given", "have", "out", "a", "x9", "9x", "abcdefghijklm", "When", "end", "1\n", "\t1", "c\n", "deeps"]
def menuL : List Str := menuA ++ menuB
theorem menu_l : ∀ x ∈ menuL, x.length ≤ 13 := by decide +kernel
theorem ev_menu {ns : List Int} (n : Nat) {m : Md} {st : Sto} (hP : Pool ns st) : ∃ w st', interp delta (n + 2) "_law_menu" [(m, .loc 0)] st = .ok (.str w) st' ∧ Pool ns st' ∧ w.length ≤ 13 := by
  rw [run_law_menu, slotA_loc]
  unfold sh_law_menu
  have a1 : sSet 1 (bLst (lCons (bC (D.str "when")) (lCons (bC (D.str "call")) (lCons (bC (D.str "answer")) (lCons (bC (D.str "asked")) (lCons (bC (D.str "deep")) (lCons (bC (D.str "failed")) (lCons (bC (D.str "cell")) (lCons (bC (D.str "+")) (lCons (bC (D.str "-")) (lCons (bC (D.str "mod")) (lCons (bC (D.str "<")) (lCons (bC (D.str "=")) (lCons (bC (D.str "0")) (lCons (bC (D.str "1")) (lCons (bC (D.str "7")) (lCons (bC (D.str "65535")) (lCons (bC (D.str "65536")) (lCons (bC (D.str "99999")) lNil))))))))))))))))))) (e2 none) st = .next (e2 (some (.own, .lst (menuA.map D.str)))) st := rfl
  rw [cons_next a1]
  have a2 : sSet 1 (bBin kAdd (bVarR 1) (bLst (lCons (bC (D.str "100000")) (lCons (bC (D.str "01")) (lCons (bC (D.str "")) (lCons (bC (D.str "c")) (lCons (bC (D.str "p")) (lCons (bC (D.str "given")) (lCons (bC (D.str "have")) (lCons (bC (D.str "out")) (lCons (bC (D.str "a")) (lCons (bC (D.str "x9")) (lCons (bC (D.str "9x")) (lCons (bC (D.str "abcdefghijklm")) (lCons (bC (D.str "When")) (lCons (bC (D.str "end")) (lCons (bC (D.str "1\n")) (lCons (bC (D.str "\t1")) (lCons (bC (D.str "c\n")) (lCons (bC (D.str "deeps")) lNil)))))))))))))))))))) (e2 (some (.own, .lst (menuA.map D.str)))) st = .next (e2 (some (.own, .lst (menuL.map D.str)))) st := by
    refine setF_next (d := .lst (menuL.map D.str)) ?_ (by simp)
    rw [bBin_eq]
    show R.bind (R.ok (D.lst (menuA.map D.str)) st) _ = _
    rw [bind_ok]
    show R.bind (R.ok (D.lst (menuB.map D.str)) st) _ = _
    rw [bind_ok, kAdd_ws _ _ (by decide)]
    rfl
  rw [cons_next a2]
  obtain ⟨v, st1, e1, v0, v1, P1⟩ := draw_of (ns := ns) n (i := 0) (env := e2 (some (.own, .lst (menuL.map D.str)))) (f := bCall kLen (lCons (bVarR 1) lNil)) (k := 36) ⟨by decide, by decide⟩ hP rfl rfl
  obtain ⟨x, hx, hxi⟩ := kIx_lstM (st := st1) D.str menuL v0 (by simpa [menuL, menuA, menuB] using v1)
  refine ⟨x, st1, ?_, P1, menu_l x hx⟩
  rw [sRet_eq, bBin_eq]
  show fin (R.out (R.bind (R.ok (D.lst (menuL.map D.str)) st) _) _ _) = _
  rw [bind_ok, e1, bind_ok, hxi]
  rfl
end K35

namespace K35
open PySem L2 NC
/-- a comprehension that draws -/
theorem compL_st {t : Tg} {f : F} {env : Ev} (P : D → Prop) (Inv : Sto → Prop) : ∀ (ds : List D) (st : Sto), Inv st → (∀ d ∈ ds, ∀ st, Inv st → ∃ env1 x st', t d env = some env1 ∧ f env1 st = .ok x st' ∧ P x ∧ Inv st') →
    ∃ xs st', compL t cYes f ds env st = .ok xs st' ∧ Inv st' ∧ xs.length = ds.length ∧ ∀ x ∈ xs, P x
  | [], st, hI, _ => ⟨[], st, rfl, hI, rfl, fun x h => by cases h⟩
  | d :: ds, st, hI, h => by
    obtain ⟨env1, x, st1, h1, h2, h3, h4⟩ := h d (List.mem_cons_self ..) st hI
    obtain ⟨xs, st2, i1, i2, i3, i4⟩ := compL_st P Inv ds st1 h4 fun y hy => h y (List.mem_cons_of_mem _ hy)
    refine ⟨x :: xs, st2, ?_, i2, by simp [i3], fun y hy => ?_⟩
    · unfold compL
      rw [h1]
      dsimp only
      rw [cYes_eq, nox_ok, bind_ok, if_pos rfl, h2, nox_ok, bind_ok, i1, bind_ok]
    · rcases List.mem_cons.mp hy with rfl | hy
      · exact h3
      · exact i4 y hy
def IsW (n l : Nat) (d : D) : Prop := ∃ ws : List Str, d = .lst (ws.map D.str) ∧ WB n l ws
theorem setIx_st {i : Nat} {fk fe : F} {env : Ev} {st st1 st2 : Sto} {ds : List D} {d : D} {k : Int} (he : fe env st = .ok d st1) (hi : env[i]? = some (some (.own, .lst ds))) (hk : fk env st1 = .ok (.int k) st2) (h0 : 0 ≤ k) (hlt : k < ds.length) : ∃ j, sSetIx i fk fe env st = .next (env.set i (some (.own, .lst (ds.set j d)))) st2 := by
  refine ⟨k.toNat, ?_⟩
  unfold sSetIx
  rw [he, out_ok, hi]
  dsimp only
  rw [hk, out_ok]
  dsimp only
  have : ixN ds.length k = some k.toNat := by
    unfold ixN
    rw [if_pos h0, if_pos hlt]
  rw [this]
abbrev eR (s1 s3 s4 : Slot) : Ev := [some (.frz, .loc 0), s1, none, s3, s4]
theorem three {n l : Nat} {xs : List D} (hl : xs.length = 3) (h : ∀ x ∈ xs, IsW n l x) : ∃ a b c : List Str, xs = [.lst (a.map D.str), .lst (b.map D.str), .lst (c.map D.str)] ∧ WB n l a ∧ WB n l b ∧ WB n l c := by
  match xs, hl, h with
  | [x, y, z], _, h =>
    obtain ⟨a, rfl, ha⟩ := h x (by simp)
    obtain ⟨b, rfl, hb⟩ := h y (by simp)
    obtain ⟨c, rfl, hc⟩ := h z (by simp)
    exact ⟨a, b, c, rfl, ha, hb, hc⟩
def namesL : List Str := ["c", "p", "when", "answer", "asked", "cell", "abcdefghijkl", "x9", "deep"]
theorem names_l : ∀ x ∈ namesL, x.length ≤ 13 := by decide +kernel
theorem ev_rule_words {ns : List Int} (n : Nat) {m : Md} {st : Sto} (hP : Pool ns st) : ∃ ws st', interp delta (n + 5) "_law_rule_words" [(m, .loc 0)] st = .ok (.lst (ws.map D.str)) st' ∧ Pool ns st' ∧ WB 61 13 ws := by
  rw [run_law_rule_words, slotA_loc]
  unfold sh_law_rule_words
  -- the three values
  obtain ⟨xs, st1, h1, P1, hl, hx⟩ := compL_st (t := tgName 2) (f := bDef (interp delta (n + 4)) "_law_value_words" [.rd, .rd] (lCons (bVarR 0) (lCons (bC (D.int 3)) lNil))) (env := eR none none none) (IsW 19 13) (Pool ns) (rngD 0 3) st hP (fun d hd st hP => by
    obtain ⟨ws, st', h, P, b⟩ := ev_value_words (ns := ns) 2 n (m := .rd) (m' := .rd) (by omega) hP
    exact ⟨[some (.frz, .loc 0), none, some (.frz, d), none, none], .lst (ws.map D.str), st', rfl, h, ⟨ws, rfl, b.mono (by decide) (Nat.le_refl _)⟩, P⟩)
  have hl3 : xs.length = 3 := by rw [hl]; rfl
  have hz3 : (3 : Int) ≤ sizeLine ∧ -(2 ^ 62) ≤ (3 : Int) := by have := sz6; exact ⟨by omega, by omega⟩
  have a1 : sSet 1 (bComp [2] (iRng1D (bC (D.int 3))) (tgName 2) cYes (bDef (interp delta (n + 4)) "_law_value_words" [.rd, .rd] (lCons (bVarR 0) (lCons (bC (D.int 3)) lNil)))) (eR none none none) st = .next (eR (some (.own, .lst xs)) none none) st1 := by
    refine setF_next (d := .lst xs) ?_ (by simp)
    have hr : iRng1D (bC (D.int 3)) (eR none none none) st = .ok (rngD 0 3) st := iRng1D_int _ _ rfl hz3
    unfold bComp
    rw [hr]
    show (compL _ _ _ _ (eR none none none) st).bind _ = _
    rw [h1, bind_ok]
  rw [cons_next a1]
  -- a chain at a drawn place
  obtain ⟨v, st2, e2, v0, v1, P2⟩ := draw_of (ns := ns) (n + 3) (i := 0) (env := eR (some (.own, .lst xs)) none none) (f := bC (D.int 8)) (k := 8) ⟨by decide, by decide⟩ P1 rfl rfl
  have second : ∃ ys st3, sIf (bTst (bBin kEq (drw (interp delta (n + 4)) 8) (bC (D.int 0)))) (sSetIx 1 (drw (interp delta (n + 4)) 3) (bDef (interp delta (n + 4)) "_law_chain" [.rd] (lCons (bVarR 0) lNil))) sNil (eR (some (.own, .lst xs)) none none) st1 = .next (eR (some (.own, .lst ys)) none none) st3 ∧ Pool ns st3 ∧ ys.length = 3 ∧ ∀ y ∈ ys, IsW 19 13 y := by
    have c1 : bTst (bBin kEq (drw (interp delta (n + 4)) 8) (bC (D.int 0))) (eR (some (.own, .lst xs)) none none) st1 = .ok (decide (v = 0)) st2 := by
      rw [bTst_eq, bBin_eq]
      show rBl (R.bind (bDef _ _ _ _ _ _) _) = _
      rw [e2, bind_ok, bC_eq, bind_ok, kEq_int, rBl_bl]
    rw [sIf_eq, c1, outB_ok]
    by_cases hv : v = 0
    · obtain ⟨cw, st3, e3, P3, b3⟩ := ev_chain (ns := ns) (n + 2) (m := .rd) P2
      obtain ⟨u, st4, e4, u0, u1, P4⟩ := draw_of (ns := ns) (n + 3) (i := 0) (env := eR (some (.own, .lst xs)) none none) (f := bC (D.int 3)) (k := 3) ⟨by decide, by decide⟩ P3 rfl rfl
      obtain ⟨j, hj⟩ := setIx_st (i := 1) (fk := drw (interp delta (n + 4)) 3) (fe := bDef (interp delta (n + 4)) "_law_chain" [.rd] (lCons (bVarR 0) lNil)) (env := eR (some (.own, .lst xs)) none none) (ds := xs) e3 rfl e4 u0 (by rw [hl3]; exact u1)
      refine ⟨xs.set j (.lst (cw.map D.str)), st4, by rw [decide_eq_true hv, if_pos rfl, hj]; rfl, P4, by rw [List.length_set]; exact hl3, fun y hy => ?_⟩
      rcases List.mem_or_eq_of_mem_set hy with hy | rfl
      · exact hx y hy
      · exact ⟨cw, rfl, b3⟩
    · exact ⟨xs, st2, by rw [decide_eq_false hv, if_neg Bool.false_ne_true, sNil_eq], P2, hl3, hx⟩
  obtain ⟨ys, st3, e3, P3, hl', hy⟩ := second
  rw [cons_next e3]
  obtain ⟨a, b, c, rfl, ba, bb, bc⟩ := three hl' hy
  have la := ba.n
  have lb := bb.n
  have lc := bc.n
  obtain ⟨w, st4, e4, w0, w1, P4⟩ := draw_of (ns := ns) (n + 3) (i := 0) (env := eR (some (.own, .lst [.lst (a.map D.str), .lst (b.map D.str), .lst (c.map D.str)])) none none) (f := bC (D.int 2)) (k := 2) ⟨by decide, by decide⟩ P3 rfl rfl
  have ix0 : ∀ s3 s4 S, bBin kIx (bVarR 1) (bC (D.int 0)) (eR (some (.own, .lst [.lst (a.map D.str), .lst (b.map D.str), .lst (c.map D.str)])) s3 s4) S = .ok (.lst (a.map D.str)) S := fun s3 s4 S => by
    rw [bBin_eq]
    show R.bind (R.ok (D.lst [.lst (a.map D.str), .lst (b.map D.str), .lst (c.map D.str)]) S) _ = _
    rw [bind_ok, bC_eq, bind_ok, kIx_lst, atI_0]
  have ix1 : ∀ s3 s4 S, bBin kIx (bVarR 1) (bC (D.int 1)) (eR (some (.own, .lst [.lst (a.map D.str), .lst (b.map D.str), .lst (c.map D.str)])) s3 s4) S = .ok (.lst (b.map D.str)) S := fun s3 s4 S => by
    rw [bBin_eq]
    show R.bind (R.ok (D.lst [.lst (a.map D.str), .lst (b.map D.str), .lst (c.map D.str)]) S) _ = _
    rw [bind_ok, bC_eq, bind_ok, kIx_lst, atI_1]
  have ix2 : ∀ s3 s4 S, bBin kIx (bVarR 1) (bC (D.int 2)) (eR (some (.own, .lst [.lst (a.map D.str), .lst (b.map D.str), .lst (c.map D.str)])) s3 s4) S = .ok (.lst (c.map D.str)) S := fun s3 s4 S => by
    rw [bBin_eq]
    show R.bind (R.ok (D.lst [.lst (a.map D.str), .lst (b.map D.str), .lst (c.map D.str)]) S) _ = _
    rw [bind_ok, bC_eq, bind_ok, kIx_lst, atI_2]
  have lw : ∀ (x : Str) (E : Ev) S, bLst (lCons (bC (D.str x)) lNil) E S = .ok (.lst (([x] : List Str).map D.str)) S := fun x E S => rfl
  have c2 : bTst (bBin kEq (drw (interp delta (n + 4)) 2) (bC (D.int 0))) (eR (some (.own, .lst [.lst (a.map D.str), .lst (b.map D.str), .lst (c.map D.str)])) none none) st3 = .ok (decide (w = 0)) st4 := by
    rw [bTst_eq, bBin_eq]
    show rBl (R.bind (bDef _ _ _ _ _ _) _) = _
    rw [e4, bind_ok, bC_eq, bind_ok, kEq_int, rBl_bl]
  rw [sCons_eq, sIf_eq, c2, outB_ok]
  by_cases hw : w = 0
  · refine ⟨[("when" : Str)] ++ a ++ [("answer" : Str)] ++ b ++ c, st4, ?_, P4, ?_⟩
    · rw [decide_eq_true hw, if_pos rfl, sRet_eq, bBin_eq, bBin_eq, bBin_eq, bBin_eq, lw, bind_ok, ix0, bind_ok, kAdd_ws _ _ (by simp; omega), bind_ok, lw, bind_ok, kAdd_ws _ _ (by simp; omega), bind_ok, ix1, bind_ok, kAdd_ws _ _ (by simp; omega), bind_ok, ix2, bind_ok, kAdd_ws _ _ (by simp; omega)]
      rfl
    · exact (((((wb_one (n := 1) (w := ("when" : Str)) (by decide +kernel) (Nat.le_refl _)).app ba).app (wb_one (n := 1) (w := ("answer" : Str)) (by decide +kernel) (Nat.le_refl _))).app bb).app bc).mono (by omega) (Nat.le_refl _)
  · rw [decide_eq_false hw, if_neg Bool.false_ne_true, sNil_eq, seq_next]
    have a3 : sSet 3 (bTup (lCons (bC (D.str "c")) (lCons (bC (D.str "p")) (lCons (bC (D.str "when")) (lCons (bC (D.str "answer")) (lCons (bC (D.str "asked")) (lCons (bC (D.str "cell")) (lCons (bC (D.str "abcdefghijkl")) (lCons (bC (D.str "x9")) (lCons (bC (D.str "deep")) lNil)))))))))) (eR (some (.own, .lst [.lst (a.map D.str), .lst (b.map D.str), .lst (c.map D.str)])) none none) st4 = .next (eR (some (.own, .lst [.lst (a.map D.str), .lst (b.map D.str), .lst (c.map D.str)])) (some (.frz, .tup (namesL.map D.str))) none) st4 := rfl
    rw [cons_next a3]
    obtain ⟨os, st5, h5, P5, ol, ox⟩ := compL_st (t := tgName 2) (f := bBin kIx (bTup (lCons (bBin kIx (bVarR 3) (drw (interp delta (n + 4)) 9)) (lCons (bDef (interp delta (n + 4)) "_law_drawn_name" [.rd] (lCons (bVarR 0) lNil)) lNil))) (drw (interp delta (n + 4)) 2)) (env := eR (some (.own, .lst [.lst (a.map D.str), .lst (b.map D.str), .lst (c.map D.str)])) (some (.frz, .tup (namesL.map D.str))) none) (fun d => ∃ w : Str, d = .str w ∧ w.length ≤ 13) (Pool ns) (rngD 0 2) st4 P4 (fun d hd st hP => by
      let E : Ev := [some (.frz, .loc 0), some (.own, .lst [.lst (a.map D.str), .lst (b.map D.str), .lst (c.map D.str)]), some (.frz, d), some (.frz, .tup (namesL.map D.str)), none]
      obtain ⟨x, S1, hx, e1, Q1⟩ := one_of (ns := ns) (n + 3) (i := 0) (env := E) (k := 9) namesL (by decide) (by decide) (bVarR 3) rfl hP rfl
      obtain ⟨y, S2, e2, Q2, hy⟩ := ev_drawn_name (ns := ns) (n + 2) (m := .rd) Q1
      obtain ⟨u, S3, e3, u0, u1, Q3⟩ := draw_of (ns := ns) (n + 3) (i := 0) (env := E) (f := bC (D.int 2)) (k := 2) ⟨by decide, by decide⟩ Q2 rfl rfl
      have hb : bTup (lCons (bBin kIx (bVarR 3) (drw (interp delta (n + 4)) 9)) (lCons (bDef (interp delta (n + 4)) "_law_drawn_name" [.rd] (lCons (bVarR 0) lNil)) lNil)) E st = .ok (.tup [.str x, .str y]) S2 := by
        rw [bTup_eq, lCons_eq, e1, bind_ok, lCons_eq]
        show R.bind (R.bind (R.bind (interp delta (n + 4) "_law_drawn_name" [(.rd, .loc 0)] S1) _) _) _ = _
        rw [e2]
        rfl
      have hu : ∃ w : Str, kIx (.tup [.str x, .str y]) (.int u) S3 = .ok (.str w) S3 ∧ w.length ≤ 13 := by
        have : u = 0 ∨ u = 1 := by omega
        rcases this with rfl | rfl
        · exact ⟨x, kIx_tup_of atI_0, names_l x hx⟩
        · exact ⟨y, kIx_tup_of atI_1, hy⟩
      obtain ⟨w, hw, hwl⟩ := hu
      refine ⟨E, .str w, S3, rfl, ?_, ⟨w, rfl, hwl⟩, Q3⟩
      rw [bBin_eq, hb, bind_ok]
      show R.bind (bDef _ _ _ _ _ _) _ = _
      rw [e3, bind_ok, hw])
    have hl2 : os.length = 2 := by rw [ol]; rfl
    obtain ⟨o1, o2, rfl, w1, w2⟩ : ∃ o1 o2 : Str, os = [.str o1, .str o2] ∧ o1.length ≤ 13 ∧ o2.length ≤ 13 := by
      match os, hl2, ox with
      | [x, y], _, ox =>
        obtain ⟨o1, rfl, w1⟩ := ox x (by simp)
        obtain ⟨o2, rfl, w2⟩ := ox y (by simp)
        exact ⟨o1, o2, rfl, w1, w2⟩
    have hz2 : (2 : Int) ≤ sizeLine ∧ -(2 ^ 62) ≤ (2 : Int) := by have := sz6; exact ⟨by omega, by omega⟩
    have a4 : sSet 4 (bComp [2] (iRng1D (bC (D.int 2))) (tgName 2) cYes (bBin kIx (bTup (lCons (bBin kIx (bVarR 3) (drw (interp delta (n + 4)) 9)) (lCons (bDef (interp delta (n + 4)) "_law_drawn_name" [.rd] (lCons (bVarR 0) lNil)) lNil))) (drw (interp delta (n + 4)) 2))) (eR (some (.own, .lst [.lst (a.map D.str), .lst (b.map D.str), .lst (c.map D.str)])) (some (.frz, .tup (namesL.map D.str))) none) st4 = .next (eR (some (.own, .lst [.lst (a.map D.str), .lst (b.map D.str), .lst (c.map D.str)])) (some (.frz, .tup (namesL.map D.str))) (some (.own, .lst [.str o1, .str o2]))) st5 := by
      refine setF_next (d := .lst [.str o1, .str o2]) ?_ (by simp)
      have hr : iRng1D (bC (D.int 2)) (eR (some (.own, .lst [.lst (a.map D.str), .lst (b.map D.str), .lst (c.map D.str)])) (some (.frz, .tup (namesL.map D.str))) none) st4 = .ok (rngD 0 2) st4 := iRng1D_int _ _ rfl hz2
      unfold bComp
      rw [hr]
      show (compL _ _ _ _ (eR (some (.own, .lst [.lst (a.map D.str), .lst (b.map D.str), .lst (c.map D.str)])) (some (.frz, .tup (namesL.map D.str))) none) st4).bind _ = _
      rw [h5, bind_ok]
    rw [cons_next a4]
    refine ⟨[("when" : Str)] ++ a ++ [("call" : Str)] ++ [o1, o2] ++ b ++ c, st5, ?_, P5, ?_⟩
    · have v4 : ∀ S, bVarR 4 (eR (some (.own, .lst [.lst (a.map D.str), .lst (b.map D.str), .lst (c.map D.str)])) (some (.frz, .tup (namesL.map D.str))) (some (.own, .lst [.str o1, .str o2]))) S = .ok (.lst (([o1, o2] : List Str).map D.str)) S := fun S => rfl
      rw [sRet_eq, bBin_eq, bBin_eq, bBin_eq, bBin_eq, bBin_eq, lw, bind_ok, ix0, bind_ok, kAdd_ws _ _ (by simp; omega), bind_ok, lw, bind_ok, kAdd_ws _ _ (by simp; omega), bind_ok, v4, bind_ok, kAdd_ws _ _ (by simp; omega), bind_ok, ix1, bind_ok, kAdd_ws _ _ (by simp; omega), bind_ok, ix2, bind_ok, kAdd_ws _ _ (by simp; omega)]
      rfl
    · have b12 : WB 2 13 [o1, o2] := ⟨Nat.le_refl _, fun w hw => by
        rcases List.mem_cons.mp hw with rfl | hw
        · exact w1
        · rw [List.mem_singleton.mp hw]; exact w2⟩
      exact ((((((wb_one (n := 1) (w := ("when" : Str)) (by decide +kernel) (Nat.le_refl _)).app ba).app (wb_one (n := 1) (w := ("call" : Str)) (by decide +kernel) (Nat.le_refl _))).app b12).app bb).app bc).mono (by omega) (Nat.le_refl _)
end K35

namespace K35
open PySem L2 NC
/-! ### changes -/
theorem sl_take {f : F} {hi : F} {env : Ev} {st : Sto} (ws : List Str) (p : Nat) (hf : f env st = .ok (.lst (ws.map D.str)) st) (hh : hi env st = .ok (.int (p : Nat)) st) : bSl f oNone (oSome hi) env st = .ok (.lst ((ws.take p).map D.str)) st := by
  rw [bSl_eq, hf, bind_ok, oNone_eq, bind_ok, oSome_eq, hh, bind_ok, toO_int, bind_ok, kSl_lst, cut_takeM]
theorem sl_drop {f : F} {lo : F} {env : Ev} {st : Sto} (ws : List Str) (p : Nat) (hf : f env st = .ok (.lst (ws.map D.str)) st) (hh : lo env st = .ok (.int (p : Nat)) st) : bSl f (oSome lo) oNone env st = .ok (.lst ((ws.drop p).map D.str)) st := by
  rw [bSl_eq, hf, bind_ok, oSome_eq, hh, bind_ok, toO_int, bind_ok, oNone_eq, bind_ok, kSl_lst, cut_dropM]
theorem cut1_ws (ws : List Str) (p : Nat) : ∃ vs : List Str, cutD (ws.map D.str) (some (p : Int)) (some ((p + 1 : Nat) : Int)) = vs.map D.str ∧ vs.length ≤ 1 ∧ ∀ w ∈ vs, w ∈ ws := by
  refine ⟨(ws.drop (min p ws.length)).take (min (p + 1) ws.length - min p ws.length), ?_, ?_, fun w hw => List.mem_of_mem_drop (List.mem_of_mem_take hw)⟩
  · unfold cutD
    rw [List.length_map, HT.sIx_nat, HT.sIx_nat, ← List.map_drop, ← List.map_take]
  · rw [List.length_take, List.length_drop]; omega
theorem sl_one {f lo hi : F} {env : Ev} {st : Sto} (ws : List Str) (p : Nat) (hf : f env st = .ok (.lst (ws.map D.str)) st) (hl : lo env st = .ok (.int (p : Nat)) st) (hh : hi env st = .ok (.int ((p + 1 : Nat))) st) : ∃ vs : List Str, bSl f (oSome lo) (oSome hi) env st = .ok (.lst (vs.map D.str)) st ∧ vs.length ≤ 1 ∧ ∀ w ∈ vs, w ∈ ws := by
  obtain ⟨vs, h1, h2, h3⟩ := cut1_ws ws p
  exact ⟨vs, by rw [bSl_eq, hf, bind_ok, oSome_eq, hl, bind_ok, toO_int, bind_ok, oSome_eq, hh, bind_ok, toO_int, bind_ok, kSl_lst, h1], h2, h3⟩
abbrev eC (fl : Fl) (ws : List Str) (s2 s3 s4 s5 s6 s7 s8 : Slot) : Ev := [some (.frz, .loc 0), some (fl, .lst (ws.map D.str)), s2, s3, s4, s5, s6, s7, s8]
abbrev drwL (cl : Calls) : F := bDef cl "_law_draw" [.rd, .rd] (lCons (bVarR 0) (lCons (bBin kAdd (bCall kLen (lCons (bVarR 1) lNil)) (bC (D.int 1))) lNil))
def sgnS : Str := "!\"#$&'()*+,-./0123456789:;<=>?@AZ[]^_`abcdefghijklmnopqrstuvwxyz{|}~ \n\t"
theorem sgn_len : sgnS.length ≤ 1000 ∧ 0 < sgnS.length := by decide +kernel
theorem take_drop_wb {N L p q : Nat} {ws mid : List Str} (h : WB N L ws) (hm : WB (N + 1) (2 * L + 1) mid) (hpq : p ≤ q) : WB (2 * N + 1) (2 * L + 1) (ws.take p ++ mid ++ ws.drop q) := by
  refine ⟨?_, fun w hw => ?_⟩
  · have h1 := h.n
    have h2 := hm.n
    simp only [List.length_append, List.length_take, List.length_drop]
    omega
  · rcases List.mem_append.mp hw with hw | hw
    · rcases List.mem_append.mp hw with hw | hw
      · have := h.l w (List.mem_of_mem_take hw); omega
      · exact hm.l w hw
    · have := h.l w (List.mem_of_mem_drop hw); omega
theorem turn_changed {ns : List Int} (n : Nat) {N L : Nat} {ws : List Str} (b : WB N L ws) (hN : N ≤ 5000) (hL : L ≤ 1000) (h13 : 13 ≤ L) (fl : Fl) (hfl : fl ≠ .exc) (s2 s3 s4 s5 s6 s7 s8 : Slot) {st : Sto} (hP : Pool ns st) :
    ∃ vs t3 t4 t5 t6 t7 t8 st', lb_law_changed_0 (interp delta (n + 3)) (eC fl ws s2 s3 s4 s5 s6 s7 s8) st = .next (eC .own vs s2 t3 t4 t5 t6 t7 t8) st' ∧ Pool ns st' ∧ WB (2 * N + 1) (2 * L + 1) vs := by
  have lw := b.n
  have v0 : ∀ s3 s4 s5 s6 s7 s8 S, bVarR 0 (eC fl ws s2 s3 s4 s5 s6 s7 s8) S = .ok (.loc 0) S := fun _ _ _ _ _ _ S => rfl
  have v1 : ∀ s3 s4 s5 s6 s7 s8 S, bVarR 1 (eC fl ws s2 s3 s4 s5 s6 s7 s8) S = .ok (.lst (ws.map D.str)) S := fun _ _ _ _ _ _ S => bVarR_of hfl rfl
  have hlen : ∀ s3 s4 s5 s6 s7 s8 S, bBin kAdd (bCall kLen (lCons (bVarR 1) lNil)) (bC (D.int 1)) (eC fl ws s2 s3 s4 s5 s6 s7 s8) S = .ok (.int ((ws.length + 1 : Nat))) S := fun s3 s4 s5 s6 s7 s8 S => by
    rw [bBin_eq, bCall_eq, lCons_eq, v1, bind_ok, lNil_eq, bind_ok, bind_ok, kLen_lst, List.length_map, bind_ok, bC_eq, bind_ok, kAdd_int]
    rfl
  obtain ⟨p, st1, e1, p0, p1, P1⟩ := draw_of (ns := ns) (n + 2) (i := 0) (k := ((ws.length + 1 : Nat))) ⟨by omega, by omega⟩ hP (v0 s3 s4 s5 s6 s7 s8 st) (hlen s3 s4 s5 s6 s7 s8 st)
  obtain ⟨p, rfl⟩ := Int.eq_ofNat_of_zero_le p0
  have a1 : sAsg (tgName 3) (drwL (interp delta (n + 3))) (eC fl ws s2 s3 s4 s5 s6 s7 s8) st = .next (eC fl ws s2 (some (.frz, .int (p : Nat))) s4 s5 s6 s7 s8) st1 := asg_of e1 (by simp)
  obtain ⟨o, st2, e2, o0, o1, P2⟩ := draw_of (ns := ns) (n + 2) (i := 0) (k := ((ws.length + 1 : Nat))) ⟨by omega, by omega⟩ P1 (v0 (some (.frz, .int (p : Nat))) s4 s5 s6 s7 s8 st1) (hlen (some (.frz, .int (p : Nat))) s4 s5 s6 s7 s8 st1)
  obtain ⟨o, rfl⟩ := Int.eq_ofNat_of_zero_le o0
  have a2 : sAsg (tgName 4) (drwL (interp delta (n + 3))) (eC fl ws s2 (some (.frz, .int (p : Nat))) s4 s5 s6 s7 s8) st1 = .next (eC fl ws s2 (some (.frz, .int (p : Nat))) (some (.frz, .int (o : Nat))) s5 s6 s7 s8) st2 := asg_of e2 (by simp)
  obtain ⟨y, st3, e3, y0, y1, P3⟩ := draw_of (ns := ns) (n + 2) (i := 0) (f := bC (D.int 5)) (k := 5) ⟨by decide, by decide⟩ P2 (v0 (some (.frz, .int (p : Nat))) (some (.frz, .int (o : Nat))) s5 s6 s7 s8 st2) rfl
  have a3 : sAsg (tgName 5) (drw (interp delta (n + 3)) 5) (eC fl ws s2 (some (.frz, .int (p : Nat))) (some (.frz, .int (o : Nat))) s5 s6 s7 s8) st2 = .next (eC fl ws s2 (some (.frz, .int (p : Nat))) (some (.frz, .int (o : Nat))) (some (.frz, .int y)) s6 s7 s8) st3 := asg_of e3 (by simp)
  have hpl : p ≤ ws.length := by omega
  -- readings of the slots
  have r3 : ∀ s6 s7 s8 S, bVarR 3 (eC fl ws s2 (some (.frz, .int (p : Nat))) (some (.frz, .int (o : Nat))) (some (.frz, .int y)) s6 s7 s8) S = .ok (.int (p : Nat)) S := fun _ _ _ S => rfl
  have r3s : ∀ s6 s7 s8 S, bBin kAdd (bVarR 3) (bC (D.int 1)) (eC fl ws s2 (some (.frz, .int (p : Nat))) (some (.frz, .int (o : Nat))) (some (.frz, .int y)) s6 s7 s8) S = .ok (.int ((p + 1 : Nat))) S := fun _ _ _ S => rfl
  have r4 : ∀ s6 s7 s8 S, bVarR 4 (eC fl ws s2 (some (.frz, .int (p : Nat))) (some (.frz, .int (o : Nat))) (some (.frz, .int y)) s6 s7 s8) S = .ok (.int (o : Nat)) S := fun _ _ _ S => rfl
  have r4s : ∀ s6 s7 s8 S, bBin kAdd (bVarR 4) (bC (D.int 1)) (eC fl ws s2 (some (.frz, .int (p : Nat))) (some (.frz, .int (o : Nat))) (some (.frz, .int y)) s6 s7 s8) S = .ok (.int ((o + 1 : Nat))) S := fun _ _ _ S => rfl
  have w1 : ∀ s6 s7 s8 S, bVarR 1 (eC fl ws s2 (some (.frz, .int (p : Nat))) (some (.frz, .int (o : Nat))) (some (.frz, .int y)) s6 s7 s8) S = .ok (.lst (ws.map D.str)) S := fun _ _ _ S => bVarR_of hfl rfl
  have cnd : ∀ (k : Int) S, bTst (bBin kEq (bVarR 5) (bC (D.int k))) (eC fl ws s2 (some (.frz, .int (p : Nat))) (some (.frz, .int (o : Nat))) (some (.frz, .int y)) s6 s7 s8) S = .ok (decide (y = k)) S := fun k S => rfl
  have tk := fun s6 s7 s8 S => sl_take ws p (w1 s6 s7 s8 S) (r3 s6 s7 s8 S)
  have dr1 := fun s6 s7 s8 S => sl_drop ws (p + 1) (w1 s6 s7 s8 S) (r3s s6 s7 s8 S)
  have dr0 := fun s6 s7 s8 S => sl_drop ws p (w1 s6 s7 s8 S) (r3 s6 s7 s8 S)
  have hsum : ∀ (mid : List Str) (q : Nat), (ws.take p).length + mid.length ≤ 5000 + mid.length ∧ (ws.take p ++ mid).length + (ws.drop q).length ≤ 10000 + mid.length := fun mid q => by
    simp only [List.length_append, List.length_take, List.length_drop]; omega
  unfold lb_law_changed_0
  rw [cons_next a1, cons_next a2, cons_next a3, sIf_eq, cnd, outB_ok]
  have menu3 : ∀ (S : Sto), Pool ns S → ∃ w S', bLst (lCons (bDef (interp delta (n + 3)) "_law_menu" [.rd] (lCons (bVarR 0) lNil)) lNil) (eC fl ws s2 (some (.frz, .int (p : Nat))) (some (.frz, .int (o : Nat))) (some (.frz, .int y)) s6 s7 s8) S = .ok (.lst (([w] : List Str).map D.str)) S' ∧ Pool ns S' ∧ w.length ≤ 13 := fun S hS => by
    obtain ⟨w, S', h, P, hw⟩ := ev_menu (ns := ns) (n + 1) (m := .rd) hS
    refine ⟨w, S', ?_, P, hw⟩
    rw [bLst_eq, lCons_eq]
    show R.bind (R.bind (interp delta (n + 3) "_law_menu" [(.rd, .loc 0)] S) _) _ = _
    rw [h]
    rfl
  by_cases h0 : y = 0
  · refine ⟨ws.take p ++ [] ++ ws.drop (p + 1), some (.frz, .int (p : Nat)), some (.frz, .int (o : Nat)), some (.frz, .int y), s6, s7, s8, st3, ?_, P3, take_drop_wb b wb_nil (by omega)⟩
    rw [decide_eq_true h0, if_pos rfl, List.append_nil]
    exact setF_next (d := .lst ((ws.take p ++ ws.drop (p + 1)).map D.str)) (by rw [bBin_eq, tk, bind_ok, dr1, bind_ok, kAdd_ws _ _ (by simp; omega)]) (by simp)
  rw [decide_eq_false h0, if_neg Bool.false_ne_true, sIf_eq, cnd, outB_ok]
  by_cases h1 : y = 1
  · obtain ⟨w, S', hm, P4, hw⟩ := menu3 st3 P3
    refine ⟨ws.take p ++ [w] ++ ws.drop p, some (.frz, .int (p : Nat)), some (.frz, .int (o : Nat)), some (.frz, .int y), s6, s7, s8, S', ?_, P4, take_drop_wb b (wb_one (by omega) (by omega)) (Nat.le_refl _)⟩
    rw [decide_eq_true h1, if_pos rfl]
    exact setF_next (d := .lst ((ws.take p ++ [w] ++ ws.drop p).map D.str)) (by rw [bBin_eq, bBin_eq, tk, bind_ok, hm, bind_ok, kAdd_ws _ _ (by simp; omega), bind_ok, dr0, bind_ok, kAdd_ws _ _ (by simp; omega)]) (by simp)
  rw [decide_eq_false h1, if_neg Bool.false_ne_true, sIf_eq, cnd, outB_ok]
  by_cases h2 : y = 2
  · obtain ⟨vs, hv, hv1, hv2⟩ := sl_one ws o (w1 s6 s7 s8 st3) (r4 s6 s7 s8 st3) (r4s s6 s7 s8 st3)
    refine ⟨ws.take p ++ vs ++ ws.drop (p + 1), some (.frz, .int (p : Nat)), some (.frz, .int (o : Nat)), some (.frz, .int y), s6, s7, s8, st3, ?_, P3, take_drop_wb b ⟨by omega, fun w hw => by have := b.l w (hv2 w hw); omega⟩ (by omega)⟩
    rw [decide_eq_true h2, if_pos rfl]
    exact setF_next (d := .lst ((ws.take p ++ vs ++ ws.drop (p + 1)).map D.str)) (by rw [bBin_eq, bBin_eq, tk, bind_ok, hv, bind_ok, kAdd_ws _ _ (by simp; omega), bind_ok, dr1, bind_ok, kAdd_ws _ _ (by simp; omega)]) (by simp)
  rw [decide_eq_false h2, if_neg Bool.false_ne_true, sIf_eq, cnd, outB_ok]
  by_cases h3 : y = 3
  · obtain ⟨vs, hv, hv1, hv2⟩ := sl_one ws p (w1 s6 s7 s8 st3) (r3 s6 s7 s8 st3) (r3s s6 s7 s8 st3)
    have bv : WB 1 L vs := ⟨hv1, fun w hw => b.l w (hv2 w hw)⟩
    have hjl := join0_len bv
    have h00 : ("" : Str).length = 0 := by decide +kernel
    have hj : kJoin (.str "") (.lst (vs.map D.str)) st3 = .ok (.str (Txt.join ("" : Str) vs)) st3 := kJoin_map _ _ (by
      have := bv.sum
      rw [h00]
      omega)
    generalize Txt.join ("" : Str) vs = w at hj hjl
    have b1 : sSet 6 (bMethS kJoin (bC (D.str "")) (bSl (bVarR 1) (oSome (bVarR 3)) (oSome (bBin kAdd (bVarR 3) (bC (D.int 1)))))) (eC fl ws s2 (some (.frz, .int (p : Nat))) (some (.frz, .int (o : Nat))) (some (.frz, .int y)) s6 s7 s8) st3 = .next (eC fl ws s2 (some (.frz, .int (p : Nat))) (some (.frz, .int (o : Nat))) (some (.frz, .int y)) (some (.frz, .str w)) s7 s8) st3 := setF_next (d := .str w) (by rw [bMethS_eq _ _ _ _ (bC_eq _), hv, bind_ok, hj]) (by simp)
    have hz : w.length ≤ sizeLine := szM (by omega)
    obtain ⟨q, st4, e4, q0, q1, P4⟩ := draw_of (ns := ns) (n + 2) (i := 0) (f := bBin kAdd (bCall kLen (lCons (bVarR 6) lNil)) (bC (D.int 1))) (env := eC fl ws s2 (some (.frz, .int (p : Nat))) (some (.frz, .int (o : Nat))) (some (.frz, .int y)) (some (.frz, .str w)) s7 s8) (k := ((w.length : Nat) : Int) + 1) ⟨by omega, by omega⟩ P3 rfl (by
      rw [bBin_eq, bCall_eq, lCons_eq]
      show R.bind (R.bind (R.bind (R.ok (D.str w) st3) _) _) _ = _
      rw [bind_ok, lNil_eq, bind_ok, bind_ok, kLen_str, if_pos hz]
      rfl)
    have b2 : sAsg (tgName 7) (bDef (interp delta (n + 3)) "_law_draw" [.rd, .rd] (lCons (bVarR 0) (lCons (bBin kAdd (bCall kLen (lCons (bVarR 6) lNil)) (bC (D.int 1))) lNil))) (eC fl ws s2 (some (.frz, .int (p : Nat))) (some (.frz, .int (o : Nat))) (some (.frz, .int y)) (some (.frz, .str w)) s7 s8) st3 = .next (eC fl ws s2 (some (.frz, .int (p : Nat))) (some (.frz, .int (o : Nat))) (some (.frz, .int y)) (some (.frz, .str w)) (some (.frz, .int q)) s8) st4 := asg_of e4 (by simp)
    have b3 : sSet 8 (bC (D.str "!\"#$&'()*+,-./0123456789:;<=>?@AZ[]^_`abcdefghijklmnopqrstuvwxyz{|}~ \n\t")) (eC fl ws s2 (some (.frz, .int (p : Nat))) (some (.frz, .int (o : Nat))) (some (.frz, .int y)) (some (.frz, .str w)) (some (.frz, .int q)) s8) st4 = .next (eC fl ws s2 (some (.frz, .int (p : Nat))) (some (.frz, .int (o : Nat))) (some (.frz, .int y)) (some (.frz, .str w)) (some (.frz, .int q)) (some (.frz, .str sgnS))) st4 := rfl
    have hsz : sgnS.length ≤ sizeLine := szM (by have := sgn_len.1; omega)
    obtain ⟨u, st5, e5, u0, u1, P5⟩ := draw_of (ns := ns) (n + 2) (i := 0) (f := bCall kLen (lCons (bVarR 8) lNil)) (env := eC fl ws s2 (some (.frz, .int (p : Nat))) (some (.frz, .int (o : Nat))) (some (.frz, .int y)) (some (.frz, .str w)) (some (.frz, .int q)) (some (.frz, .str sgnS))) (k := (sgnS.length : Nat)) ⟨by have := sgn_len.2; omega, by have := sgn_len.1; omega⟩ P4 rfl (by
      rw [bCall_eq, lCons_eq]
      show R.bind (R.bind (R.ok (D.str sgnS) st4) _) _ = _
      rw [bind_ok, lNil_eq, bind_ok, bind_ok, kLen_str, if_pos hsz])
    obtain ⟨c, hci, _⟩ := kIx_str_in (z := sgnS) (i := u) (st := st5) hsz u0 u1
    obtain ⟨x, st6, e6, x0, x1, P6⟩ := draw_of (ns := ns) (n + 2) (i := 0) (f := bC (D.int 2)) (env := eC fl ws s2 (some (.frz, .int (p : Nat))) (some (.frz, .int (o : Nat))) (some (.frz, .int y)) (some (.frz, .str w)) (some (.frz, .int q)) (some (.frz, .str sgnS))) (k := 2) ⟨by decide, by decide⟩ P5 rfl rfl
    have l1 := cutS_length w none (some q)
    have l2 := cutS_length w (some (q + x)) none
    have b4 : ∃ z : Str, z.length ≤ 2 * L + 1 ∧ sSet 6 (bBin kAdd (bBin kAdd (bSl (bVarR 6) oNone (oSome (bVarR 7))) (bBin kIx (bVarR 8) (bDef (interp delta (n + 3)) "_law_draw" [.rd, .rd] (lCons (bVarR 0) (lCons (bCall kLen (lCons (bVarR 8) lNil)) lNil))))) (bSl (bVarR 6) (oSome (bBin kAdd (bVarR 7) (drw (interp delta (n + 3)) 2))) oNone)) (eC fl ws s2 (some (.frz, .int (p : Nat))) (some (.frz, .int (o : Nat))) (some (.frz, .int y)) (some (.frz, .str w)) (some (.frz, .int q)) (some (.frz, .str sgnS))) st4 = .next (eC fl ws s2 (some (.frz, .int (p : Nat))) (some (.frz, .int (o : Nat))) (some (.frz, .int y)) (some (.frz, .str z)) (some (.frz, .int q)) (some (.frz, .str sgnS))) st6 := by
      have q6 : ∀ S, bVarR 6 (eC fl ws s2 (some (.frz, .int (p : Nat))) (some (.frz, .int (o : Nat))) (some (.frz, .int y)) (some (.frz, .str w)) (some (.frz, .int q)) (some (.frz, .str sgnS))) S = .ok (.str w) S := fun S => rfl
      have q7 : ∀ S, bVarR 7 (eC fl ws s2 (some (.frz, .int (p : Nat))) (some (.frz, .int (o : Nat))) (some (.frz, .int y)) (some (.frz, .str w)) (some (.frz, .int q)) (some (.frz, .str sgnS))) S = .ok (.int q) S := fun S => rfl
      have q8 : ∀ S, bVarR 8 (eC fl ws s2 (some (.frz, .int (p : Nat))) (some (.frz, .int (o : Nat))) (some (.frz, .int y)) (some (.frz, .str w)) (some (.frz, .int q)) (some (.frz, .str sgnS))) S = .ok (.str sgnS) S := fun S => rfl
      have f1 : (cutS w none (some q)).length + (ch c).length ≤ 1000000 := by
        show _ + 1 ≤ _
        omega
      have f2 : (cutS w none (some q) ++ ch c).length = (cutS w none (some q)).length + 1 := by
        rw [TL.len_tl, TL.tl_append, List.length_append, ← TL.len_tl]; rfl
      have f3 : (cutS w none (some q) ++ ch c ++ cutS w (some (q + x)) none).length = (cutS w none (some q)).length + 1 + (cutS w (some (q + x)) none).length := by
        rw [TL.len_tl, TL.tl_append, List.length_append, ← TL.len_tl, ← TL.len_tl, f2]
      refine ⟨cutS w none (some q) ++ ch c ++ cutS w (some (q + x)) none, by omega, setF_next (d := .str (cutS w none (some q) ++ ch c ++ cutS w (some (q + x)) none)) ?_ (by simp)⟩
      have g1 : bSl (bVarR 6) oNone (oSome (bVarR 7)) (eC fl ws s2 (some (.frz, .int (p : Nat))) (some (.frz, .int (o : Nat))) (some (.frz, .int y)) (some (.frz, .str w)) (some (.frz, .int q)) (some (.frz, .str sgnS))) st4 = .ok (.str (cutS w none (some q))) st4 := by
        rw [bSl_eq, q6, bind_ok, oNone_eq, bind_ok, oSome_eq, q7, bind_ok, toO_int, bind_ok, kSl_str, if_pos hz]
      have g2 : bBin kIx (bVarR 8) (bDef (interp delta (n + 3)) "_law_draw" [.rd, .rd] (lCons (bVarR 0) (lCons (bCall kLen (lCons (bVarR 8) lNil)) lNil))) (eC fl ws s2 (some (.frz, .int (p : Nat))) (some (.frz, .int (o : Nat))) (some (.frz, .int y)) (some (.frz, .str w)) (some (.frz, .int q)) (some (.frz, .str sgnS))) st4 = .ok (.str (ch c)) st5 := by
        rw [bBin_eq, q8, bind_ok, e5, bind_ok, hci]
      have g3 : bSl (bVarR 6) (oSome (bBin kAdd (bVarR 7) (drw (interp delta (n + 3)) 2))) oNone (eC fl ws s2 (some (.frz, .int (p : Nat))) (some (.frz, .int (o : Nat))) (some (.frz, .int y)) (some (.frz, .str w)) (some (.frz, .int q)) (some (.frz, .str sgnS))) st5 = .ok (.str (cutS w (some (q + x)) none)) st6 := by
        rw [bSl_eq, q6, bind_ok, oSome_eq, bBin_eq, q7, bind_ok]
        show R.bind (R.bind (R.bind (bDef _ _ _ _ _ _) _) _) _ = _
        rw [e6, bind_ok, kAdd_int, bind_ok, toO_int, bind_ok, oNone_eq, bind_ok, kSl_str, if_pos hz]
      rw [bBin_eq, bBin_eq, g1, bind_ok, g2, bind_ok, kAdd_str, if_pos (szM f1), bind_ok, g3, bind_ok, kAdd_str, if_pos (szM (by omega))]
    obtain ⟨z, hzl, b4⟩ := b4
    have q9 : ∀ S, bVarR 1 (eC fl ws s2 (some (.frz, .int (p : Nat))) (some (.frz, .int (o : Nat))) (some (.frz, .int y)) (some (.frz, .str z)) (some (.frz, .int q)) (some (.frz, .str sgnS))) S = .ok (.lst (ws.map D.str)) S := fun S => bVarR_of hfl rfl
    have tk' := sl_take ws p (w1 (some (.frz, .str z)) (some (.frz, .int q)) (some (.frz, .str sgnS)) st6) (r3 (some (.frz, .str z)) (some (.frz, .int q)) (some (.frz, .str sgnS)) st6)
    have dr' := sl_drop ws (p + 1) (w1 (some (.frz, .str z)) (some (.frz, .int q)) (some (.frz, .str sgnS)) st6) (r3s (some (.frz, .str z)) (some (.frz, .int q)) (some (.frz, .str sgnS)) st6)
    have b5 : sFrz [6] (sSet 1 (bBin kAdd (bBin kAdd (bSl (bVarR 1) oNone (oSome (bVarR 3))) (bLst (lCons (bVar 6) lNil))) (bSl (bVarR 1) (oSome (bBin kAdd (bVarR 3) (bC (D.int 1)))) oNone))) (eC fl ws s2 (some (.frz, .int (p : Nat))) (some (.frz, .int (o : Nat))) (some (.frz, .int y)) (some (.frz, .str z)) (some (.frz, .int q)) (some (.frz, .str sgnS))) st6 = .next (eC .own (ws.take p ++ [z] ++ ws.drop (p + 1)) s2 (some (.frz, .int (p : Nat))) (some (.frz, .int (o : Nat))) (some (.frz, .int y)) (some (.frz, .str z)) (some (.frz, .int q)) (some (.frz, .str sgnS))) st6 := by
      rw [sFrz_eq]
      refine setF_next (env := eC fl ws s2 (some (.frz, .int (p : Nat))) (some (.frz, .int (o : Nat))) (some (.frz, .int y)) (some (.frz, .str z)) (some (.frz, .int q)) (some (.frz, .str sgnS))) (d := .lst ((ws.take p ++ [z] ++ ws.drop (p + 1)).map D.str)) ?_ (by simp)
      have g4 : bLst (lCons (bVar 6) lNil) (eC fl ws s2 (some (.frz, .int (p : Nat))) (some (.frz, .int (o : Nat))) (some (.frz, .int y)) (some (.frz, .str z)) (some (.frz, .int q)) (some (.frz, .str sgnS))) st6 = .ok (.lst (([z] : List Str).map D.str)) st6 := rfl
      rw [bBin_eq, bBin_eq, tk', bind_ok, g4, bind_ok, kAdd_ws _ _ (by simp; omega), bind_ok, dr', bind_ok, kAdd_ws _ _ (by simp; omega)]
    refine ⟨ws.take p ++ [z] ++ ws.drop (p + 1), some (.frz, .int (p : Nat)), some (.frz, .int (o : Nat)), some (.frz, .int y), some (.frz, .str z), some (.frz, .int q), some (.frz, .str sgnS), st6, ?_, P6, take_drop_wb b (wb_one hzl (by omega)) (by omega)⟩
    rw [decide_eq_true h3, if_pos rfl, cons_next b1, cons_next b2, cons_next b3, cons_next b4, b5]
  rw [decide_eq_false h3, if_neg Bool.false_ne_true]
  obtain ⟨w, S', hm, P4, hw⟩ := menu3 st3 P3
  refine ⟨ws.take p ++ [w] ++ ws.drop (p + 1), some (.frz, .int (p : Nat)), some (.frz, .int (o : Nat)), some (.frz, .int y), s6, s7, s8, S', ?_, P4, take_drop_wb b (wb_one (by omega) (by omega)) (by omega)⟩
  exact setF_next (d := .lst ((ws.take p ++ [w] ++ ws.drop (p + 1)).map D.str)) (by rw [bBin_eq, bBin_eq, tk, bind_ok, hm, bind_ok, kAdd_ws _ _ (by simp; omega), bind_ok, dr1, bind_ok, kAdd_ws _ _ (by simp; omega)]) (by simp)
theorem ev_changed {ns : List Int} (n : Nat) {m : Md} {ws : List Str} (b : WB 305 13 ws) {st : Sto} (hP : Pool ns st) : ∃ vs st', interp delta (n + 4) "_law_changed" [(m, .loc 0), (.esc, .lst (ws.map D.str))] st = .ok (.lst (vs.map D.str)) st' ∧ Pool ns st' ∧ WB 2447 111 vs := by
  rw [run_law_changed, slotA_loc]
  obtain ⟨v, st1, e1, v0, v1, P1⟩ := draw_of (ns := ns) (n + 2) (i := 0) (f := bC (D.int 4)) (k := 4) (env := eC .frz ws none none none none none none none) ⟨by decide, by decide⟩ hP rfl rfl
  obtain ⟨k, rfl⟩ := Int.eq_ofNat_of_zero_le v0
  have loop : ∀ (ds : List D) (j N L : Nat) (fl : Fl) (ws : List Str) (s2 s3 s4 s5 s6 s7 s8 : Slot) (st : Sto), ds.length = j → 13 ≤ L → fl = .frz ∨ fl = .own → WB N L ws → (N + 1) * 2 ^ j ≤ 2448 → (L + 1) * 2 ^ j ≤ 112 → Pool ns st → ∃ fl' vs t2 t3 t4 t5 t6 t7 t8 st', forL (tgName 2) (lb_law_changed_0 (interp delta (n + 3))) ds (eC fl ws s2 s3 s4 s5 s6 s7 s8) st = .next (eC fl' vs t2 t3 t4 t5 t6 t7 t8) st' ∧ (fl' = .frz ∨ fl' = .own) ∧ Pool ns st' ∧ WB 2447 111 vs := by
    intro ds
    induction ds with
    | nil =>
      intro j N L fl ws s2 s3 s4 s5 s6 s7 s8 st hj h13 hfl b hN hL hP
      subst hj
      exact ⟨fl, ws, s2, s3, s4, s5, s6, s7, s8, st, rfl, hfl, hP, b.mono (by simp at hN; omega) (by simp at hL; omega)⟩
    | cons d ds ih =>
      intro j N L fl ws s2 s3 s4 s5 s6 s7 s8 st hj h13 hfl b hN hL hP
      obtain ⟨j, rfl⟩ : ∃ i, j = i + 1 := ⟨ds.length, by simpa using hj.symm⟩
      have p1 : 1 ≤ 2 ^ j := Nat.one_le_two_pow
      rw [Nat.pow_succ] at hN hL
      have hN2 : (2 * N + 1 + 1) * 2 ^ j = (N + 1) * (2 ^ j * 2) := by
        rw [show 2 * N + 1 + 1 = (N + 1) * 2 by omega, Nat.mul_assoc, Nat.mul_comm 2 (2 ^ j)]
      have hL2 : (2 * L + 1 + 1) * 2 ^ j = (L + 1) * (2 ^ j * 2) := by
        rw [show 2 * L + 1 + 1 = (L + 1) * 2 by omega, Nat.mul_assoc, Nat.mul_comm 2 (2 ^ j)]
      have hNb : N + 1 ≤ 2448 := by
        have : (N + 1) * 1 ≤ (N + 1) * (2 ^ j * 2) := Nat.mul_le_mul_left _ (by omega)
        omega
      have hLb : L + 1 ≤ 112 := by
        have : (L + 1) * 1 ≤ (L + 1) * (2 ^ j * 2) := Nat.mul_le_mul_left _ (by omega)
        omega
      obtain ⟨vs, t3, t4, t5, t6, t7, t8, st', h, P, bv⟩ := turn_changed (ns := ns) n b (by omega) (by omega) h13 fl (by rcases hfl with rfl | rfl <;> decide) (some (.frz, d)) s3 s4 s5 s6 s7 s8 hP
      rw [forL_cons (env1 := eC fl ws (some (.frz, d)) s3 s4 s5 s6 s7 s8) rfl, h, turn_next]
      exact ih j (2 * N + 1) (2 * L + 1) .own vs _ t3 t4 t5 t6 t7 t8 st' (by simpa using hj) (by omega) (.inr rfl) bv (by rw [hN2]; exact hN) (by rw [hL2]; exact hL) P
  have hr : iRng1D (drw (interp delta (n + 3)) 4) (eC .frz ws none none none none none none none) st = .ok (rngD 0 (k : Nat)) st1 := by
    unfold iRng1D
    show (bDef _ _ _ _ _ _).bind _ = _
    rw [e1, bind_ok]
    dsimp only
    rw [if_pos (by have := sz6; exact ⟨by omega, by omega⟩)]
  have hk8 : 2 ^ k ≤ 2 ^ 3 := Nat.pow_le_pow_right (by decide) (by omega)
  obtain ⟨fl', vs, t2, t3, t4, t5, t6, t7, t8, st', h, hfl, P, bv⟩ := loop (rngD 0 (k : Nat)) k 305 13 .frz ws none none none none none none none st1 (by rw [rngD_len]; omega) (by decide) (.inl rfl) b (by omega) (by omega) P1
  refine ⟨vs, st', ?_, P, bv⟩
  unfold sh_law_changed
  show fin (sCons _ _ (eC .frz ws none none none none none none none) st) = _
  rw [sCons_eq, sFor_L, hr, outL_ok, h, seq_next]
  rcases hfl with rfl | rfl <;> rfl
end K35

namespace K35
open PySem L2 NC
/-! ### the judgement -/
abbrev eL (ns : List Int) (fl : Fl) (ws : List Str) (s3 s4 s5 s6 s7 s8 s9 : Slot) : Ev := [some (.frz, .lst (ns.map D.int)), some (.frz, .loc 0), some (fl, .lst (ws.map D.str)), s3, s4, s5, s6, s7, s8, s9]
theorem bMethS_of {k : D → D → Sto → R D} {f g : F} {env : Ev} {st : Sto} {x : Str} (h : f env st = .ok (.str x) st) : bMethS k f g env st = (g env st).bind fun d2 st2 => k (.str x) d2 st2 := bMethS_eq k f g x h
/-- the words of a text -/
def wordsOf (t : Str) : List Str := if t = "" then [] else Txt.split t (" " : Str)
theorem wordsOf_ok {t : Str} (h : t.length ≤ 900000) : Wds (wordsOf t) ∧ Txt.join (" " : Str) (wordsOf t) = t := by
  unfold wordsOf
  by_cases ht : t = ""
  · rw [if_pos ht]
    exact ⟨⟨by simp, by simp, by rw [join_nil]; decide +kernel⟩, by rw [join_nil, ht]⟩
  · rw [if_neg ht]
    obtain ⟨h1, h2, h3⟩ := split_ok t
    refine ⟨⟨fun z => ht ?_, h2, by rw [h3]; exact h⟩, h3⟩
    rw [← h3, z]
    decide +kernel
theorem sk_si : ∀ (k : Nat) (s : Si), s.ok k → Sk (k + 1) s.d
  | k, .see x, h => ⟨by simp, fun e he => by rw [List.mem_singleton.mp he]; cases k <;> trivial⟩
  | k, .num q, h => ⟨by simp, fun e he => by
      rcases List.mem_cons.mp he with rfl | he
      · cases k <;> trivial
      · rw [List.mem_singleton.mp he]; cases k <;> trivial⟩
  | k + 1, .op s l r, h => ⟨by simp, fun e he => by
      rcases List.mem_cons.mp he with rfl | he
      · trivial
      · rcases List.mem_cons.mp he with rfl | he
        · exact sk_si k l h.2.1
        · rw [List.mem_singleton.mp he]; exact sk_si k r h.2.2⟩
  | 0, .op _ _ _, h => absurd h id
theorem sk_de {e : De} (h : e.ok) : Sk 9 e.d := by
  cases e with
  | ans s =>
    refine ⟨by simp, fun x hx => ?_⟩
    rcases List.mem_cons.mp hx with rfl | hx
    · trivial
    · rw [List.mem_singleton.mp hx]; exact sk_si 7 s h
  | call c p s =>
    refine ⟨by simp, fun x hx => ?_⟩
    rcases List.mem_cons.mp hx with rfl | hx
    · trivial
    · rcases List.mem_cons.mp hx with rfl | hx
      · trivial
      · rcases List.mem_cons.mp hx with rfl | hx
        · trivial
        · rw [List.mem_singleton.mp hx]; exact sk_si 7 s h.2.2
theorem sk_ru {u : Ru} (h : u.ok) : Sk 10 u.d := by
  refine ⟨by simp, fun x hx => ?_⟩
  rcases List.mem_cons.mp hx with rfl | hx
  · exact (sk_si 7 u.t h.1).up
  · rcases List.mem_cons.mp hx with rfl | hx
    · exact sk_de h.2.1
    · rw [List.mem_singleton.mp hx]; exact (sk_si 7 u.c h.2.2).up
theorem sk_rus {us : List Ru} (h : ∀ u ∈ us, u.ok) (hl : us.length ≤ 40) : Sk 11 (.tup (us.map Ru.d)) := by
  refine ⟨by rw [List.length_map]; omega, fun x hx => ?_⟩
  obtain ⟨u, hu, rfl⟩ := List.mem_map.mp hx
  exact sk_ru (h u hu)
theorem ev_same_hint (n : Nat) {m m' : Md} (x : Int) (st : Sto) : interp delta (n + 1) "_law_same!" [(m, .int x), (m', .int x)] st = .ok (.bl true) st := by
  rw [run_law_same_h]
  simp [sh_law_same_h, isi_tuple_int, isi_list_int, isiV_bool_int, isiV_int_int, isN_int]
theorem law_judge (n : Nat) (ns : List Int) (fl : Fl) (hfl : fl = .frz ∨ fl = .own) {vs : List Str} (b : WB 2447 111 vs) (s3 s4 s5 : Slot) (st : Sto) : ∃ st', fin ((sCons (sSet 6 (bMethS kJoin (bC (D.str " ")) (bVarR 2)))
  (sCons (sSet 2 (bMethS kSplit (bVarR 6) (bC (D.str " "))))
  (sCons (sIf (bTst (bBin kEq (bVarR 6) (bC (D.str ""))))
  (sSet 2 (bLst lNil))
  sNil)
  (sCons (sAsg (tgName 7) (bDef (interp delta (n + 14)) "_law_wrong" [.rd] (lCons (bVarR 2) lNil)))
  (sCons (sTry 9 mt_HouseError
  (sAsg (tgName 8) (bDef (interp delta (n + 14)) "read_outsider" [.rd] (lCons (bVarR 6) lNil)))
  (sCons (sIf (bOrT (bNotT (bTru (bXis 9 mx_BadText))) (bTru (bXisT 9 [mx_BadAct, mx_BadGuard, mx_BadHouse, mx_BadPaper, mx_TooLarge])))
  (sRet (bC (D.bl false)))
  sNil)
  (sRet (bAndV (bNotN (bVarR 7)) (bDef (interp delta (n + 14)) "_law_same!" [.rd, .rd] (lCons (bXat 9 xc_at "at") (lCons (bVarR 7) lNil)))))))
  (sRet (bAndV (bIsN (bVarR 7)) (bAndV (bDef (interp delta (n + 14)) "_law_same" [.rd, .rd] (lCons (bAttr "rules" (bVarR 8)) (lCons (bDef (interp delta (n + 14)) "_law_rules" [.rd] (lCons (bVarR 2) lNil)) lNil))) (bDef (interp delta (n + 14)) "_law_same" [.rd, .rd] (lCons (bDef (interp delta (n + 14)) "outsider_text" [.rd] (lCons (bVarR 8) lNil)) (lCons (bVarR 6) lNil))))))))))) (eL ns fl vs s3 s4 s5 none none none none) st) = .ok (.bl true) st' := by
  have hfx : fl ≠ .exc := by rcases hfl with rfl | rfl <;> decide
  have hjl := b.joined
  have h1 : (" " : Str).length = 1 := by decide +kernel
  have hj : kJoin (.str " ") (.lst (vs.map D.str)) st = .ok (.str (Txt.join (" " : Str) vs)) st := kJoin_map _ _ (by
    have := b.sum
    have := b.n
    rw [h1]
    omega)
  generalize Txt.join (" " : Str) vs = t at hj hjl
  have htl : t.length ≤ 900000 := by omega
  obtain ⟨hW, hWj⟩ := wordsOf_ok htl
  have a1 : sSet 6 (bMethS kJoin (bC (D.str " ")) (bVarR 2)) (eL ns fl vs s3 s4 s5 none none none none) st = .next (eL ns fl vs s3 s4 s5 (some (.frz, .str t)) none none none) st := setF_next (d := .str t) (by
    have q2 : bVarR 2 (eL ns fl vs s3 s4 s5 none none none none) st = .ok (.lst (vs.map D.str)) st := bVarR_of hfx rfl
    rw [bMethS_of (bC_eq _), q2, bind_ok, hj]) (by simp)
  rw [cons_next a1]
  have a2 : sSet 2 (bMethS kSplit (bVarR 6) (bC (D.str " "))) (eL ns fl vs s3 s4 s5 (some (.frz, .str t)) none none none) st = .next (eL ns .own (Txt.split t (" " : Str)) s3 s4 s5 (some (.frz, .str t)) none none none) st := setF_next (d := .lst ((Txt.split t (" " : Str)).map D.str)) (by
    rw [bMethS_of (x := t) rfl, bC_eq, bind_ok, kSplit_of (by decide +kernel) (szM (by omega))]) (by simp)
  rw [cons_next a2]
  have a3 : sIf (bTst (bBin kEq (bVarR 6) (bC (D.str "")))) (sSet 2 (bLst lNil)) sNil (eL ns .own (Txt.split t (" " : Str)) s3 s4 s5 (some (.frz, .str t)) none none none) st = .next (eL ns .own (wordsOf t) s3 s4 s5 (some (.frz, .str t)) none none none) st := by
    unfold wordsOf
    have q : bTst (bBin kEq (bVarR 6) (bC (D.str ""))) (eL ns .own (Txt.split t (" " : Str)) s3 s4 s5 (some (.frz, .str t)) none none none) st = .ok (decide (t = "")) st := rfl
    rw [sIf_eq, q, outB_ok]
    by_cases ht : t = ""
    · rw [decide_eq_true ht, if_pos rfl, if_pos ht]; rfl
    · rw [decide_eq_false ht, if_neg Bool.false_ne_true, if_neg ht]; rfl
  rw [cons_next a3]
  generalize hWe : wordsOf t = W at *
  obtain ⟨T, hw⟩ := ev_wrong (n + 11) (m := .rd) st hW.hz hW.nn
  have a4 : sAsg (tgName 7) (bDef (interp delta (n + 14)) "_law_wrong" [.rd] (lCons (bVarR 2) lNil)) (eL ns .own W s3 s4 s5 (some (.frz, .str t)) none none none) st = .next (eL ns .own W s3 s4 s5 (some (.frz, .str t)) (some (.frz, optD (wrongV W))) none none) (st ++ T) := asg_of (d := optD (wrongV W)) hw (by simp)
  rw [cons_next a4]
  have hr := ev_read_outsider (n + 1) (m := .rd) (st ++ T) hW
  rw [hWj] at hr
  cases hp : pO W with
  | bad q =>
    rw [hp] at hr
    have hwv : wrongV W = some (W.length - q.length) := by unfold wrongV; rw [hp]
    rw [hwv]
    have eb : sAsg (tgName 8) (bDef (interp delta (n + 14)) "read_outsider" [.rd] (lCons (bVarR 6) lNil)) (eL ns .own W s3 s4 s5 (some (.frz, .str t)) (some (.frz, optD (some (W.length - q.length)))) none none) (st ++ T) = .exc (badX W q) (eL ns .own W s3 s4 s5 (some (.frz, .str t)) (some (.frz, optD (some (W.length - q.length)))) none none) (Sx (st ++ T) [] W q) := by
      unfold sAsg
      show (interp delta (n + 14) "read_outsider" [(.rd, .str t)] (st ++ T)).out _ _ = _
      rw [hr]
      rfl
    refine ⟨Sx (st ++ T) [] W q, ?_⟩
    rw [sCons_eq]
    unfold sTry
    rw [eb]
    dsimp only [badX]
    rw [show mt_HouseError "BadText" = some true by decide +kernel]
    dsimp only
    rw [if_pos (by simp)]
    have hs := ev_same_hint (n + 13) (m := .rd) (m' := .rd) (((W.length - q.length : Nat)) : Int) (Sx (st ++ T) [] W q)
    have x1 : bXis 9 mx_BadText (List.set (eL ns .own W s3 s4 s5 (some (.frz, .str t)) (some (.frz, optD (some (W.length - q.length)))) none none) 9 (some (Fl.exc, D.tup [D.str "BadText", D.str "at", D.int ((W.length - q.length : Nat))]))) (Sx (st ++ T) [] W q) = .ok (.bl true) (Sx (st ++ T) [] W q) := by
      unfold bXis
      simp
      rw [show mx_BadText "BadText" = some true by decide +kernel]
    have x2 : bXisT 9 [mx_BadAct, mx_BadGuard, mx_BadHouse, mx_BadPaper, mx_TooLarge] (List.set (eL ns .own W s3 s4 s5 (some (.frz, .str t)) (some (.frz, optD (some (W.length - q.length)))) none none) 9 (some (Fl.exc, D.tup [D.str "BadText", D.str "at", D.int ((W.length - q.length : Nat))]))) (Sx (st ++ T) [] W q) = .ok (.bl false) (Sx (st ++ T) [] W q) := by
      unfold bXisT
      simp
      rw [show anyMt [mx_BadAct, mx_BadGuard, mx_BadHouse, mx_BadPaper, mx_TooLarge] "BadText" = some false by decide +kernel]
    have x3 : bXat 9 xc_at "at" (List.set (eL ns .own W s3 s4 s5 (some (.frz, .str t)) (some (.frz, optD (some (W.length - q.length)))) none none) 9 (some (Fl.exc, D.tup [D.str "BadText", D.str "at", D.int ((W.length - q.length : Nat))]))) (Sx (st ++ T) [] W q) = .ok (.int ((W.length - q.length : Nat))) (Sx (st ++ T) [] W q) := by
      unfold bXat
      simp
      decide +kernel
    have x7 : bVarR 7 (List.set (eL ns .own W s3 s4 s5 (some (.frz, .str t)) (some (.frz, optD (some (W.length - q.length)))) none none) 9 (some (Fl.exc, D.tup [D.str "BadText", D.str "at", D.int ((W.length - q.length : Nat))]))) (Sx (st ++ T) [] W q) = .ok (.int ((W.length - q.length : Nat))) (Sx (st ++ T) [] W q) := rfl
    generalize List.set (eL ns .own W s3 s4 s5 (some (.frz, .str t)) (some (.frz, optD (some (W.length - q.length)))) none none) 9 (some (Fl.exc, D.tup [D.str "BadText", D.str "at", D.int ((W.length - q.length : Nat))])) = E at *
    have y1 : sIf (bOrT (bNotT (bTru (bXis 9 mx_BadText))) (bTru (bXisT 9 [mx_BadAct, mx_BadGuard, mx_BadHouse, mx_BadPaper, mx_TooLarge]))) (sRet (bC (D.bl false))) sNil E (Sx (st ++ T) [] W q) = .next E (Sx (st ++ T) [] W q) := by
      rw [sIf_eq, bOrT_eq, bNotT_eq, bTru_eq, x1, rTru_bl, bind_ok, bind_ok]
      show (bTru (bXisT 9 [mx_BadAct, mx_BadGuard, mx_BadHouse, mx_BadPaper, mx_TooLarge]) E (Sx (st ++ T) [] W q)).outB _ _ = _
      rw [bTru_eq, x2, rTru_bl, outB_ok]
      rfl
    have y2 : bAndV (bNotN (bVarR 7)) (bDef (interp delta (n + 14)) "_law_same!" [.rd, .rd] (lCons (bXat 9 xc_at "at") (lCons (bVarR 7) lNil))) E (Sx (st ++ T) [] W q) = .ok (.bl true) (Sx (st ++ T) [] W q) := by
      have z1 : bNotN (bVarR 7) E (Sx (st ++ T) [] W q) = .ok (.bl true) (Sx (st ++ T) [] W q) := by
        unfold bNotN
        rw [x7, bind_ok]
      rw [bAndV_eq, z1, rBl_bl, bind_ok, if_pos rfl, bDef_eq, lCons_eq, x3, bind_ok, lCons_eq, x7, bind_ok, lNil_eq, bind_ok, bind_ok, bind_ok]
      exact hs
    rw [cons_next y1, sRet_eq, y2]
    rfl
  | ok us q =>
    rw [hp] at hr
    obtain ⟨e1, _, h3, h4⟩ := pO_snd hp
    have hwv : wrongV W = none := by unfold wrongV; rw [hp]
    rw [hwv]
    have eb : sAsg (tgName 8) (bDef (interp delta (n + 14)) "read_outsider" [.rd] (lCons (bVarR 6) lNil)) (eL ns .own W s3 s4 s5 (some (.frz, .str t)) (some (.frz, optD none)) none none) (st ++ T) = .next (eL ns .own W s3 s4 s5 (some (.frz, .str t)) (some (.frz, optD none)) (some (.frz, .loc ((st ++ T).length + 1))) none) (st ++ T ++ [cur W W.length, outC (us.map Ru.d)]) := asg_of (d := .loc ((st ++ T).length + 1)) hr (by simp)
    have et : sTry 9 mt_HouseError (sAsg (tgName 8) (bDef (interp delta (n + 14)) "read_outsider" [.rd] (lCons (bVarR 6) lNil))) (sCons (sIf (bOrT (bNotT (bTru (bXis 9 mx_BadText))) (bTru (bXisT 9 [mx_BadAct, mx_BadGuard, mx_BadHouse, mx_BadPaper, mx_TooLarge]))) (sRet (bC (D.bl false))) sNil) (sRet (bAndV (bNotN (bVarR 7)) (bDef (interp delta (n + 14)) "_law_same!" [.rd, .rd] (lCons (bXat 9 xc_at "at") (lCons (bVarR 7) lNil)))))) (eL ns .own W s3 s4 s5 (some (.frz, .str t)) (some (.frz, optD none)) none none) (st ++ T) = .next (eL ns .own W s3 s4 s5 (some (.frz, .str t)) (some (.frz, optD none)) (some (.frz, .loc ((st ++ T).length + 1))) none) (st ++ T ++ [cur W W.length, outC (us.map Ru.d)]):= by
      unfold sTry
      rw [eb]
    rw [cons_next et]
    have hcell : (st ++ T ++ [cur W W.length, outC (us.map Ru.d)])[(st ++ T).length + 1]? = some (outC (us.map Ru.d)) := by
      rw [List.getElem?_append_right (by omega), Nat.add_sub_cancel_left]
      rfl
    have hg : getF "rules" (st ++ T ++ [cur W W.length, outC (us.map Ru.d)]) (.loc ((st ++ T).length + 1)) = .ok (.tup (us.map Ru.d)) _ := getF_of hcell rfl
    have htx := ev_outsider_text (n + 5) (m := .rd) (st ++ T ++ [cur W W.length, outC (us.map Ru.d)]) ((st ++ T).length + 1) us hcell h3 h4 (e1 ▸ hW)
    rw [← e1, hWj] at htx
    have hru := ev_rules (n + 4) (m := .rd) (st ++ T ++ [cur W W.length, outC (us.map Ru.d)]) h3 h4 (e1 ▸ hW.hz)
    rw [← e1] at hru
    have hs1 := ev_same_sk 11 (n + 2) (m := .rd) (m' := .rd) (.tup (us.map Ru.d)) (st ++ T ++ [cur W W.length, outC (us.map Ru.d)]) (sk_rus h3 h4)
    have hs2 := ev_same_str (n + 13) (m := .rd) (m' := .rd) t (st ++ T ++ [cur W W.length, outC (us.map Ru.d)])
    generalize st ++ T ++ [cur W W.length, outC (us.map Ru.d)] = S at *
    generalize (st ++ T).length + 1 = a at *
    refine ⟨S, ?_⟩
    have z1 : bIsN (bVarR 7) (eL ns .own W s3 s4 s5 (some (.frz, .str t)) (some (.frz, optD none)) (some (.frz, .loc a)) none) S = .ok (.bl true) S := rfl
    have z2 : bDef (interp delta (n + 14)) "_law_same" [.rd, .rd] (lCons (bAttr "rules" (bVarR 8)) (lCons (bDef (interp delta (n + 14)) "_law_rules" [.rd] (lCons (bVarR 2) lNil)) lNil)) (eL ns .own W s3 s4 s5 (some (.frz, .str t)) (some (.frz, optD none)) (some (.frz, .loc a)) none) S = .ok (.bl true) S := by
      rw [bDef_eq, lCons_eq, bAttr_eq]
      show R.bind (R.bind (R.bind (R.ok (D.loc a) S) _) _) _ = _
      rw [bind_ok, hg, bind_ok, lCons_eq]
      show R.bind (R.bind (R.bind (interp delta (n + 14) "_law_rules" [(.rd, .lst (W.map D.str))] S) _) _) _ = _
      rw [hru, bind_ok, lNil_eq, bind_ok, bind_ok, bind_ok]
      exact hs1
    have z3 : bDef (interp delta (n + 14)) "_law_same" [.rd, .rd] (lCons (bDef (interp delta (n + 14)) "outsider_text" [.rd] (lCons (bVarR 8) lNil)) (lCons (bVarR 6) lNil)) (eL ns .own W s3 s4 s5 (some (.frz, .str t)) (some (.frz, optD none)) (some (.frz, .loc a)) none) S = .ok (.bl true) S := by
      rw [bDef_eq, lCons_eq]
      show R.bind (R.bind (interp delta (n + 14) "outsider_text" [(.rd, .loc a)] S) _) _ = _
      rw [htx, bind_ok]
      exact hs2
    rw [sRet_eq, bAndV_eq, z1, rBl_bl, bind_ok, if_pos rfl, bAndV_eq, z2, rBl_bl, bind_ok, if_pos rfl, z3]
    rfl
end K35

namespace K35
open PySem L2 NC
/-! ### the law -/
abbrev lvl : Nat := 40
abbrev cl39 : Calls := interp delta 39
abbrev eM (ns : List Int) (fl : Fl) (ws : List Str) (s3 s4 s5 : Slot) : Ev := eL ns fl ws s3 s4 s5 none none none none
abbrev drP (f : F) : F := bDef cl39 "_law_draw" [.rd, .rd] (lCons (bVarR 1) (lCons f lNil))
theorem drP_of {ns : List Int} {f : F} {env : Ev} {st : Sto} {k : Int} (hk : 0 < k ∧ k < 1073741824) (hP : Pool ns st) (hv : bVarR 1 env st = .ok (.loc 0) st) (hf : f env st = .ok (.int k) st) : ∃ v st', drP f env st = .ok (.int v) st' ∧ 0 ≤ v ∧ v < k ∧ Pool ns st' := draw_of (ns := ns) 38 (i := 1) hk hP hv hf
theorem loopA {ns : List Int} : ∀ (ds : List D) (N : Nat) (ws : List Str) (s3 s4 s5 : Slot) (st : Sto), WB N 13 ws → N + 61 * ds.length ≤ 305 → Pool ns st → ∃ vs t3 st', forL (tgName 3) (lb_law_0 cl39) ds (eM ns .own ws s3 s4 s5) st = .next (eM ns .own vs t3 s4 s5) st' ∧ Pool ns st' ∧ WB 305 13 vs
  | [], N, ws, s3, s4, s5, st, b, hN, hP => ⟨ws, s3, st, rfl, hP, b.mono (by simpa using hN) (Nat.le_refl _)⟩
  | d :: ds, N, ws, s3, s4, s5, st, b, hN, hP => by
    rw [List.length_cons] at hN
    obtain ⟨rw', st1, h1, P1, b1⟩ := ev_rule_words (ns := ns) 34 (m := .rd) hP
    have l1 := b.n
    have l2 := b1.n
    have hb : lb_law_0 cl39 (eM ns .own ws (some (.frz, d)) s4 s5) st = .next (eM ns .own (ws ++ rw') (some (.frz, d)) s4 s5) st1 := by
      refine setF_next (d := .lst ((ws ++ rw').map D.str)) ?_ (by simp)
      rw [bBin_eq]
      show R.bind (R.ok (D.lst (ws.map D.str)) st) _ = _
      rw [bind_ok]
      show R.bind (interp delta 39 "_law_rule_words" [(.rd, .loc 0)] st) _ = _
      rw [h1, bind_ok, kAdd_ws _ _ (by omega)]
    obtain ⟨vs, t3, st', h2, P2, b2⟩ := loopA ds (N + 61) (ws ++ rw') (some (.frz, d)) s4 s5 st1 (b.app b1) (by omega) P1
    refine ⟨vs, t3, st', ?_, P2, b2⟩
    rw [forL_cons (env1 := eM ns .own ws (some (.frz, d)) s4 s5) rfl, hb, turn_next, h2]
def fiveW : List Str := ["when", "1", "answer", "0", "cell"]
theorem five_l : ∀ x ∈ fiveW, x.length ≤ 13 := by decide +kernel
theorem dr_eq0 {ns : List Int} (k : Int) (hk : 0 < k ∧ k < 1000) (fl : Fl) (ws : List Str) (s3 s4 s5 : Slot) (st : Sto) (hP : Pool ns st) : ∃ b st', bTst (bBin kEq (drP (bC (D.int k))) (bC (D.int 0))) (eM ns fl ws s3 s4 s5) st = .ok b st' ∧ Pool ns st' := by
  obtain ⟨v, st1, e1, v0, v1, P1⟩ := drP_of (ns := ns) (f := bC (D.int k)) (k := k) (env := eM ns fl ws s3 s4 s5) ⟨hk.1, by omega⟩ hP rfl rfl
  refine ⟨decide (v = 0), st1, ?_, P1⟩
  rw [bTst_eq, bBin_eq, e1, bind_ok, bC_eq, bind_ok, kEq_int, rBl_bl]
theorem partB {ns : List Int} {ws : List Str} (b : WB 305 13 ws) (s3 s4 s5 : Slot) (st : Sto) (hP : Pool ns st) : ∃ vs st', sIf (bTst (bBin kEq (drP (bC (D.int 8))) (bC (D.int 0)))) (sSet 2 (bBin kMulL (bLst (lCons (bC (D.str "when")) (lCons (bC (D.str "1")) (lCons (bC (D.str "answer")) (lCons (bC (D.str "0")) (lCons (bC (D.str "cell")) lNil)))))) (bBin kAdd (bC (D.int 39)) (drP (bC (D.int 4)))))) sNil (eM ns .own ws s3 s4 s5) st = .next (eM ns .own vs s3 s4 s5) st' ∧ Pool ns st' ∧ WB 305 13 vs := by
  obtain ⟨c, st1, h1, P1⟩ := dr_eq0 (ns := ns) 8 (by decide) .own ws s3 s4 s5 st hP
  rw [sIf_eq, h1, outB_ok]
  cases c with
  | false => exact ⟨ws, st1, rfl, P1, b⟩
  | true =>
    obtain ⟨v, st2, e2, v0, v1, P2⟩ := drP_of (ns := ns) (f := bC (D.int 4)) (k := 4) (env := eM ns .own ws s3 s4 s5) ⟨by decide, by decide⟩ P1 rfl rfl
    obtain ⟨k, rfl⟩ := Int.eq_ofNat_of_zero_le v0
    have q := mul_ws fiveW (39 + k) (by omega) (by decide) st2
    refine ⟨(List.replicate (39 + k) fiveW).flatten, st2, ?_, P2, (flat_wb (39 + k) five_l).mono (by simp [fiveW]; omega) (Nat.le_refl _)⟩
    rw [if_pos rfl]
    refine setF_next (d := .lst (((List.replicate (39 + k) fiveW).flatten).map D.str)) ?_ (by simp)
    rw [bBin_eq]
    show R.bind (R.ok (D.lst (fiveW.map D.str)) st1) _ = _
    rw [bind_ok, bBin_eq, bC_eq, bind_ok, e2, bind_ok, kAdd_int, bind_ok]
    rw [show (39 : Int) + (k : Nat) = ((39 + k : Nat) : Int) by omega]
    exact q
theorem menuP {ns : List Int} (fl : Fl) (ws : List Str) (s3 s4 s5 : Slot) (st : Sto) (hP : Pool ns st) : ∃ w st', sAsg (tgName 4) (bDef cl39 "_law_menu" [.rd] (lCons (bVarR 1) lNil)) (eM ns fl ws s3 s4 s5) st = .next (eM ns fl ws s3 (some (.frz, .str w)) s5) st' ∧ Pool ns st' ∧ w.length ≤ 13 := by
  obtain ⟨w, st', h, P, hw⟩ := ev_menu (ns := ns) 37 (m := .rd) hP
  exact ⟨w, st', asg_of (d := .str w) h (by simp), P, hw⟩
theorem eq_optD (o : Option Nat) (k : Int) (st : Sto) : ∃ b, kEq (optD o) (.int k) st = .ok (.bl b) st := by
  cases o with
  | none => exact ⟨_, kEq_gd (n := 0) gp_non gp_int (by decide) st⟩
  | some i => exact ⟨_, kEq_int _ _⟩
theorem loopT {ns : List Int} {ws : List Str} (b : WB 400 13 ws) (s3 : Slot) : ∀ (ds : List D) (w : Str) (s5 : Slot) (st : Sto), w.length ≤ 13 → Pool ns st → ∃ w' t5 st', forL (tgName 5) (lb_law_1 cl39) ds (eM ns .own ws s3 (some (.frz, .str w)) s5) st = .next (eM ns .own ws s3 (some (.frz, .str w')) t5) st' ∧ Pool ns st' ∧ w'.length ≤ 13
  | [], w, s5, st, hw, hP => ⟨w, s5, st, rfl, hP, hw⟩
  | d :: ds, w, s5, st, hw, hP => by
    have hz : ∀ x ∈ ws ++ [w], x.length ≤ sizeLine := fun x hx => szM (by
      rcases List.mem_append.mp hx with hx | hx
      · have := b.l x hx; omega
      · rw [List.mem_singleton.mp hx]; omega)
    have ln := b.n
    obtain ⟨T, h1⟩ := ev_wrong 36 (m := .rd) st hz (by simp; omega)
    obtain ⟨c, hc⟩ := eq_optD (wrongV (ws ++ [w])) (ws.length : Nat) (st ++ T)
    have hcnd : bTst (bBin kEq (bDef cl39 "_law_wrong" [.rd] (lCons (bBin kAdd (bVarR 2) (bLst (lCons (bVar 4) lNil))) lNil)) (bCall kLen (lCons (bVarR 2) lNil))) (eM ns .own ws s3 (some (.frz, .str w)) (some (.frz, d))) st = .ok c (st ++ T) := by
      have q : bDef cl39 "_law_wrong" [.rd] (lCons (bBin kAdd (bVarR 2) (bLst (lCons (bVar 4) lNil))) lNil) (eM ns .own ws s3 (some (.frz, .str w)) (some (.frz, d))) st = .ok (optD (wrongV (ws ++ [w]))) (st ++ T) := by
        rw [bDef_eq, lCons_eq, bBin_eq]
        show R.bind (R.bind (R.bind (R.ok (D.lst (ws.map D.str)) st) _) _) _ = _
        rw [bind_ok]
        show R.bind (R.bind (R.bind (R.ok (D.lst (([w] : List Str).map D.str)) st) _) _) _ = _
        rw [bind_ok, kAdd_ws _ _ (by simp; omega), bind_ok, lNil_eq, bind_ok, bind_ok]
        exact h1
      have q2 : bCall kLen (lCons (bVarR 2) lNil) (eM ns .own ws s3 (some (.frz, .str w)) (some (.frz, d))) (st ++ T) = .ok (.int (ws.length : Nat)) (st ++ T) := by
        rw [bCall_eq, lCons_eq]
        show R.bind (R.bind (R.ok (D.lst (ws.map D.str)) (st ++ T)) _) _ = _
        rw [bind_ok, lNil_eq, bind_ok, bind_ok, kLen_lst, List.length_map]
      rw [bTst_eq, bBin_eq, q, bind_ok, q2, bind_ok, hc, rBl_bl]
    have P1 := (show Pool ns (st ++ T) by
      obtain ⟨p, b, s, l, g, h⟩ := hP
      exact ⟨p, b, s, l, g, keep_at h⟩)
    rw [forL_cons (env1 := eM ns .own ws s3 (some (.frz, .str w)) (some (.frz, d))) rfl]
    cases c with
    | false =>
      have hb : lb_law_1 cl39 (eM ns .own ws s3 (some (.frz, .str w)) (some (.frz, d))) st = .next (eM ns .own ws s3 (some (.frz, .str w)) (some (.frz, d))) (st ++ T) := by
        unfold lb_law_1
        rw [sIf_eq, hcnd, outB_ok]
        rfl
      rw [hb, turn_next]
      exact loopT b s3 ds w (some (.frz, d)) (st ++ T) hw P1
    | true =>
      obtain ⟨w2, st2, h2, P2, hw2⟩ := menuP (ns := ns) .own ws s3 (some (.frz, .str w)) (some (.frz, d)) (st ++ T) P1
      have hb : lb_law_1 cl39 (eM ns .own ws s3 (some (.frz, .str w)) (some (.frz, d))) st = .next (eM ns .own ws s3 (some (.frz, .str w2)) (some (.frz, d))) st2 := by
        unfold lb_law_1
        rw [sIf_eq, hcnd, outB_ok, if_pos rfl, h2]
      rw [hb, turn_next]
      exact loopT b s3 ds w2 (some (.frz, d)) st2 hw2 P2
theorem loopW {ns : List Int} : ∀ (ds : List D) (N : Nat) (ws : List Str) (s3 s4 s5 : Slot) (st : Sto), WB N 13 ws → N + ds.length ≤ 400 → Pool ns st → ∃ vs t3 t4 t5 st', forL (tgName 3) (lb_law_2 cl39) ds (eM ns .own ws s3 s4 s5) st = .next (eM ns .own vs t3 t4 t5) st' ∧ Pool ns st' ∧ WB 400 13 vs
  | [], N, ws, s3, s4, s5, st, b, hN, hP => ⟨ws, s3, s4, s5, st, rfl, hP, b.mono (by simpa using hN) (Nat.le_refl _)⟩
  | d :: ds, N, ws, s3, s4, s5, st, b, hN, hP => by
    rw [List.length_cons] at hN
    obtain ⟨w, st1, h1, P1, hw⟩ := menuP (ns := ns) .own ws (some (.frz, d)) s4 s5 st hP
    obtain ⟨w2, t5, st2, h2, P2, hw2⟩ := loopT (ns := ns) (b.mono (show N ≤ 400 by omega) (Nat.le_refl _)) (some (.frz, d)) (rngD 0 8) w s5 st1 hw P1
    have hz8 : (8 : Int) ≤ sizeLine ∧ -(2 ^ 62) ≤ (8 : Int) := by have := sz6; exact ⟨by omega, by omega⟩
    have hr : iRng1D (bC (D.int 8)) (eM ns .own ws (some (.frz, d)) (some (.frz, .str w)) s5) st1 = .ok (rngD 0 8) st1 := iRng1D_int _ _ rfl hz8
    have ln := b.n
    have h3 : sApp 2 (bVar 4) (eM ns .own ws (some (.frz, d)) (some (.frz, .str w2)) t5) st2 = .next (eM ns .own (ws ++ [w2]) (some (.frz, d)) (some (.frz, .str w2)) t5) st2 := by
      rw [sApp_E]
      show appE 2 _ _ st2 (some (some (.own, .lst (ws.map D.str)))) = _
      rw [appE_own]
      show appO 2 _ _ (D.str w2) st2 = _
      rw [appO_of _ _ _ (by rw [List.length_map]; have := sz6; omega)]
      rw [show ws.map D.str ++ [D.str w2] = (ws ++ [w2]).map D.str by simp]
      rfl
    have hb : lb_law_2 cl39 (eM ns .own ws (some (.frz, d)) s4 s5) st = .next (eM ns .own (ws ++ [w2]) (some (.frz, d)) (some (.frz, .str w2)) t5) st2 := by
      unfold lb_law_2
      rw [cons_next h1, sCons_eq, sFor_L, hr, outL_ok, h2, seq_next, h3]
    obtain ⟨vs, t3, t4, t5', st', h4, P4, b4⟩ := loopW ds (N + 1) (ws ++ [w2]) (some (.frz, d)) (some (.frz, .str w2)) t5 st2 (b.app (wb_one hw2 (Nat.le_refl _))) (by omega) P2
    refine ⟨vs, t3, t4, t5', st', ?_, P4, b4⟩
    rw [forL_cons (env1 := eM ns .own ws (some (.frz, d)) s4 s5) rfl, hb, turn_next, h4]
theorem partC {ns : List Int} {ws : List Str} (b : WB 305 13 ws) (s3 s4 s5 : Slot) (st : Sto) (hP : Pool ns st) : ∃ fl vs t3 t4 t5 st', sIf (bTst (bBin kEq (drP (bC (D.int 2))) (bC (D.int 0))))
  (sFrz [2] (sAsg (tgName 2) (bDef cl39 "_law_changed" [.rd, .esc] (lCons (bVarR 1) (lCons (bVar 2) lNil)))))
  (sIf (bTst (bBin kEq (drP (bC (D.int 3))) (bC (D.int 0))))
  (sCons (sSet 2 (bSl (bSl (bVarR 2) oNone (oSome (drP (bBin kAdd (bCall kLen (lCons (bVarR 2) lNil)) (bC (D.int 1)))))) (oSome (bNeg (bC (D.int 60)))) oNone))
  (sFor (iRng1D (drP (bC (D.int 25)))) (tgName 3)
  (lb_law_2 cl39)))
  sNil) (eM ns .own ws s3 s4 s5) st = .next (eM ns fl vs t3 t4 t5) st' ∧ (fl = .frz ∨ fl = .own) ∧ WB 2447 111 vs := by
  obtain ⟨c, st1, h1, P1⟩ := dr_eq0 (ns := ns) 2 (by decide) .own ws s3 s4 s5 st hP
  rw [sIf_eq, h1, outB_ok]
  cases c with
  | true =>
    obtain ⟨vs, st2, h2, P2, b2⟩ := ev_changed (ns := ns) 35 (m := .rd) b P1
    refine ⟨.frz, vs, s3, s4, s5, st2, ?_, .inl rfl, b2⟩
    rw [if_pos rfl, sFrz_eq]
    exact asg_of (env := eM ns .frz ws s3 s4 s5) (d := .lst (vs.map D.str)) h2 (by simp)
  | false =>
    rw [if_neg Bool.false_ne_true]
    obtain ⟨c, st2, h2, P2⟩ := dr_eq0 (ns := ns) 3 (by decide) .own ws s3 s4 s5 st1 P1
    rw [sIf_eq, h2, outB_ok]
    cases c with
    | false => exact ⟨.own, ws, s3, s4, s5, st2, rfl, .inr rfl, b.mono (by decide) (by decide)⟩
    | true =>
      have ln := b.n
      obtain ⟨v, st3, e3, v0, v1, P3⟩ := drP_of (ns := ns) (f := bBin kAdd (bCall kLen (lCons (bVarR 2) lNil)) (bC (D.int 1))) (k := ((ws.length + 1 : Nat))) (env := eM ns .own ws s3 s4 s5) ⟨by omega, by omega⟩ P2 rfl (by
        rw [bBin_eq, bCall_eq, lCons_eq]
        show R.bind (R.bind (R.bind (R.ok (D.lst (ws.map D.str)) st2) _) _) _ = _
        rw [bind_ok, lNil_eq, bind_ok, bind_ok, kLen_lst, List.length_map]
        rfl)
      obtain ⟨us, hu1, hu2, hu3⟩ := cut_ws ws none (some v)
      obtain ⟨xs, hx1, hx2, hx3⟩ := cut_ws us (some (-60)) none
      have bx : WB 305 13 xs := b.sub (Nat.le_trans hx2 hu2) fun w hw => hu3 w (hx3 w hw)
      have a1 : sSet 2 (bSl (bSl (bVarR 2) oNone (oSome (drP (bBin kAdd (bCall kLen (lCons (bVarR 2) lNil)) (bC (D.int 1)))))) (oSome (bNeg (bC (D.int 60)))) oNone) (eM ns .own ws s3 s4 s5) st2 = .next (eM ns .own xs s3 s4 s5) st3 := by
        refine setF_next (d := .lst (xs.map D.str)) ?_ (by simp)
        rw [bSl_eq, bSl_eq]
        show R.bind (R.bind (R.ok (D.lst (ws.map D.str)) st2) _) _ = _
        rw [bind_ok, oNone_eq, bind_ok, oSome_eq, e3, bind_ok, toO_int, bind_ok, kSl_lst, hu1, bind_ok, oSome_eq, bNeg_eq, bC_eq, bind_ok, negV_int, bind_ok, toO_int, bind_ok, oNone_eq, bind_ok, kSl_lst, hx1]
      obtain ⟨u, st4, e4, u0, u1, P4⟩ := drP_of (ns := ns) (f := bC (D.int 25)) (k := 25) (env := eM ns .own xs s3 s4 s5) ⟨by decide, by decide⟩ P3 rfl rfl
      have hr : iRng1D (drP (bC (D.int 25))) (eM ns .own xs s3 s4 s5) st3 = .ok (rngD 0 u) st4 := by
        unfold iRng1D
        rw [e4, bind_ok]
        dsimp only
        rw [if_pos (by have := sz6; exact ⟨by omega, by omega⟩)]
      obtain ⟨vs, t3, t4, t5, st5, h5, P5, b5⟩ := loopW (ns := ns) (rngD 0 u) 305 xs s3 s4 s5 st4 bx (by rw [rngD_len]; omega) P4
      refine ⟨.own, vs, t3, t4, t5, st5, ?_, .inr rfl, b5.mono (by decide) (by decide)⟩
      rw [if_pos rfl, cons_next a1, sFor_L, hr, outL_ok, h5]
theorem ev_law (ns : List Int) (hl : ns.length ≤ 63) : ∃ st', interp delta lvl "law" [(.esc, .lst (ns.map D.int))] [] = .ok (.bl true) st' := by
  show ∃ st', interp delta (39 + 1) "law" _ _ = _
  rw [run_law, slotA_esc]
  have hp : ∀ {m : Md}, interp delta 39 "_law_pool" [(m, .lst (ns.map D.int)), (.esc, .int 0)] [] = .ok (.loc 0) [plC ns 0 0 1 0 0] := fun {m} => by
    show interp delta (38 + 1) _ _ _ = _
    rw [run_law_pool, slotA_lst]
    unfold sh_law_pool bRef
    have q : bCall kList (lCons (bVarR 0) lNil) [some (flM m, .lst (ns.map D.int)), slotA (.esc, .int 0)] [] = .ok (.lst (ns.map D.int)) [] := by
      rw [bCall_eq, lCons_eq, bVarR_z3, bind_ok, lNil_eq, bind_ok, bind_ok, kList_lst]
    rw [sRet_eq, bLst_eq, lCons_eq, q]
    rfl
  have hP0 : Pool ns [plC ns 0 0 1 0 0] := ⟨0, 0, 1, 0, 0, rfl⟩
  unfold sh_law
  have a1 : sAsg (tgName 1) (bDef cl39 "_law_pool" [.rd, .esc] (lCons (bVarR 0) (lCons (bC (D.int 0)) lNil))) [some (.frz, .lst (ns.map D.int)), none, none, none, none, none, none, none, none, none] [] = .next [some (.frz, .lst (ns.map D.int)), some (.frz, .loc 0), none, none, none, none, none, none, none, none] [plC ns 0 0 1 0 0] := asg_of (d := .loc 0) (hp (m := .rd)) (by simp)
  have a2 : sSet 2 (bLst lNil) [some (.frz, .lst (ns.map D.int)), some (.frz, .loc 0), none, none, none, none, none, none, none, none] [plC ns 0 0 1 0 0] = .next (eM ns .own [] none none none) [plC ns 0 0 1 0 0] := rfl
  obtain ⟨v, st1, e1, v0, v1, P1⟩ := drP_of (ns := ns) (f := bC (D.int 6)) (k := 6) (env := eM ns .own [] none none none) ⟨by decide, by decide⟩ hP0 rfl rfl
  have hr : iRng1D (drP (bC (D.int 6))) (eM ns .own [] none none none) [plC ns 0 0 1 0 0] = .ok (rngD 0 v) st1 := by
    unfold iRng1D
    rw [e1, bind_ok]
    dsimp only
    rw [if_pos (by have := sz6; exact ⟨by omega, by omega⟩)]
  obtain ⟨ws, t3, st2, h2, P2, b2⟩ := loopA (ns := ns) (rngD 0 v) 0 [] none none none st1 wb_nil (by rw [rngD_len]; omega) P1
  obtain ⟨vs, st3, h3, P3, b3⟩ := partB (ns := ns) b2 t3 none none st2 P2
  obtain ⟨fl, xs, u3, u4, u5, st4, h4, hfl, b4⟩ := partC (ns := ns) b3 t3 none none st3 P3
  rw [cons_next a1, cons_next a2, sCons_eq, sFor_L, hr, outL_ok, h2, seq_next, cons_next h3, cons_next h4]
  exact law_judge 25 ns fl hfl b4 u3 u4 u5 st4
end K35

namespace K35
open PySem L2 NC
structure Facts (P : Program) (K : PySem.W.Frag) (mg : Str → Option Value) : Prop where
  d_is_name : DefAt K mg "is_name" (topS 13)
  d_number_of : DefAt K mg "number_of" (topS 14)
  d_read_outsider : DefAt K mg "read_outsider" (topS 21)
  d_read_deed : DefAt K mg "read_deed" (topS 22)
  d_read_sight : DefAt K mg "read_sight" (topS 23)
  d_sight_words : DefAt K mg "sight_words" (topS 24)
  d_outsider_text : DefAt K mg "outsider_text" (topS 25)
  d_law_pool : DefAt K mg "_law_pool" (topS 27)
  d_law_draw : DefAt K mg "_law_draw" (topS 28)
  d_law_same : DefAt K mg "_law_same" (topS 29)
  d_law_is_name : DefAt K mg "_law_is_name" (topS 30)
  d_law_is_number : DefAt K mg "_law_is_number" (topS 31)
  d_law_next : DefAt K mg "_law_next" (topS 32)
  d_law_wrong : DefAt K mg "_law_wrong" (topS 33)
  d_law_value_words : DefAt K mg "_law_value_words" (topS 34)
  d_law_chain : DefAt K mg "_law_chain" (topS 35)
  d_law_drawn_name : DefAt K mg "_law_drawn_name" (topS 36)
  d_law_rule_words : DefAt K mg "_law_rule_words" (topS 37)
  d_law_menu : DefAt K mg "_law_menu" (topS 38)
  d_law_changed : DefAt K mg "_law_changed" (topS 39)
  d_law_read_value : DefAt K mg "_law_read_value" (topS 40)
  d_law_rules : DefAt K mg "_law_rules" (topS 41)
  d_law : DefAt K mg "law" (topS 42)
  c_Cursor : ClsAt K mg "Cursor"
  c_Outsider : ClsAt K mg "Outsider"
  e_Cursor___init__ : MethAt K "Cursor" "__init__" "Cursor.__init__" (mS 15 0)
  e_Cursor_word : MethAt K "Cursor" "word" "Cursor.word" (mS 15 1)
  e_Cursor_fail : MethAt K "Cursor" "fail" "Cursor.fail" (mS 15 2)
  e_Cursor_take : MethAt K "Cursor" "take" "Cursor.take" (mS 15 3)
  e_Cursor_take_one : MethAt K "Cursor" "take_one" "Cursor.take_one" (mS 15 4)
  e_Cursor_take_new : MethAt K "Cursor" "take_new" "Cursor.take_new" (mS 15 5)
  e_Cursor_take_number : MethAt K "Cursor" "take_number" "Cursor.take_number" (mS 15 6)
  e_Outsider___init__ : MethAt K "Outsider" "__init__" "Outsider.__init__" (mS 20 0)
  e_Outsider___eq__ : MethAt K "Outsider" "__eq__" "Outsider.__eq__" (mS 20 1)
  q_BadText : ExcAt P K mg "BadText" "at"
  q_BadAct : ExcAt P K mg "BadAct" "at"
  q_TooLarge : ExcAt P K mg "TooLarge" "what"
  q_BadGuard : ExcAt P K mg "BadGuard" "at"
  q_BadPaper : ExcAt P K mg "BadPaper" "at"
  q_BadHouse : ExcAt P K mg "BadHouse" "what"
  stc : ∀ M : Mo, M.mg = mg → M.T = Tx K → M.hot = false → Stc M
theorem all_ok {P : Program} {w : World} {K : PySem.W.Frag} {mg : Str → Option Value} {base : Heap} (F : Facts P K mg) : ∀ n, Rt (MoN P w (Tx K) mg base delta n) := by
  intro n
  induction n with
  | zero =>
    have e_Cursor___init__ : MethOk (MoN P w (Tx K) mg base delta 0) "Cursor" "__init__" "Cursor.__init__" := methOk_zero (ps := ["self", "text"]) F.e_Cursor___init__ (fun _ _ _ _ _ _ us hl => match us, hl with | [_, _], _ => rfl)
    have e_Cursor_word : MethOk (MoN P w (Tx K) mg base delta 0) "Cursor" "word" "Cursor.word" := methOk_zero (ps := ["self"]) F.e_Cursor_word (fun _ _ _ _ _ _ us hl => match us, hl with | [_], _ => rfl)
    have e_Cursor_fail : MethOk (MoN P w (Tx K) mg base delta 0) "Cursor" "fail" "Cursor.fail" := methOk_zero (ps := ["self"]) F.e_Cursor_fail (fun _ _ _ _ _ _ us hl => match us, hl with | [_], _ => rfl)
    have e_Cursor_take : MethOk (MoN P w (Tx K) mg base delta 0) "Cursor" "take" "Cursor.take" := methOk_zero (ps := ["self", "word"]) F.e_Cursor_take (fun _ _ _ _ _ _ us hl => match us, hl with | [_, _], _ => rfl)
    have e_Cursor_take_one : MethOk (MoN P w (Tx K) mg base delta 0) "Cursor" "take_one" "Cursor.take_one" := methOk_zero (ps := ["self", "words"]) F.e_Cursor_take_one (fun _ _ _ _ _ _ us hl => match us, hl with | [_, _], _ => rfl)
    have e_Cursor_take_new : MethOk (MoN P w (Tx K) mg base delta 0) "Cursor" "take_new" "Cursor.take_new" := methOk_zero (ps := ["self", "names"]) F.e_Cursor_take_new (fun _ _ _ _ _ _ us hl => match us, hl with | [_, _], _ => rfl)
    have e_Cursor_take_number : MethOk (MoN P w (Tx K) mg base delta 0) "Cursor" "take_number" "Cursor.take_number" := methOk_zero (ps := ["self", "least", "most"]) F.e_Cursor_take_number (fun _ _ _ _ _ _ us hl => match us, hl with | [_, _, _], _ => rfl)
    have e_Outsider___init__ : MethOk (MoN P w (Tx K) mg base delta 0) "Outsider" "__init__" "Outsider.__init__" := methOk_zero (ps := ["self", "rules"]) F.e_Outsider___init__ (fun _ _ _ _ _ _ us hl => match us, hl with | [_, _], _ => rfl)
    have e_Outsider___eq__ : MethOk (MoN P w (Tx K) mg base delta 0) "Outsider" "__eq__" "Outsider.__eq__" := methOk_zero (ps := ["self", "other"]) F.e_Outsider___eq__ (fun _ _ _ _ _ _ us hl => match us, hl with | [_, _], _ => rfl)
    refine ⟨fun x hx => ?_, ⟨fun x hx => by simp [knownH] at hx, callOkY_zero (ps := ["_law_actual", "_law_due"]) F.d_law_same (fun _ _ _ _ _ _ us hl => match us, hl with | [_, _], _ => rfl)⟩, raiseOk_zero F.q_BadText, raiseOk_zero F.q_BadAct, raiseOk_zero F.q_TooLarge, raiseOk_zero F.q_BadGuard, raiseOk_zero F.q_BadPaper, raiseOk_zero F.q_BadHouse, makeOk_zero F.c_Cursor e_Cursor___init__, makeOk_zero F.c_Outsider e_Outsider___init__, e_Cursor___init__, e_Cursor_word, e_Cursor_fail, e_Cursor_take, e_Cursor_take_one, e_Cursor_take_new, e_Cursor_take_number, e_Outsider___init__, e_Outsider___eq__⟩
    simp only [known, List.contains_iff_mem, List.mem_cons, List.not_mem_nil, or_false] at hx
    rcases hx with rfl | rfl | rfl | rfl | rfl | rfl | rfl | rfl | rfl | rfl | rfl | rfl | rfl | rfl | rfl | rfl | rfl | rfl | rfl | rfl | rfl | rfl | rfl
    · exact callOk_zero (ps := ["word"]) F.d_is_name (fun _ _ _ _ _ _ us hl => match us, hl with | [_], _ => rfl)
    · exact callOk_zero (ps := ["word"]) F.d_number_of (fun _ _ _ _ _ _ us hl => match us, hl with | [_], _ => rfl)
    · exact callOk_zero (ps := ["text"]) F.d_read_outsider (fun _ _ _ _ _ _ us hl => match us, hl with | [_], _ => rfl)
    · exact callOk_zero (ps := ["cursor"]) F.d_read_deed (fun _ _ _ _ _ _ us hl => match us, hl with | [_], _ => rfl)
    · exact callOk_zero (ps := ["cursor", "room"]) F.d_read_sight (fun _ _ _ _ _ _ us hl => match us, hl with | [_, _], _ => rfl)
    · exact callOk_zero (ps := ["sight"]) F.d_sight_words (fun _ _ _ _ _ _ us hl => match us, hl with | [_], _ => rfl)
    · exact callOk_zero (ps := ["outsider"]) F.d_outsider_text (fun _ _ _ _ _ _ us hl => match us, hl with | [_], _ => rfl)
    · exact callOk_zero (ps := ["_law_script", "_law_budget"]) F.d_law_pool (fun _ _ _ _ _ _ us hl => match us, hl with | [_, _], _ => rfl)
    · exact callOk_zero (ps := ["_law_pool_here", "_law_size"]) F.d_law_draw (fun _ _ _ _ _ _ us hl => match us, hl with | [_, _], _ => rfl)
    · exact callOk_zero (ps := ["_law_actual", "_law_due"]) F.d_law_same (fun _ _ _ _ _ _ us hl => match us, hl with | [_, _], _ => rfl)
    · exact callOk_zero (ps := ["_law_word"]) F.d_law_is_name (fun _ _ _ _ _ _ us hl => match us, hl with | [_], _ => rfl)
    · exact callOk_zero (ps := ["_law_word"]) F.d_law_is_number (fun _ _ _ _ _ _ us hl => match us, hl with | [_], _ => rfl)
    · exact callOk_zero (ps := ["_law_stack", "_law_count", "_law_word"]) F.d_law_next (fun _ _ _ _ _ _ us hl => match us, hl with | [_, _, _], _ => rfl)
    · exact callOk_zero (ps := ["_law_words"]) F.d_law_wrong (fun _ _ _ _ _ _ us hl => match us, hl with | [_], _ => rfl)
    · exact callOk_zero (ps := ["_law_pool_here", "_law_deep"]) F.d_law_value_words (fun _ _ _ _ _ _ us hl => match us, hl with | [_, _], _ => rfl)
    · exact callOk_zero (ps := ["_law_pool_here"]) F.d_law_chain (fun _ _ _ _ _ _ us hl => match us, hl with | [_], _ => rfl)
    · exact callOk_zero (ps := ["_law_pool_here"]) F.d_law_drawn_name (fun _ _ _ _ _ _ us hl => match us, hl with | [_], _ => rfl)
    · exact callOk_zero (ps := ["_law_pool_here"]) F.d_law_rule_words (fun _ _ _ _ _ _ us hl => match us, hl with | [_], _ => rfl)
    · exact callOk_zero (ps := ["_law_pool_here"]) F.d_law_menu (fun _ _ _ _ _ _ us hl => match us, hl with | [_], _ => rfl)
    · exact callOk_zero (ps := ["_law_pool_here", "_law_words"]) F.d_law_changed (fun _ _ _ _ _ _ us hl => match us, hl with | [_, _], _ => rfl)
    · exact callOk_zero (ps := ["_law_words", "_law_at"]) F.d_law_read_value (fun _ _ _ _ _ _ us hl => match us, hl with | [_, _], _ => rfl)
    · exact callOk_zero (ps := ["_law_words"]) F.d_law_rules (fun _ _ _ _ _ _ us hl => match us, hl with | [_], _ => rfl)
    · exact callOk_zero (ps := ["_law_script"]) F.d_law (fun _ _ _ _ _ _ us hl => match us, hl with | [_], _ => rfl)
  | succ n ih =>
    have hs := F.stc (MoN P w (Tx K) mg base delta n) rfl rfl rfl
    have e_Cursor___init__ : MethOk (MoN P w (Tx K) mg base delta (n + 1)) "Cursor" "__init__" "Cursor.__init__" := methOk_succ F.e_Cursor___init__ sc_Cursor___init__ (fun _ _ _ _ _ _ us hl => match us, hl with | [_, _], _ => rfl) (snd_Cursor___init__ hs ih) rfl
    have e_Cursor_word : MethOk (MoN P w (Tx K) mg base delta (n + 1)) "Cursor" "word" "Cursor.word" := methOk_succ F.e_Cursor_word sc_Cursor_word (fun _ _ _ _ _ _ us hl => match us, hl with | [_], _ => rfl) (snd_Cursor_word hs ih) rfl
    have e_Cursor_fail : MethOk (MoN P w (Tx K) mg base delta (n + 1)) "Cursor" "fail" "Cursor.fail" := methOk_succ F.e_Cursor_fail sc_Cursor_fail (fun _ _ _ _ _ _ us hl => match us, hl with | [_], _ => rfl) (snd_Cursor_fail hs ih) rfl
    have e_Cursor_take : MethOk (MoN P w (Tx K) mg base delta (n + 1)) "Cursor" "take" "Cursor.take" := methOk_succ F.e_Cursor_take sc_Cursor_take (fun _ _ _ _ _ _ us hl => match us, hl with | [_, _], _ => rfl) (snd_Cursor_take hs ih) rfl
    have e_Cursor_take_one : MethOk (MoN P w (Tx K) mg base delta (n + 1)) "Cursor" "take_one" "Cursor.take_one" := methOk_succ F.e_Cursor_take_one sc_Cursor_take_one (fun _ _ _ _ _ _ us hl => match us, hl with | [_, _], _ => rfl) (snd_Cursor_take_one hs ih) rfl
    have e_Cursor_take_new : MethOk (MoN P w (Tx K) mg base delta (n + 1)) "Cursor" "take_new" "Cursor.take_new" := methOk_succ F.e_Cursor_take_new sc_Cursor_take_new (fun _ _ _ _ _ _ us hl => match us, hl with | [_, _], _ => rfl) (snd_Cursor_take_new hs ih) rfl
    have e_Cursor_take_number : MethOk (MoN P w (Tx K) mg base delta (n + 1)) "Cursor" "take_number" "Cursor.take_number" := methOk_succ F.e_Cursor_take_number sc_Cursor_take_number (fun _ _ _ _ _ _ us hl => match us, hl with | [_, _, _], _ => rfl) (snd_Cursor_take_number hs ih) rfl
    have e_Outsider___init__ : MethOk (MoN P w (Tx K) mg base delta (n + 1)) "Outsider" "__init__" "Outsider.__init__" := methOk_succ F.e_Outsider___init__ sc_Outsider___init__ (fun _ _ _ _ _ _ us hl => match us, hl with | [_, _], _ => rfl) (snd_Outsider___init__ hs ih) rfl
    have e_Outsider___eq__ : MethOk (MoN P w (Tx K) mg base delta (n + 1)) "Outsider" "__eq__" "Outsider.__eq__" := methOk_succ F.e_Outsider___eq__ sc_Outsider___eq__ (fun _ _ _ _ _ _ us hl => match us, hl with | [_, _], _ => rfl) (snd_Outsider___eq__ hs ih) rfl
    refine ⟨fun x hx => ?_, ⟨fun x hx => by simp [knownH] at hx, callOkY_succ F.d_law_same sc_law_same (fun _ _ _ _ _ _ us hl => match us, hl with | [_, _], _ => rfl) (sndH_law_same hs.hotS ih.hotR) rfl⟩, raiseOk_succ F.q_BadText rfl, raiseOk_succ F.q_BadAct rfl, raiseOk_succ F.q_TooLarge rfl, raiseOk_succ F.q_BadGuard rfl, raiseOk_succ F.q_BadPaper rfl, raiseOk_succ F.q_BadHouse rfl, makeOk_succ F.c_Cursor ih.m_Cursor___init__ rfl, makeOk_succ F.c_Outsider ih.m_Outsider___init__ rfl, e_Cursor___init__, e_Cursor_word, e_Cursor_fail, e_Cursor_take, e_Cursor_take_one, e_Cursor_take_new, e_Cursor_take_number, e_Outsider___init__, e_Outsider___eq__⟩
    simp only [known, List.contains_iff_mem, List.mem_cons, List.not_mem_nil, or_false] at hx
    rcases hx with rfl | rfl | rfl | rfl | rfl | rfl | rfl | rfl | rfl | rfl | rfl | rfl | rfl | rfl | rfl | rfl | rfl | rfl | rfl | rfl | rfl | rfl | rfl
    · exact callOk_succ F.d_is_name sc_is_name (fun _ _ _ _ _ _ us hl => match us, hl with | [_], _ => rfl) (snd_is_name hs ih) rfl
    · exact callOk_succ F.d_number_of sc_number_of (fun _ _ _ _ _ _ us hl => match us, hl with | [_], _ => rfl) (snd_number_of hs ih) rfl
    · exact callOk_succ F.d_read_outsider sc_read_outsider (fun _ _ _ _ _ _ us hl => match us, hl with | [_], _ => rfl) (snd_read_outsider hs ih) rfl
    · exact callOk_succ F.d_read_deed sc_read_deed (fun _ _ _ _ _ _ us hl => match us, hl with | [_], _ => rfl) (snd_read_deed hs ih) rfl
    · exact callOk_succ F.d_read_sight sc_read_sight (fun _ _ _ _ _ _ us hl => match us, hl with | [_, _], _ => rfl) (snd_read_sight hs ih) rfl
    · exact callOk_succ F.d_sight_words sc_sight_words (fun _ _ _ _ _ _ us hl => match us, hl with | [_], _ => rfl) (snd_sight_words hs ih) rfl
    · exact callOk_succ F.d_outsider_text sc_outsider_text (fun _ _ _ _ _ _ us hl => match us, hl with | [_], _ => rfl) (snd_outsider_text hs ih) rfl
    · exact callOk_succ F.d_law_pool sc_law_pool (fun _ _ _ _ _ _ us hl => match us, hl with | [_, _], _ => rfl) (snd_law_pool hs ih) rfl
    · exact callOk_succ F.d_law_draw sc_law_draw (fun _ _ _ _ _ _ us hl => match us, hl with | [_, _], _ => rfl) (snd_law_draw hs ih) rfl
    · exact callOk_succ F.d_law_same sc_law_same (fun _ _ _ _ _ _ us hl => match us, hl with | [_, _], _ => rfl) (snd_law_same hs ih) rfl
    · exact callOk_succ F.d_law_is_name sc_law_is_name (fun _ _ _ _ _ _ us hl => match us, hl with | [_], _ => rfl) (snd_law_is_name hs ih) rfl
    · exact callOk_succ F.d_law_is_number sc_law_is_number (fun _ _ _ _ _ _ us hl => match us, hl with | [_], _ => rfl) (snd_law_is_number hs ih) rfl
    · exact callOk_succ F.d_law_next sc_law_next (fun _ _ _ _ _ _ us hl => match us, hl with | [_, _, _], _ => rfl) (snd_law_next hs ih) rfl
    · exact callOk_succ F.d_law_wrong sc_law_wrong (fun _ _ _ _ _ _ us hl => match us, hl with | [_], _ => rfl) (snd_law_wrong hs ih) rfl
    · exact callOk_succ F.d_law_value_words sc_law_value_words (fun _ _ _ _ _ _ us hl => match us, hl with | [_, _], _ => rfl) (snd_law_value_words hs ih) rfl
    · exact callOk_succ F.d_law_chain sc_law_chain (fun _ _ _ _ _ _ us hl => match us, hl with | [_], _ => rfl) (snd_law_chain hs ih) rfl
    · exact callOk_succ F.d_law_drawn_name sc_law_drawn_name (fun _ _ _ _ _ _ us hl => match us, hl with | [_], _ => rfl) (snd_law_drawn_name hs ih) rfl
    · exact callOk_succ F.d_law_rule_words sc_law_rule_words (fun _ _ _ _ _ _ us hl => match us, hl with | [_], _ => rfl) (snd_law_rule_words hs ih) rfl
    · exact callOk_succ F.d_law_menu sc_law_menu (fun _ _ _ _ _ _ us hl => match us, hl with | [_], _ => rfl) (snd_law_menu hs ih) rfl
    · exact callOk_succ F.d_law_changed sc_law_changed (fun _ _ _ _ _ _ us hl => match us, hl with | [_, _], _ => rfl) (snd_law_changed hs ih) rfl
    · exact callOk_succ F.d_law_read_value sc_law_read_value (fun _ _ _ _ _ _ us hl => match us, hl with | [_, _], _ => rfl) (snd_law_read_value hs ih) rfl
    · exact callOk_succ F.d_law_rules sc_law_rules (fun _ _ _ _ _ _ us hl => match us, hl with | [_], _ => rfl) (snd_law_rules hs ih) rfl
    · exact callOk_succ F.d_law sc_law (fun _ _ _ _ _ _ us hl => match us, hl with | [_], _ => rfl) (snd_law hs ih) rfl
theorem facts_mk {P : Program} {K : PySem.W.Frag} {h : Heap} {mg : Str → Option Value} (X : K.In h) (G : h.Ns mainGlobals mg)
    (d_is_name : DefAt K mg "is_name" (topS 13))
    (d_number_of : DefAt K mg "number_of" (topS 14))
    (d_read_outsider : DefAt K mg "read_outsider" (topS 21))
    (d_read_deed : DefAt K mg "read_deed" (topS 22))
    (d_read_sight : DefAt K mg "read_sight" (topS 23))
    (d_sight_words : DefAt K mg "sight_words" (topS 24))
    (d_outsider_text : DefAt K mg "outsider_text" (topS 25))
    (d_law_pool : DefAt K mg "_law_pool" (topS 27))
    (d_law_draw : DefAt K mg "_law_draw" (topS 28))
    (d_law_same : DefAt K mg "_law_same" (topS 29))
    (d_law_is_name : DefAt K mg "_law_is_name" (topS 30))
    (d_law_is_number : DefAt K mg "_law_is_number" (topS 31))
    (d_law_next : DefAt K mg "_law_next" (topS 32))
    (d_law_wrong : DefAt K mg "_law_wrong" (topS 33))
    (d_law_value_words : DefAt K mg "_law_value_words" (topS 34))
    (d_law_chain : DefAt K mg "_law_chain" (topS 35))
    (d_law_drawn_name : DefAt K mg "_law_drawn_name" (topS 36))
    (d_law_rule_words : DefAt K mg "_law_rule_words" (topS 37))
    (d_law_menu : DefAt K mg "_law_menu" (topS 38))
    (d_law_changed : DefAt K mg "_law_changed" (topS 39))
    (d_law_read_value : DefAt K mg "_law_read_value" (topS 40))
    (d_law_rules : DefAt K mg "_law_rules" (topS 41))
    (d_law : DefAt K mg "law" (topS 42))
    (c_Cursor : ClsAt K mg "Cursor")
    (c_Outsider : ClsAt K mg "Outsider")
    (e_Cursor___init__ : MethAt K "Cursor" "__init__" "Cursor.__init__" (mS 15 0))
    (e_Cursor_word : MethAt K "Cursor" "word" "Cursor.word" (mS 15 1))
    (e_Cursor_fail : MethAt K "Cursor" "fail" "Cursor.fail" (mS 15 2))
    (e_Cursor_take : MethAt K "Cursor" "take" "Cursor.take" (mS 15 3))
    (e_Cursor_take_one : MethAt K "Cursor" "take_one" "Cursor.take_one" (mS 15 4))
    (e_Cursor_take_new : MethAt K "Cursor" "take_new" "Cursor.take_new" (mS 15 5))
    (e_Cursor_take_number : MethAt K "Cursor" "take_number" "Cursor.take_number" (mS 15 6))
    (e_Outsider___init__ : MethAt K "Outsider" "__init__" "Outsider.__init__" (mS 20 0))
    (e_Outsider___eq__ : MethAt K "Outsider" "__eq__" "Outsider.__eq__" (mS 20 1))
    (q_BadText : ExcAt P K mg "BadText" "at")
    (q_BadAct : ExcAt P K mg "BadAct" "at")
    (q_TooLarge : ExcAt P K mg "TooLarge" "what")
    (q_BadGuard : ExcAt P K mg "BadGuard" "at")
    (q_BadPaper : ExcAt P K mg "BadPaper" "at")
    (q_BadHouse : ExcAt P K mg "BadHouse" "what")
    {CE_y_HouseError : Addr} (ya_HouseError : PySem.W.nsIn K mainGlobals "HouseError" = some (some (.ref CE_y_HouseError)))
    (y_HouseError_BadText : PairAt (ExmR K) K "BadText" "HouseError" true)
    (y_HouseError_BadAct : PairAt (ExmR K) K "BadAct" "HouseError" true)
    (y_HouseError_TooLarge : PairAt (ExmR K) K "TooLarge" "HouseError" true)
    (y_HouseError_BadGuard : PairAt (ExmR K) K "BadGuard" "HouseError" true)
    (y_HouseError_BadPaper : PairAt (ExmR K) K "BadPaper" "HouseError" true)
    (y_HouseError_BadHouse : PairAt (ExmR K) K "BadHouse" "HouseError" true)
    {CE_z_BadAct : Addr} (za_BadAct : PySem.W.nsIn K mainGlobals "BadAct" = some (some (.ref CE_z_BadAct)))
    (z_BadAct_BadText : PairAt (IsxR K) K "BadText" "BadAct" false)
    (z_BadAct_BadAct : PairAt (IsxR K) K "BadAct" "BadAct" true)
    (z_BadAct_TooLarge : PairAt (IsxR K) K "TooLarge" "BadAct" false)
    (z_BadAct_BadGuard : PairAt (IsxR K) K "BadGuard" "BadAct" false)
    (z_BadAct_BadPaper : PairAt (IsxR K) K "BadPaper" "BadAct" false)
    (z_BadAct_BadHouse : PairAt (IsxR K) K "BadHouse" "BadAct" false)
    {CE_z_BadGuard : Addr} (za_BadGuard : PySem.W.nsIn K mainGlobals "BadGuard" = some (some (.ref CE_z_BadGuard)))
    (z_BadGuard_BadText : PairAt (IsxR K) K "BadText" "BadGuard" false)
    (z_BadGuard_BadAct : PairAt (IsxR K) K "BadAct" "BadGuard" false)
    (z_BadGuard_TooLarge : PairAt (IsxR K) K "TooLarge" "BadGuard" false)
    (z_BadGuard_BadGuard : PairAt (IsxR K) K "BadGuard" "BadGuard" true)
    (z_BadGuard_BadPaper : PairAt (IsxR K) K "BadPaper" "BadGuard" false)
    (z_BadGuard_BadHouse : PairAt (IsxR K) K "BadHouse" "BadGuard" false)
    {CE_z_BadHouse : Addr} (za_BadHouse : PySem.W.nsIn K mainGlobals "BadHouse" = some (some (.ref CE_z_BadHouse)))
    (z_BadHouse_BadText : PairAt (IsxR K) K "BadText" "BadHouse" false)
    (z_BadHouse_BadAct : PairAt (IsxR K) K "BadAct" "BadHouse" false)
    (z_BadHouse_TooLarge : PairAt (IsxR K) K "TooLarge" "BadHouse" false)
    (z_BadHouse_BadGuard : PairAt (IsxR K) K "BadGuard" "BadHouse" false)
    (z_BadHouse_BadPaper : PairAt (IsxR K) K "BadPaper" "BadHouse" false)
    (z_BadHouse_BadHouse : PairAt (IsxR K) K "BadHouse" "BadHouse" true)
    {CE_z_BadPaper : Addr} (za_BadPaper : PySem.W.nsIn K mainGlobals "BadPaper" = some (some (.ref CE_z_BadPaper)))
    (z_BadPaper_BadText : PairAt (IsxR K) K "BadText" "BadPaper" false)
    (z_BadPaper_BadAct : PairAt (IsxR K) K "BadAct" "BadPaper" false)
    (z_BadPaper_TooLarge : PairAt (IsxR K) K "TooLarge" "BadPaper" false)
    (z_BadPaper_BadGuard : PairAt (IsxR K) K "BadGuard" "BadPaper" false)
    (z_BadPaper_BadPaper : PairAt (IsxR K) K "BadPaper" "BadPaper" true)
    (z_BadPaper_BadHouse : PairAt (IsxR K) K "BadHouse" "BadPaper" false)
    {CE_z_TooLarge : Addr} (za_TooLarge : PySem.W.nsIn K mainGlobals "TooLarge" = some (some (.ref CE_z_TooLarge)))
    (z_TooLarge_BadText : PairAt (IsxR K) K "BadText" "TooLarge" false)
    (z_TooLarge_BadAct : PairAt (IsxR K) K "BadAct" "TooLarge" false)
    (z_TooLarge_TooLarge : PairAt (IsxR K) K "TooLarge" "TooLarge" true)
    (z_TooLarge_BadGuard : PairAt (IsxR K) K "BadGuard" "TooLarge" false)
    (z_TooLarge_BadPaper : PairAt (IsxR K) K "BadPaper" "TooLarge" false)
    (z_TooLarge_BadHouse : PairAt (IsxR K) K "BadHouse" "TooLarge" false)
    {CE_z_BadText : Addr} (za_BadText : PySem.W.nsIn K mainGlobals "BadText" = some (some (.ref CE_z_BadText)))
    (z_BadText_BadText : PairAt (IsxR K) K "BadText" "BadText" true)
    (z_BadText_BadAct : PairAt (IsxR K) K "BadAct" "BadText" false)
    (z_BadText_TooLarge : PairAt (IsxR K) K "TooLarge" "BadText" false)
    (z_BadText_BadGuard : PairAt (IsxR K) K "BadGuard" "BadText" false)
    (z_BadText_BadPaper : PairAt (IsxR K) K "BadPaper" "BadText" false)
    (z_BadText_BadHouse : PairAt (IsxR K) K "BadHouse" "BadText" false)
    {CE_i_Outsider : Addr} (ia_Outsider : PySem.W.nsIn K mainGlobals "Outsider" = some (some (.ref CE_i_Outsider)))
    (i_Outsider_Cursor : PairAt (IscR K) K "Cursor" "Outsider" false)
    (i_Outsider_Outsider : PairAt (IscR K) K "Outsider" "Outsider" true)
    (w_at_BadText : XfAt K "BadText" "at")
    (w_at_BadAct : XfAt K "BadAct" "at")
    (w_at_BadGuard : XfAt K "BadGuard" "at")
    (w_at_BadPaper : XfAt K "BadPaper" "at")
    {p_KEYWORDS : Addr} {od_KEYWORDS : Option Addr} {its_KEYWORDS : Array Value} {n_KEYWORDS : Nat} {sl_KEYWORDS : Array (Option Value)} (a_KEYWORDS : PySem.W.nsIn K mainGlobals "KEYWORDS" = some (some (.ref p_KEYWORDS))) (l_KEYWORDS : K.lookup p_KEYWORDS = some ⟨.type "tuple", od_KEYWORDS, .seq its_KEYWORDS n_KEYWORDS, sl_KEYWORDS⟩) (v_KEYWORDS : Vals ((["asset", "contract", "var", "hold", "proc", "shown", "hidden", "end", "set", "need", "give", "get", "move", "ask", "call", "if", "else", "given", "have", "out", "mod"] : List Str).map V.str) its_KEYWORDS.toList)
    {t_GREATEST : Tok} (g_GREATEST : PySem.W.nsIn K mainGlobals "GREATEST" = some (some (.int 65535 t_GREATEST)))
    {t_DIGITS : Tok} (g_DIGITS : PySem.W.nsIn K mainGlobals "DIGITS" = some (some (.str "0123456789" t_DIGITS)))
    {t_LETTERS : Tok} (g_LETTERS : PySem.W.nsIn K mainGlobals "LETTERS" = some (some (.str "abcdefghijklmnopqrstuvwxyz" t_LETTERS)))
    {t_MOST_RULES : Tok} (g_MOST_RULES : PySem.W.nsIn K mainGlobals "MOST_RULES" = some (some (.int 40 t_MOST_RULES)))
    {p_SIGNS : Addr} {od_SIGNS : Option Addr} {its_SIGNS : Array Value} {n_SIGNS : Nat} {sl_SIGNS : Array (Option Value)} (a_SIGNS : PySem.W.nsIn K mainGlobals "SIGNS" = some (some (.ref p_SIGNS))) (l_SIGNS : K.lookup p_SIGNS = some ⟨.type "tuple", od_SIGNS, .seq its_SIGNS n_SIGNS, sl_SIGNS⟩) (v_SIGNS : Vals ((["+", "-", "*", "/", "mod", "<", "="] : List Str).map V.str) its_SIGNS.toList)
    {p_SEEN : Addr} {od_SEEN : Option Addr} {its_SEEN : Array Value} {n_SEEN : Nat} {sl_SEEN : Array (Option Value)} (a_SEEN : PySem.W.nsIn K mainGlobals "SEEN" = some (some (.ref p_SEEN))) (l_SEEN : K.lookup p_SEEN = some ⟨.type "tuple", od_SEEN, .seq its_SEEN n_SEEN, sl_SEEN⟩) (v_SEEN : Vals ((["asked", "deep", "failed", "cell"] : List Str).map V.str) its_SEEN.toList)
    (n_words_Cursor : NoAt K "Cursor" "words")
    (n_at_Cursor : NoAt K "Cursor" "at")
    (n_rules_Outsider : NoAt K "Outsider" "rules")
    (bn : ∀ x ∈ (["len", "range", "isinstance", "int", "bool", "str", "list", "tuple", "abs", "max", "min", "sum", "all", "any", "sorted", "enumerate", "zip", "dict", "reversed", "super"] : List Str), PySem.W.nsIn K mainGlobals x = some none) : Facts P K mg := by
  have stch : ∀ M : Mo, M.mg = mg → M.T = Tx K → StcH M := by
    intro M hm hT
    refine { bn := bn_of X G bn hm, g_KEYWORDS := ?_, g_GREATEST := ?_, g_DIGITS := ?_, g_LETTERS := ?_, g_MOST_RULES := ?_, g_SIGNS := ?_, g_SEEN := ?_, z_BadAct := ?_, z_BadGuard := ?_, z_BadHouse := ?_, z_BadPaper := ?_, z_TooLarge := ?_, z_BadText := ?_, w_at := ?_ }
    · exact globTup (xs := ["asset", "contract", "var", "hold", "proc", "shown", "hidden", "end", "set", "need", "give", "get", "move", "ask", "call", "if", "else", "given", "have", "out", "mod"]) hm (by rw [hT]; rfl) X G a_KEYWORDS l_KEYWORDS v_KEYWORDS
    · exact globInt hm X G g_GREATEST
    · exact globStr hm X G g_DIGITS
    · exact globStr hm X G g_LETTERS
    · exact globInt hm X G g_MOST_RULES
    · exact globTup (xs := ["+", "-", "*", "/", "mod", "<", "="]) hm (by rw [hT]; rfl) X G a_SIGNS l_SIGNS v_SIGNS
    · exact globTup (xs := ["asked", "deep", "failed", "cell"]) hm (by rw [hT]; rfl) X G a_SEEN l_SEEN v_SEEN
    · rw [show M.mg = mg from hm, show M.T = Tx K from hT]
      refine tbl_mk (l := [("BadText", false), ("BadAct", true), ("TooLarge", false), ("BadGuard", false), ("BadPaper", false), ("BadHouse", false)]) X G za_BadAct ?_
      intro p hp
      simp only [List.mem_cons, List.not_mem_nil, or_false] at hp
      rcases hp with rfl | rfl | rfl | rfl | rfl | rfl
      · exact z_BadAct_BadText
      · exact z_BadAct_BadAct
      · exact z_BadAct_TooLarge
      · exact z_BadAct_BadGuard
      · exact z_BadAct_BadPaper
      · exact z_BadAct_BadHouse
    · rw [show M.mg = mg from hm, show M.T = Tx K from hT]
      refine tbl_mk (l := [("BadText", false), ("BadAct", false), ("TooLarge", false), ("BadGuard", true), ("BadPaper", false), ("BadHouse", false)]) X G za_BadGuard ?_
      intro p hp
      simp only [List.mem_cons, List.not_mem_nil, or_false] at hp
      rcases hp with rfl | rfl | rfl | rfl | rfl | rfl
      · exact z_BadGuard_BadText
      · exact z_BadGuard_BadAct
      · exact z_BadGuard_TooLarge
      · exact z_BadGuard_BadGuard
      · exact z_BadGuard_BadPaper
      · exact z_BadGuard_BadHouse
    · rw [show M.mg = mg from hm, show M.T = Tx K from hT]
      refine tbl_mk (l := [("BadText", false), ("BadAct", false), ("TooLarge", false), ("BadGuard", false), ("BadPaper", false), ("BadHouse", true)]) X G za_BadHouse ?_
      intro p hp
      simp only [List.mem_cons, List.not_mem_nil, or_false] at hp
      rcases hp with rfl | rfl | rfl | rfl | rfl | rfl
      · exact z_BadHouse_BadText
      · exact z_BadHouse_BadAct
      · exact z_BadHouse_TooLarge
      · exact z_BadHouse_BadGuard
      · exact z_BadHouse_BadPaper
      · exact z_BadHouse_BadHouse
    · rw [show M.mg = mg from hm, show M.T = Tx K from hT]
      refine tbl_mk (l := [("BadText", false), ("BadAct", false), ("TooLarge", false), ("BadGuard", false), ("BadPaper", true), ("BadHouse", false)]) X G za_BadPaper ?_
      intro p hp
      simp only [List.mem_cons, List.not_mem_nil, or_false] at hp
      rcases hp with rfl | rfl | rfl | rfl | rfl | rfl
      · exact z_BadPaper_BadText
      · exact z_BadPaper_BadAct
      · exact z_BadPaper_TooLarge
      · exact z_BadPaper_BadGuard
      · exact z_BadPaper_BadPaper
      · exact z_BadPaper_BadHouse
    · rw [show M.mg = mg from hm, show M.T = Tx K from hT]
      refine tbl_mk (l := [("BadText", false), ("BadAct", false), ("TooLarge", true), ("BadGuard", false), ("BadPaper", false), ("BadHouse", false)]) X G za_TooLarge ?_
      intro p hp
      simp only [List.mem_cons, List.not_mem_nil, or_false] at hp
      rcases hp with rfl | rfl | rfl | rfl | rfl | rfl
      · exact z_TooLarge_BadText
      · exact z_TooLarge_BadAct
      · exact z_TooLarge_TooLarge
      · exact z_TooLarge_BadGuard
      · exact z_TooLarge_BadPaper
      · exact z_TooLarge_BadHouse
    · rw [show M.mg = mg from hm, show M.T = Tx K from hT]
      refine tbl_mk (l := [("BadText", true), ("BadAct", false), ("TooLarge", false), ("BadGuard", false), ("BadPaper", false), ("BadHouse", false)]) X G za_BadText ?_
      intro p hp
      simp only [List.mem_cons, List.not_mem_nil, or_false] at hp
      rcases hp with rfl | rfl | rfl | rfl | rfl | rfl
      · exact z_BadText_BadText
      · exact z_BadText_BadAct
      · exact z_BadText_TooLarge
      · exact z_BadText_BadGuard
      · exact z_BadText_BadPaper
      · exact z_BadText_BadHouse
    · rw [show M.T = Tx K from hT]
      refine xf_mk (cs := xc_at) ?_
      intro c hc
      simp only [xc_at, List.mem_cons, List.not_mem_nil, or_false] at hc
      rcases hc with rfl | rfl | rfl | rfl
      · exact w_at_BadText
      · exact w_at_BadAct
      · exact w_at_BadGuard
      · exact w_at_BadPaper
  have stc : ∀ M : Mo, M.mg = mg → M.T = Tx K → M.hot = false → Stc M := by
    intro M hm hT hc
    refine { bn := bn_of X G bn hm, cold := hc, g_KEYWORDS := ?_, g_GREATEST := ?_, g_DIGITS := ?_, g_LETTERS := ?_, g_MOST_RULES := ?_, g_SIGNS := ?_, g_SEEN := ?_, f_words := ?_, f_at := ?_, f_rules := ?_, y_HouseError := ?_, i_Outsider := ?_, hotS := ?_ }
    · exact globTup (xs := ["asset", "contract", "var", "hold", "proc", "shown", "hidden", "end", "set", "need", "give", "get", "move", "ask", "call", "if", "else", "given", "have", "out", "mod"]) hm (by rw [hT]; rfl) X G a_KEYWORDS l_KEYWORDS v_KEYWORDS
    · exact globInt hm X G g_GREATEST
    · exact globStr hm X G g_DIGITS
    · exact globStr hm X G g_LETTERS
    · exact globInt hm X G g_MOST_RULES
    · exact globTup (xs := ["+", "-", "*", "/", "mod", "<", "="]) hm (by rw [hT]; rfl) X G a_SIGNS l_SIGNS v_SIGNS
    · exact globTup (xs := ["asked", "deep", "failed", "cell"]) hm (by rw [hT]; rfl) X G a_SEEN l_SEEN v_SEEN
    · exact noF_mk (cs := fc_words) (by intro c hc; simp only [fc_words, List.mem_cons, List.not_mem_nil, or_false] at hc; subst hc; exact n_words_Cursor) hT
    · exact noF_mk (cs := fc_at) (by intro c hc; simp only [fc_at, List.mem_cons, List.not_mem_nil, or_false] at hc; subst hc; exact n_at_Cursor) hT
    · exact noF_mk (cs := fc_rules) (by intro c hc; simp only [fc_rules, List.mem_cons, List.not_mem_nil, or_false] at hc; subst hc; exact n_rules_Outsider) hT
    · rw [show M.mg = mg from hm, show M.T = Tx K from hT]
      refine tbl_mk (l := [("BadText", true), ("BadAct", true), ("TooLarge", true), ("BadGuard", true), ("BadPaper", true), ("BadHouse", true)]) X G ya_HouseError ?_
      intro p hp
      simp only [List.mem_cons, List.not_mem_nil, or_false] at hp
      rcases hp with rfl | rfl | rfl | rfl | rfl | rfl
      · exact y_HouseError_BadText
      · exact y_HouseError_BadAct
      · exact y_HouseError_TooLarge
      · exact y_HouseError_BadGuard
      · exact y_HouseError_BadPaper
      · exact y_HouseError_BadHouse
    · rw [show M.mg = mg from hm, show M.T = Tx K from hT]
      refine tbl_mk (l := [("Cursor", false), ("Outsider", true)]) X G ia_Outsider ?_
      intro p hp
      simp only [List.mem_cons, List.not_mem_nil, or_false] at hp
      rcases hp with rfl | rfl
      · exact i_Outsider_Cursor
      · exact i_Outsider_Outsider
    · exact stch _ hm hT
  exact ⟨d_is_name, d_number_of, d_read_outsider, d_read_deed, d_read_sight, d_sight_words, d_outsider_text, d_law_pool, d_law_draw, d_law_same, d_law_is_name, d_law_is_number, d_law_next, d_law_wrong, d_law_value_words, d_law_chain, d_law_drawn_name, d_law_rule_words, d_law_menu, d_law_changed, d_law_read_value, d_law_rules, d_law, c_Cursor, c_Outsider, e_Cursor___init__, e_Cursor_word, e_Cursor_fail, e_Cursor_take, e_Cursor_take_one, e_Cursor_take_new, e_Cursor_take_number, e_Outsider___init__, e_Outsider___eq__, q_BadText, q_BadAct, q_TooLarge, q_BadGuard, q_BadPaper, q_BadHouse, stc⟩
theorem walk {l : PySem.W.OpenLaw} {q : Program} {loose : List Str} {XP : (Str → Option Value) → Heap → Prop} {YP : World → Heap → Prop} {d : DefRec} {K : Params → PySem.W.Frag} (hn : l.most = some 63) (hdf : d.params.defaults = []) (hd : d.name = "law")
    (hY : ∀ (w : World) (h : Heap), YP w h → (K w.params).In h) (F : ∀ (w : World) (mg : Str → Option Value) (h : Heap), (K w.params).In h → h.Ns mainGlobals mg → Facts l.prog (K w.params) mg) :
    PySem.W.WalkO q loose XP YP l.row.toRowW d [] (fun f vs => PySem.call f vs) := by
  refine walk_of' (n := 63) (k := lvl) (x := "_law_script") (CX := fun w => L2N.CX l.prog w) (sp := fun w mg => spOf (Tx (K w.params)) (interp delta lvl) "law") hn (by decide) hdf ⟨rfl, by decide, by decide⟩ hY (fun w mg fa h KX G hfa => ?_) (fun w mg H a ns hl hO hS => ?_) fun w H s e s' z => noCX z
  · have Fc := F w mg h KX G
    obtain ⟨fa', fd, e1, F9⟩ := Fc.d_law.ex
    rw [hd, e1] at hfa
    cases hfa
    refine ⟨fd, fun s v => ?_, fun base KB GB => ?_⟩
    · obtain ⟨oc, od, kV, doc, pm, an, cdv, ct, osl, rfl, lk, hcd⟩ := F9.ex
      exact .of_eq rfl
    · have Fb := F w mg base KB GB
      exact fn_ok (T := Tx (K w.params)) (x := "law") F9 sc_law (snd_law (M := MoN l.prog w (Tx (K w.params)) mg base delta (lvl - 1)) (Fb.stc _ rfl rfl rfl) (all_ok Fb (lvl - 1))) fun as s => interp_eq (Δ := delta) (d := dfD 1 10 sh_law) rfl as s
  · obtain ⟨st', e⟩ := ev_law ns hl
    exact sp_law hS st' e
end K35
open PySem PySem.W PyProof.Rows
set_option maxRecDepth 100000 in
set_option maxHeartbeats 0 in
theorem PySem.Challenge.cw_nestcall_k35_whole_texts_of_outsiders_holds : PySem.Challenge.rw_nestcall_k35_whole_texts_of_outsiders.Holds := by
  w_on; o_law; k_head; (case hw => w_witness2)
  k_fill
  refine K35.walk (l := PySem.Challenge.rw_nestcall_k35_whole_texts_of_outsiders) rfl rfl rfl (fun w h Y => PySem.W.kIn_of Y) ?F
  case F =>
    intro w mg h KX G
    refine' K35.facts_mk KX G (NC.defAt_mk KX G ?a1 ?b1 ?c1 ?d1) (NC.defAt_mk KX G ?a2 ?b2 ?c2 ?d2) (NC.defAt_mk KX G ?a3 ?b3 ?c3 ?d3) (NC.defAt_mk KX G ?a4 ?b4 ?c4 ?d4) (NC.defAt_mk KX G ?a5 ?b5 ?c5 ?d5) (NC.defAt_mk KX G ?a6 ?b6 ?c6 ?d6) (NC.defAt_mk KX G ?a7 ?b7 ?c7 ?d7) (NC.defAt_mk KX G ?a8 ?b8 ?c8 ?d8) (NC.defAt_mk KX G ?a9 ?b9 ?c9 ?d9) (NC.defAt_mk KX G ?a10 ?b10 ?c10 ?d10) (NC.defAt_mk KX G ?a11 ?b11 ?c11 ?d11) (NC.defAt_mk KX G ?a12 ?b12 ?c12 ?d12) (NC.defAt_mk KX G ?a13 ?b13 ?c13 ?d13) (NC.defAt_mk KX G ?a14 ?b14 ?c14 ?d14) (NC.defAt_mk KX G ?a15 ?b15 ?c15 ?d15) (NC.defAt_mk KX G ?a16 ?b16 ?c16 ?d16) (NC.defAt_mk KX G ?a17 ?b17 ?c17 ?d17) (NC.defAt_mk KX G ?a18 ?b18 ?c18 ?d18) (NC.defAt_mk KX G ?a19 ?b19 ?c19 ?d19) (NC.defAt_mk KX G ?a20 ?b20 ?c20 ?d20) (NC.defAt_mk KX G ?a21 ?b21 ?c21 ?d21) (NC.defAt_mk KX G ?a22 ?b22 ?c22 ?d22) (NC.defAt_mk KX G ?a23 ?b23 ?c23 ?d23) (NC.clsAt_mk KX G ?a24 ?b24 ?c24 ?d24 ?e24 ?f24 ?g24) (NC.clsAt_mk KX G ?a25 ?b25 ?c25 ?d25 ?e25 ?f25 ?g25) (NC.methAt_mk ?a26 ?b26 ?c26 ?d26 ?e26 ?f26) (NC.methAt_mk ?a27 ?b27 ?c27 ?d27 ?e27 ?f27) (NC.methAt_mk ?a28 ?b28 ?c28 ?d28 ?e28 ?f28) (NC.methAt_mk ?a29 ?b29 ?c29 ?d29 ?e29 ?f29) (NC.methAt_mk ?a30 ?b30 ?c30 ?d30 ?e30 ?f30) (NC.methAt_mk ?a31 ?b31 ?c31 ?d31 ?e31 ?f31) (NC.methAt_mk ?a32 ?b32 ?c32 ?d32 ?e32 ?f32) (NC.methAt_mk ?a33 ?b33 ?c33 ?d33 ?e33 ?f33) (NC.methAt_mk ?a34 ?b34 ?c34 ?d34 ?e34 ?f34) (NC.excAt_mk KX G ?a35 ?lC35 ?sa35 ?exC35 ?tyC35 ?kC35 ?iC35 ?tI35 ?l35 ?cd35 ?hcode35 ?hcell35 ?sub35 ?sup35 ?opq35 ?nxt35 ?isV35 ?nof35 ?rv35 ?hvs35 ?hfile35 ?hp35 ?har35 ?S35 ?hks35 ?hev35 ?top35 ?ne35 ?db35 ?cdt35 ?hb35) (NC.excAt_mk KX G ?a36 ?lC36 ?sa36 ?exC36 ?tyC36 ?kC36 ?iC36 ?tI36 ?l36 ?cd36 ?hcode36 ?hcell36 ?sub36 ?sup36 ?opq36 ?nxt36 ?isV36 ?nof36 ?rv36 ?hvs36 ?hfile36 ?hp36 ?har36 ?S36 ?hks36 ?hev36 ?top36 ?ne36 ?db36 ?cdt36 ?hb36) (NC.excAt_mk KX G ?a37 ?lC37 ?sa37 ?exC37 ?tyC37 ?kC37 ?iC37 ?tI37 ?l37 ?cd37 ?hcode37 ?hcell37 ?sub37 ?sup37 ?opq37 ?nxt37 ?isV37 ?nof37 ?rv37 ?hvs37 ?hfile37 ?hp37 ?har37 ?S37 ?hks37 ?hev37 ?top37 ?ne37 ?db37 ?cdt37 ?hb37) (NC.excAt_mk KX G ?a38 ?lC38 ?sa38 ?exC38 ?tyC38 ?kC38 ?iC38 ?tI38 ?l38 ?cd38 ?hcode38 ?hcell38 ?sub38 ?sup38 ?opq38 ?nxt38 ?isV38 ?nof38 ?rv38 ?hvs38 ?hfile38 ?hp38 ?har38 ?S38 ?hks38 ?hev38 ?top38 ?ne38 ?db38 ?cdt38 ?hb38) (NC.excAt_mk KX G ?a39 ?lC39 ?sa39 ?exC39 ?tyC39 ?kC39 ?iC39 ?tI39 ?l39 ?cd39 ?hcode39 ?hcell39 ?sub39 ?sup39 ?opq39 ?nxt39 ?isV39 ?nof39 ?rv39 ?hvs39 ?hfile39 ?hp39 ?har39 ?S39 ?hks39 ?hev39 ?top39 ?ne39 ?db39 ?cdt39 ?hb39) (NC.excAt_mk KX G ?a40 ?lC40 ?sa40 ?exC40 ?tyC40 ?kC40 ?iC40 ?tI40 ?l40 ?cd40 ?hcode40 ?hcell40 ?sub40 ?sup40 ?opq40 ?nxt40 ?isV40 ?nof40 ?rv40 ?hvs40 ?hfile40 ?hp40 ?har40 ?S40 ?hks40 ?hev40 ?top40 ?ne40 ?db40 ?cdt40 ?hb40) ?a41 (NC.exm_mk ?a42 ?b42 ?c42 ?d42 ?e42 ?f42) (NC.exm_mk ?a43 ?b43 ?c43 ?d43 ?e43 ?f43) (NC.exm_mk ?a44 ?b44 ?c44 ?d44 ?e44 ?f44) (NC.exm_mk ?a45 ?b45 ?c45 ?d45 ?e45 ?f45) (NC.exm_mk ?a46 ?b46 ?c46 ?d46 ?e46 ?f46) (NC.exm_mk ?a47 ?b47 ?c47 ?d47 ?e47 ?f47) ?a48 (NC.isx_mk ?a49 ?b49 ⟨?c49, ?d49, ?e49, ?f49, ?g49, ?h49, ?i49, ?j49⟩ (NC.kitOne_other ?m49 ?n49 ?o49 ?p49)) (NC.isx_mk ?a50 ?b50 ⟨?c50, ?d50, ?e50, ?f50, ?g50, ?h50, ?i50, ?j50⟩ NC.kitOne_self) (NC.isx_mk ?a51 ?b51 ⟨?c51, ?d51, ?e51, ?f51, ?g51, ?h51, ?i51, ?j51⟩ (NC.kitOne_other ?m51 ?n51 ?o51 ?p51)) (NC.isx_mk ?a52 ?b52 ⟨?c52, ?d52, ?e52, ?f52, ?g52, ?h52, ?i52, ?j52⟩ (NC.kitOne_other ?m52 ?n52 ?o52 ?p52)) (NC.isx_mk ?a53 ?b53 ⟨?c53, ?d53, ?e53, ?f53, ?g53, ?h53, ?i53, ?j53⟩ (NC.kitOne_other ?m53 ?n53 ?o53 ?p53)) (NC.isx_mk ?a54 ?b54 ⟨?c54, ?d54, ?e54, ?f54, ?g54, ?h54, ?i54, ?j54⟩ (NC.kitOne_other ?m54 ?n54 ?o54 ?p54)) ?a55 (NC.isx_mk ?a56 ?b56 ⟨?c56, ?d56, ?e56, ?f56, ?g56, ?h56, ?i56, ?j56⟩ (NC.kitOne_other ?m56 ?n56 ?o56 ?p56)) (NC.isx_mk ?a57 ?b57 ⟨?c57, ?d57, ?e57, ?f57, ?g57, ?h57, ?i57, ?j57⟩ (NC.kitOne_other ?m57 ?n57 ?o57 ?p57)) (NC.isx_mk ?a58 ?b58 ⟨?c58, ?d58, ?e58, ?f58, ?g58, ?h58, ?i58, ?j58⟩ (NC.kitOne_other ?m58 ?n58 ?o58 ?p58)) (NC.isx_mk ?a59 ?b59 ⟨?c59, ?d59, ?e59, ?f59, ?g59, ?h59, ?i59, ?j59⟩ NC.kitOne_self) (NC.isx_mk ?a60 ?b60 ⟨?c60, ?d60, ?e60, ?f60, ?g60, ?h60, ?i60, ?j60⟩ (NC.kitOne_other ?m60 ?n60 ?o60 ?p60)) (NC.isx_mk ?a61 ?b61 ⟨?c61, ?d61, ?e61, ?f61, ?g61, ?h61, ?i61, ?j61⟩ (NC.kitOne_other ?m61 ?n61 ?o61 ?p61)) ?a62 (NC.isx_mk ?a63 ?b63 ⟨?c63, ?d63, ?e63, ?f63, ?g63, ?h63, ?i63, ?j63⟩ (NC.kitOne_other ?m63 ?n63 ?o63 ?p63)) (NC.isx_mk ?a64 ?b64 ⟨?c64, ?d64, ?e64, ?f64, ?g64, ?h64, ?i64, ?j64⟩ (NC.kitOne_other ?m64 ?n64 ?o64 ?p64)) (NC.isx_mk ?a65 ?b65 ⟨?c65, ?d65, ?e65, ?f65, ?g65, ?h65, ?i65, ?j65⟩ (NC.kitOne_other ?m65 ?n65 ?o65 ?p65)) (NC.isx_mk ?a66 ?b66 ⟨?c66, ?d66, ?e66, ?f66, ?g66, ?h66, ?i66, ?j66⟩ (NC.kitOne_other ?m66 ?n66 ?o66 ?p66)) (NC.isx_mk ?a67 ?b67 ⟨?c67, ?d67, ?e67, ?f67, ?g67, ?h67, ?i67, ?j67⟩ (NC.kitOne_other ?m67 ?n67 ?o67 ?p67)) (NC.isx_mk ?a68 ?b68 ⟨?c68, ?d68, ?e68, ?f68, ?g68, ?h68, ?i68, ?j68⟩ NC.kitOne_self) ?a69 (NC.isx_mk ?a70 ?b70 ⟨?c70, ?d70, ?e70, ?f70, ?g70, ?h70, ?i70, ?j70⟩ (NC.kitOne_other ?m70 ?n70 ?o70 ?p70)) (NC.isx_mk ?a71 ?b71 ⟨?c71, ?d71, ?e71, ?f71, ?g71, ?h71, ?i71, ?j71⟩ (NC.kitOne_other ?m71 ?n71 ?o71 ?p71)) (NC.isx_mk ?a72 ?b72 ⟨?c72, ?d72, ?e72, ?f72, ?g72, ?h72, ?i72, ?j72⟩ (NC.kitOne_other ?m72 ?n72 ?o72 ?p72)) (NC.isx_mk ?a73 ?b73 ⟨?c73, ?d73, ?e73, ?f73, ?g73, ?h73, ?i73, ?j73⟩ (NC.kitOne_other ?m73 ?n73 ?o73 ?p73)) (NC.isx_mk ?a74 ?b74 ⟨?c74, ?d74, ?e74, ?f74, ?g74, ?h74, ?i74, ?j74⟩ NC.kitOne_self) (NC.isx_mk ?a75 ?b75 ⟨?c75, ?d75, ?e75, ?f75, ?g75, ?h75, ?i75, ?j75⟩ (NC.kitOne_other ?m75 ?n75 ?o75 ?p75)) ?a76 (NC.isx_mk ?a77 ?b77 ⟨?c77, ?d77, ?e77, ?f77, ?g77, ?h77, ?i77, ?j77⟩ (NC.kitOne_other ?m77 ?n77 ?o77 ?p77)) (NC.isx_mk ?a78 ?b78 ⟨?c78, ?d78, ?e78, ?f78, ?g78, ?h78, ?i78, ?j78⟩ (NC.kitOne_other ?m78 ?n78 ?o78 ?p78)) (NC.isx_mk ?a79 ?b79 ⟨?c79, ?d79, ?e79, ?f79, ?g79, ?h79, ?i79, ?j79⟩ NC.kitOne_self) (NC.isx_mk ?a80 ?b80 ⟨?c80, ?d80, ?e80, ?f80, ?g80, ?h80, ?i80, ?j80⟩ (NC.kitOne_other ?m80 ?n80 ?o80 ?p80)) (NC.isx_mk ?a81 ?b81 ⟨?c81, ?d81, ?e81, ?f81, ?g81, ?h81, ?i81, ?j81⟩ (NC.kitOne_other ?m81 ?n81 ?o81 ?p81)) (NC.isx_mk ?a82 ?b82 ⟨?c82, ?d82, ?e82, ?f82, ?g82, ?h82, ?i82, ?j82⟩ (NC.kitOne_other ?m82 ?n82 ?o82 ?p82)) ?a83 (NC.isx_mk ?a84 ?b84 ⟨?c84, ?d84, ?e84, ?f84, ?g84, ?h84, ?i84, ?j84⟩ NC.kitOne_self) (NC.isx_mk ?a85 ?b85 ⟨?c85, ?d85, ?e85, ?f85, ?g85, ?h85, ?i85, ?j85⟩ (NC.kitOne_other ?m85 ?n85 ?o85 ?p85)) (NC.isx_mk ?a86 ?b86 ⟨?c86, ?d86, ?e86, ?f86, ?g86, ?h86, ?i86, ?j86⟩ (NC.kitOne_other ?m86 ?n86 ?o86 ?p86)) (NC.isx_mk ?a87 ?b87 ⟨?c87, ?d87, ?e87, ?f87, ?g87, ?h87, ?i87, ?j87⟩ (NC.kitOne_other ?m87 ?n87 ?o87 ?p87)) (NC.isx_mk ?a88 ?b88 ⟨?c88, ?d88, ?e88, ?f88, ?g88, ?h88, ?i88, ?j88⟩ (NC.kitOne_other ?m88 ?n88 ?o88 ?p88)) (NC.isx_mk ?a89 ?b89 ⟨?c89, ?d89, ?e89, ?f89, ?g89, ?h89, ?i89, ?j89⟩ (NC.kitOne_other ?m89 ?n89 ?o89 ?p89)) ?a90 (NC.isc_mk ?a91 ?b91 ⟨?c91, ?d91, ?e91, ?f91⟩ (NC.kitOne_other ?m91 ?n91 ?o91 ?p91)) (NC.isc_mk ?a92 ?b92 ⟨?c92, ?d92, ?e92, ?f92⟩ NC.kitOne_self) ⟨_, ?a93, ⟨?b93, ?c93, ?d93, ?e93⟩, ?f93⟩ ⟨_, ?a94, ⟨?b94, ?c94, ?d94, ?e94⟩, ?f94⟩ ⟨_, ?a95, ⟨?b95, ?c95, ?d95, ?e95⟩, ?f95⟩ ⟨_, ?a96, ⟨?b96, ?c96, ?d96, ?e96⟩, ?f96⟩ ?a97 ?b97 ?c97 ?a98 ?a99 ?a100 ?a101 ?a102 ?b102 ?c102 ?a103 ?b103 ?c103 (NC.noAt_mk ?a104 ?b104) (NC.noAt_mk ?a105 ?b105) (NC.noAt_mk ?a106 ?b106) ?bn
    (case a1 => k_is)
    (case b1 => k_is)
    (case c1 => k_is)
    (case d1 => k_is)
    (case a2 => k_is)
    (case b2 => k_is)
    (case c2 => k_is)
    (case d2 => k_is)
    (case a3 => k_is)
    (case b3 => k_is)
    (case c3 => k_is)
    (case d3 => k_is)
    (case a4 => k_is)
    (case b4 => k_is)
    (case c4 => k_is)
    (case d4 => k_is)
    (case a5 => k_is)
    (case b5 => k_is)
    (case c5 => k_is)
    (case d5 => k_is)
    (case a6 => k_is)
    (case b6 => k_is)
    (case c6 => k_is)
    (case d6 => k_is)
    (case a7 => k_is)
    (case b7 => k_is)
    (case c7 => k_is)
    (case d7 => k_is)
    (case a8 => k_is)
    (case b8 => k_is)
    (case c8 => k_is)
    (case d8 => k_is)
    (case a9 => k_is)
    (case b9 => k_is)
    (case c9 => k_is)
    (case d9 => k_is)
    (case a10 => k_is)
    (case b10 => k_is)
    (case c10 => k_is)
    (case d10 => k_is)
    (case a11 => k_is)
    (case b11 => k_is)
    (case c11 => k_is)
    (case d11 => k_is)
    (case a12 => k_is)
    (case b12 => k_is)
    (case c12 => k_is)
    (case d12 => k_is)
    (case a13 => k_is)
    (case b13 => k_is)
    (case c13 => k_is)
    (case d13 => k_is)
    (case a14 => k_is)
    (case b14 => k_is)
    (case c14 => k_is)
    (case d14 => k_is)
    (case a15 => k_is)
    (case b15 => k_is)
    (case c15 => k_is)
    (case d15 => k_is)
    (case a16 => k_is)
    (case b16 => k_is)
    (case c16 => k_is)
    (case d16 => k_is)
    (case a17 => k_is)
    (case b17 => k_is)
    (case c17 => k_is)
    (case d17 => k_is)
    (case a18 => k_is)
    (case b18 => k_is)
    (case c18 => k_is)
    (case d18 => k_is)
    (case a19 => k_is)
    (case b19 => k_is)
    (case c19 => k_is)
    (case d19 => k_is)
    (case a20 => k_is)
    (case b20 => k_is)
    (case c20 => k_is)
    (case d20 => k_is)
    (case a21 => k_is)
    (case b21 => k_is)
    (case c21 => k_is)
    (case d21 => k_is)
    (case a22 => k_is)
    (case b22 => k_is)
    (case c22 => k_is)
    (case d22 => k_is)
    (case a23 => k_is)
    (case b23 => k_is)
    (case c23 => k_is)
    (case d23 => k_is)
    (case a24 => k_is)
    (case b24 => k_is)
    (case c24 => k_is)
    (case d24 => k_is)
    (case e24 => k_is)
    (case f24 => k_is)
    (case g24 => k_is)
    (case a25 => k_is)
    (case b25 => k_is)
    (case c25 => k_is)
    (case d25 => k_is)
    (case e25 => k_is)
    (case f25 => k_is)
    (case g25 => k_is)
    (case a26 => k_is)
    (case b26 => k_is)
    (case c26 => k_is)
    (case d26 => k_is)
    (case e26 => k_is)
    (case f26 => k_is)
    (case a27 => k_is)
    (case b27 => k_is)
    (case c27 => k_is)
    (case d27 => k_is)
    (case e27 => k_is)
    (case f27 => k_is)
    (case a28 => k_is)
    (case b28 => k_is)
    (case c28 => k_is)
    (case d28 => k_is)
    (case e28 => k_is)
    (case f28 => k_is)
    (case a29 => k_is)
    (case b29 => k_is)
    (case c29 => k_is)
    (case d29 => k_is)
    (case e29 => k_is)
    (case f29 => k_is)
    (case a30 => k_is)
    (case b30 => k_is)
    (case c30 => k_is)
    (case d30 => k_is)
    (case e30 => k_is)
    (case f30 => k_is)
    (case a31 => k_is)
    (case b31 => k_is)
    (case c31 => k_is)
    (case d31 => k_is)
    (case e31 => k_is)
    (case f31 => k_is)
    (case a32 => k_is)
    (case b32 => k_is)
    (case c32 => k_is)
    (case d32 => k_is)
    (case e32 => k_is)
    (case f32 => k_is)
    (case a33 => k_is)
    (case b33 => k_is)
    (case c33 => k_is)
    (case d33 => k_is)
    (case e33 => k_is)
    (case f33 => k_is)
    (case a34 => k_is)
    (case b34 => k_is)
    (case c34 => k_is)
    (case d34 => k_is)
    (case e34 => k_is)
    (case f34 => k_is)
    (case a35 => k_is)
    (case lC35 => k_is)
    (case sa35 => k_is)
    (case exC35 => k_is)
    (case tyC35 => k_is)
    (case kC35 => k_is)
    (case iC35 => k_is)
    (case tI35 => k_is)
    (case l35 => k_is)
    (case cd35 => k_is)
    (case hcode35 => k_is)
    (case hcell35 => k_is)
    (case sub35 => k_is)
    (case sup35 => k_is)
    (case opq35 => k_is)
    (case nxt35 => ks_is)
    (case isV35 => k_is)
    (case nof35 => k_is)
    (case rv35 => first | rfl | decide +kernel)
    (case hvs35 => rfl)
    (case hfile35 => first | rfl | decide +kernel)
    (case hp35 => rfl)
    (case har35 => rfl)
    (case S35 => exact NdefX.nscope_by (by decide +kernel))
    (case hks35 => first | rfl | decide +kernel)
    (case hev35 => exact fun _ => ⟨_, rfl⟩)
    (case top35 => first | rfl | decide +kernel)
    (case ne35 => decide)
    (case db35 => decide)
    (case cdt35 => decide)
    (case hb35 => exact fun us hl => match us, hl with | [_, _], _ => rfl)
    (case a36 => k_is)
    (case lC36 => k_is)
    (case sa36 => k_is)
    (case exC36 => k_is)
    (case tyC36 => k_is)
    (case kC36 => k_is)
    (case iC36 => k_is)
    (case tI36 => k_is)
    (case l36 => k_is)
    (case cd36 => k_is)
    (case hcode36 => k_is)
    (case hcell36 => k_is)
    (case sub36 => k_is)
    (case sup36 => k_is)
    (case opq36 => k_is)
    (case nxt36 => ks_is)
    (case isV36 => k_is)
    (case nof36 => k_is)
    (case rv36 => first | rfl | decide +kernel)
    (case hvs36 => rfl)
    (case hfile36 => first | rfl | decide +kernel)
    (case hp36 => rfl)
    (case har36 => rfl)
    (case S36 => exact NdefX.nscope_by (by decide +kernel))
    (case hks36 => first | rfl | decide +kernel)
    (case hev36 => exact fun _ => ⟨_, rfl⟩)
    (case top36 => first | rfl | decide +kernel)
    (case ne36 => decide)
    (case db36 => decide)
    (case cdt36 => decide)
    (case hb36 => exact fun us hl => match us, hl with | [_, _], _ => rfl)
    (case a37 => k_is)
    (case lC37 => k_is)
    (case sa37 => k_is)
    (case exC37 => k_is)
    (case tyC37 => k_is)
    (case kC37 => k_is)
    (case iC37 => k_is)
    (case tI37 => k_is)
    (case l37 => k_is)
    (case cd37 => k_is)
    (case hcode37 => k_is)
    (case hcell37 => k_is)
    (case sub37 => k_is)
    (case sup37 => k_is)
    (case opq37 => k_is)
    (case nxt37 => ks_is)
    (case isV37 => k_is)
    (case nof37 => k_is)
    (case rv37 => first | rfl | decide +kernel)
    (case hvs37 => rfl)
    (case hfile37 => first | rfl | decide +kernel)
    (case hp37 => rfl)
    (case har37 => rfl)
    (case S37 => exact NdefX.nscope_by (by decide +kernel))
    (case hks37 => first | rfl | decide +kernel)
    (case hev37 => exact fun _ => ⟨_, rfl⟩)
    (case top37 => first | rfl | decide +kernel)
    (case ne37 => decide)
    (case db37 => decide)
    (case cdt37 => decide)
    (case hb37 => exact fun us hl => match us, hl with | [_, _], _ => rfl)
    (case a38 => k_is)
    (case lC38 => k_is)
    (case sa38 => k_is)
    (case exC38 => k_is)
    (case tyC38 => k_is)
    (case kC38 => k_is)
    (case iC38 => k_is)
    (case tI38 => k_is)
    (case l38 => k_is)
    (case cd38 => k_is)
    (case hcode38 => k_is)
    (case hcell38 => k_is)
    (case sub38 => k_is)
    (case sup38 => k_is)
    (case opq38 => k_is)
    (case nxt38 => ks_is)
    (case isV38 => k_is)
    (case nof38 => k_is)
    (case rv38 => first | rfl | decide +kernel)
    (case hvs38 => rfl)
    (case hfile38 => first | rfl | decide +kernel)
    (case hp38 => rfl)
    (case har38 => rfl)
    (case S38 => exact NdefX.nscope_by (by decide +kernel))
    (case hks38 => first | rfl | decide +kernel)
    (case hev38 => exact fun _ => ⟨_, rfl⟩)
    (case top38 => first | rfl | decide +kernel)
    (case ne38 => decide)
    (case db38 => decide)
    (case cdt38 => decide)
    (case hb38 => exact fun us hl => match us, hl with | [_, _], _ => rfl)
    (case a39 => k_is)
    (case lC39 => k_is)
    (case sa39 => k_is)
    (case exC39 => k_is)
    (case tyC39 => k_is)
    (case kC39 => k_is)
    (case iC39 => k_is)
    (case tI39 => k_is)
    (case l39 => k_is)
    (case cd39 => k_is)
    (case hcode39 => k_is)
    (case hcell39 => k_is)
    (case sub39 => k_is)
    (case sup39 => k_is)
    (case opq39 => k_is)
    (case nxt39 => ks_is)
    (case isV39 => k_is)
    (case nof39 => k_is)
    (case rv39 => first | rfl | decide +kernel)
    (case hvs39 => rfl)
    (case hfile39 => first | rfl | decide +kernel)
    (case hp39 => rfl)
    (case har39 => rfl)
    (case S39 => exact NdefX.nscope_by (by decide +kernel))
    (case hks39 => first | rfl | decide +kernel)
    (case hev39 => exact fun _ => ⟨_, rfl⟩)
    (case top39 => first | rfl | decide +kernel)
    (case ne39 => decide)
    (case db39 => decide)
    (case cdt39 => decide)
    (case hb39 => exact fun us hl => match us, hl with | [_, _], _ => rfl)
    (case a40 => k_is)
    (case lC40 => k_is)
    (case sa40 => k_is)
    (case exC40 => k_is)
    (case tyC40 => k_is)
    (case kC40 => k_is)
    (case iC40 => k_is)
    (case tI40 => k_is)
    (case l40 => k_is)
    (case cd40 => k_is)
    (case hcode40 => k_is)
    (case hcell40 => k_is)
    (case sub40 => k_is)
    (case sup40 => k_is)
    (case opq40 => k_is)
    (case nxt40 => ks_is)
    (case isV40 => k_is)
    (case nof40 => k_is)
    (case rv40 => first | rfl | decide +kernel)
    (case hvs40 => rfl)
    (case hfile40 => first | rfl | decide +kernel)
    (case hp40 => rfl)
    (case har40 => rfl)
    (case S40 => exact NdefX.nscope_by (by decide +kernel))
    (case hks40 => first | rfl | decide +kernel)
    (case hev40 => exact fun _ => ⟨_, rfl⟩)
    (case top40 => first | rfl | decide +kernel)
    (case ne40 => decide)
    (case db40 => decide)
    (case cdt40 => decide)
    (case hb40 => exact fun us hl => match us, hl with | [_, _], _ => rfl)
    (case a41 => k_is)
    (case a42 => k_is)
    (case b42 => k_is)
    (case c42 => k_is)
    (case d42 => k_is)
    (case e42 => k_is)
    (case f42 => k_is)
    (case a43 => k_is)
    (case b43 => k_is)
    (case c43 => k_is)
    (case d43 => k_is)
    (case e43 => k_is)
    (case f43 => k_is)
    (case a44 => k_is)
    (case b44 => k_is)
    (case c44 => k_is)
    (case d44 => k_is)
    (case e44 => k_is)
    (case f44 => k_is)
    (case a45 => k_is)
    (case b45 => k_is)
    (case c45 => k_is)
    (case d45 => k_is)
    (case e45 => k_is)
    (case f45 => k_is)
    (case a46 => k_is)
    (case b46 => k_is)
    (case c46 => k_is)
    (case d46 => k_is)
    (case e46 => k_is)
    (case f46 => k_is)
    (case a47 => k_is)
    (case b47 => k_is)
    (case c47 => k_is)
    (case d47 => k_is)
    (case e47 => k_is)
    (case f47 => k_is)
    (case a48 => k_is)
    (case a49 => k_is)
    (case b49 => k_is)
    (case c49 => k_is)
    (case d49 => k_is)
    (case e49 => k_is)
    (case f49 => k_is)
    (case g49 => k_is)
    (case h49 => k_is)
    (case i49 => k_is)
    (case j49 => k_is)
    (case m49 => rfl)
    (case n49 => k_is)
    (case o49 => k_is)
    (case p49 => k_is)
    (case a50 => k_is)
    (case b50 => k_is)
    (case c50 => k_is)
    (case d50 => k_is)
    (case e50 => k_is)
    (case f50 => k_is)
    (case g50 => k_is)
    (case h50 => k_is)
    (case i50 => k_is)
    (case j50 => k_is)
    (case a51 => k_is)
    (case b51 => k_is)
    (case c51 => k_is)
    (case d51 => k_is)
    (case e51 => k_is)
    (case f51 => k_is)
    (case g51 => k_is)
    (case h51 => k_is)
    (case i51 => k_is)
    (case j51 => k_is)
    (case m51 => rfl)
    (case n51 => k_is)
    (case o51 => k_is)
    (case p51 => k_is)
    (case a52 => k_is)
    (case b52 => k_is)
    (case c52 => k_is)
    (case d52 => k_is)
    (case e52 => k_is)
    (case f52 => k_is)
    (case g52 => k_is)
    (case h52 => k_is)
    (case i52 => k_is)
    (case j52 => k_is)
    (case m52 => rfl)
    (case n52 => k_is)
    (case o52 => k_is)
    (case p52 => k_is)
    (case a53 => k_is)
    (case b53 => k_is)
    (case c53 => k_is)
    (case d53 => k_is)
    (case e53 => k_is)
    (case f53 => k_is)
    (case g53 => k_is)
    (case h53 => k_is)
    (case i53 => k_is)
    (case j53 => k_is)
    (case m53 => rfl)
    (case n53 => k_is)
    (case o53 => k_is)
    (case p53 => k_is)
    (case a54 => k_is)
    (case b54 => k_is)
    (case c54 => k_is)
    (case d54 => k_is)
    (case e54 => k_is)
    (case f54 => k_is)
    (case g54 => k_is)
    (case h54 => k_is)
    (case i54 => k_is)
    (case j54 => k_is)
    (case m54 => rfl)
    (case n54 => k_is)
    (case o54 => k_is)
    (case p54 => k_is)
    (case a55 => k_is)
    (case a56 => k_is)
    (case b56 => k_is)
    (case c56 => k_is)
    (case d56 => k_is)
    (case e56 => k_is)
    (case f56 => k_is)
    (case g56 => k_is)
    (case h56 => k_is)
    (case i56 => k_is)
    (case j56 => k_is)
    (case m56 => rfl)
    (case n56 => k_is)
    (case o56 => k_is)
    (case p56 => k_is)
    (case a57 => k_is)
    (case b57 => k_is)
    (case c57 => k_is)
    (case d57 => k_is)
    (case e57 => k_is)
    (case f57 => k_is)
    (case g57 => k_is)
    (case h57 => k_is)
    (case i57 => k_is)
    (case j57 => k_is)
    (case m57 => rfl)
    (case n57 => k_is)
    (case o57 => k_is)
    (case p57 => k_is)
    (case a58 => k_is)
    (case b58 => k_is)
    (case c58 => k_is)
    (case d58 => k_is)
    (case e58 => k_is)
    (case f58 => k_is)
    (case g58 => k_is)
    (case h58 => k_is)
    (case i58 => k_is)
    (case j58 => k_is)
    (case m58 => rfl)
    (case n58 => k_is)
    (case o58 => k_is)
    (case p58 => k_is)
    (case a59 => k_is)
    (case b59 => k_is)
    (case c59 => k_is)
    (case d59 => k_is)
    (case e59 => k_is)
    (case f59 => k_is)
    (case g59 => k_is)
    (case h59 => k_is)
    (case i59 => k_is)
    (case j59 => k_is)
    (case a60 => k_is)
    (case b60 => k_is)
    (case c60 => k_is)
    (case d60 => k_is)
    (case e60 => k_is)
    (case f60 => k_is)
    (case g60 => k_is)
    (case h60 => k_is)
    (case i60 => k_is)
    (case j60 => k_is)
    (case m60 => rfl)
    (case n60 => k_is)
    (case o60 => k_is)
    (case p60 => k_is)
    (case a61 => k_is)
    (case b61 => k_is)
    (case c61 => k_is)
    (case d61 => k_is)
    (case e61 => k_is)
    (case f61 => k_is)
    (case g61 => k_is)
    (case h61 => k_is)
    (case i61 => k_is)
    (case j61 => k_is)
    (case m61 => rfl)
    (case n61 => k_is)
    (case o61 => k_is)
    (case p61 => k_is)
    (case a62 => k_is)
    (case a63 => k_is)
    (case b63 => k_is)
    (case c63 => k_is)
    (case d63 => k_is)
    (case e63 => k_is)
    (case f63 => k_is)
    (case g63 => k_is)
    (case h63 => k_is)
    (case i63 => k_is)
    (case j63 => k_is)
    (case m63 => rfl)
    (case n63 => k_is)
    (case o63 => k_is)
    (case p63 => k_is)
    (case a64 => k_is)
    (case b64 => k_is)
    (case c64 => k_is)
    (case d64 => k_is)
    (case e64 => k_is)
    (case f64 => k_is)
    (case g64 => k_is)
    (case h64 => k_is)
    (case i64 => k_is)
    (case j64 => k_is)
    (case m64 => rfl)
    (case n64 => k_is)
    (case o64 => k_is)
    (case p64 => k_is)
    (case a65 => k_is)
    (case b65 => k_is)
    (case c65 => k_is)
    (case d65 => k_is)
    (case e65 => k_is)
    (case f65 => k_is)
    (case g65 => k_is)
    (case h65 => k_is)
    (case i65 => k_is)
    (case j65 => k_is)
    (case m65 => rfl)
    (case n65 => k_is)
    (case o65 => k_is)
    (case p65 => k_is)
    (case a66 => k_is)
    (case b66 => k_is)
    (case c66 => k_is)
    (case d66 => k_is)
    (case e66 => k_is)
    (case f66 => k_is)
    (case g66 => k_is)
    (case h66 => k_is)
    (case i66 => k_is)
    (case j66 => k_is)
    (case m66 => rfl)
    (case n66 => k_is)
    (case o66 => k_is)
    (case p66 => k_is)
    (case a67 => k_is)
    (case b67 => k_is)
    (case c67 => k_is)
    (case d67 => k_is)
    (case e67 => k_is)
    (case f67 => k_is)
    (case g67 => k_is)
    (case h67 => k_is)
    (case i67 => k_is)
    (case j67 => k_is)
    (case m67 => rfl)
    (case n67 => k_is)
    (case o67 => k_is)
    (case p67 => k_is)
    (case a68 => k_is)
    (case b68 => k_is)
    (case c68 => k_is)
    (case d68 => k_is)
    (case e68 => k_is)
    (case f68 => k_is)
    (case g68 => k_is)
    (case h68 => k_is)
    (case i68 => k_is)
    (case j68 => k_is)
    (case a69 => k_is)
    (case a70 => k_is)
    (case b70 => k_is)
    (case c70 => k_is)
    (case d70 => k_is)
    (case e70 => k_is)
    (case f70 => k_is)
    (case g70 => k_is)
    (case h70 => k_is)
    (case i70 => k_is)
    (case j70 => k_is)
    (case m70 => rfl)
    (case n70 => k_is)
    (case o70 => k_is)
    (case p70 => k_is)
    (case a71 => k_is)
    (case b71 => k_is)
    (case c71 => k_is)
    (case d71 => k_is)
    (case e71 => k_is)
    (case f71 => k_is)
    (case g71 => k_is)
    (case h71 => k_is)
    (case i71 => k_is)
    (case j71 => k_is)
    (case m71 => rfl)
    (case n71 => k_is)
    (case o71 => k_is)
    (case p71 => k_is)
    (case a72 => k_is)
    (case b72 => k_is)
    (case c72 => k_is)
    (case d72 => k_is)
    (case e72 => k_is)
    (case f72 => k_is)
    (case g72 => k_is)
    (case h72 => k_is)
    (case i72 => k_is)
    (case j72 => k_is)
    (case m72 => rfl)
    (case n72 => k_is)
    (case o72 => k_is)
    (case p72 => k_is)
    (case a73 => k_is)
    (case b73 => k_is)
    (case c73 => k_is)
    (case d73 => k_is)
    (case e73 => k_is)
    (case f73 => k_is)
    (case g73 => k_is)
    (case h73 => k_is)
    (case i73 => k_is)
    (case j73 => k_is)
    (case m73 => rfl)
    (case n73 => k_is)
    (case o73 => k_is)
    (case p73 => k_is)
    (case a74 => k_is)
    (case b74 => k_is)
    (case c74 => k_is)
    (case d74 => k_is)
    (case e74 => k_is)
    (case f74 => k_is)
    (case g74 => k_is)
    (case h74 => k_is)
    (case i74 => k_is)
    (case j74 => k_is)
    (case a75 => k_is)
    (case b75 => k_is)
    (case c75 => k_is)
    (case d75 => k_is)
    (case e75 => k_is)
    (case f75 => k_is)
    (case g75 => k_is)
    (case h75 => k_is)
    (case i75 => k_is)
    (case j75 => k_is)
    (case m75 => rfl)
    (case n75 => k_is)
    (case o75 => k_is)
    (case p75 => k_is)
    (case a76 => k_is)
    (case a77 => k_is)
    (case b77 => k_is)
    (case c77 => k_is)
    (case d77 => k_is)
    (case e77 => k_is)
    (case f77 => k_is)
    (case g77 => k_is)
    (case h77 => k_is)
    (case i77 => k_is)
    (case j77 => k_is)
    (case m77 => rfl)
    (case n77 => k_is)
    (case o77 => k_is)
    (case p77 => k_is)
    (case a78 => k_is)
    (case b78 => k_is)
    (case c78 => k_is)
    (case d78 => k_is)
    (case e78 => k_is)
    (case f78 => k_is)
    (case g78 => k_is)
    (case h78 => k_is)
    (case i78 => k_is)
    (case j78 => k_is)
    (case m78 => rfl)
    (case n78 => k_is)
    (case o78 => k_is)
    (case p78 => k_is)
    (case a79 => k_is)
    (case b79 => k_is)
    (case c79 => k_is)
    (case d79 => k_is)
    (case e79 => k_is)
    (case f79 => k_is)
    (case g79 => k_is)
    (case h79 => k_is)
    (case i79 => k_is)
    (case j79 => k_is)
    (case a80 => k_is)
    (case b80 => k_is)
    (case c80 => k_is)
    (case d80 => k_is)
    (case e80 => k_is)
    (case f80 => k_is)
    (case g80 => k_is)
    (case h80 => k_is)
    (case i80 => k_is)
    (case j80 => k_is)
    (case m80 => rfl)
    (case n80 => k_is)
    (case o80 => k_is)
    (case p80 => k_is)
    (case a81 => k_is)
    (case b81 => k_is)
    (case c81 => k_is)
    (case d81 => k_is)
    (case e81 => k_is)
    (case f81 => k_is)
    (case g81 => k_is)
    (case h81 => k_is)
    (case i81 => k_is)
    (case j81 => k_is)
    (case m81 => rfl)
    (case n81 => k_is)
    (case o81 => k_is)
    (case p81 => k_is)
    (case a82 => k_is)
    (case b82 => k_is)
    (case c82 => k_is)
    (case d82 => k_is)
    (case e82 => k_is)
    (case f82 => k_is)
    (case g82 => k_is)
    (case h82 => k_is)
    (case i82 => k_is)
    (case j82 => k_is)
    (case m82 => rfl)
    (case n82 => k_is)
    (case o82 => k_is)
    (case p82 => k_is)
    (case a83 => k_is)
    (case a84 => k_is)
    (case b84 => k_is)
    (case c84 => k_is)
    (case d84 => k_is)
    (case e84 => k_is)
    (case f84 => k_is)
    (case g84 => k_is)
    (case h84 => k_is)
    (case i84 => k_is)
    (case j84 => k_is)
    (case a85 => k_is)
    (case b85 => k_is)
    (case c85 => k_is)
    (case d85 => k_is)
    (case e85 => k_is)
    (case f85 => k_is)
    (case g85 => k_is)
    (case h85 => k_is)
    (case i85 => k_is)
    (case j85 => k_is)
    (case m85 => rfl)
    (case n85 => k_is)
    (case o85 => k_is)
    (case p85 => k_is)
    (case a86 => k_is)
    (case b86 => k_is)
    (case c86 => k_is)
    (case d86 => k_is)
    (case e86 => k_is)
    (case f86 => k_is)
    (case g86 => k_is)
    (case h86 => k_is)
    (case i86 => k_is)
    (case j86 => k_is)
    (case m86 => rfl)
    (case n86 => k_is)
    (case o86 => k_is)
    (case p86 => k_is)
    (case a87 => k_is)
    (case b87 => k_is)
    (case c87 => k_is)
    (case d87 => k_is)
    (case e87 => k_is)
    (case f87 => k_is)
    (case g87 => k_is)
    (case h87 => k_is)
    (case i87 => k_is)
    (case j87 => k_is)
    (case m87 => rfl)
    (case n87 => k_is)
    (case o87 => k_is)
    (case p87 => k_is)
    (case a88 => k_is)
    (case b88 => k_is)
    (case c88 => k_is)
    (case d88 => k_is)
    (case e88 => k_is)
    (case f88 => k_is)
    (case g88 => k_is)
    (case h88 => k_is)
    (case i88 => k_is)
    (case j88 => k_is)
    (case m88 => rfl)
    (case n88 => k_is)
    (case o88 => k_is)
    (case p88 => k_is)
    (case a89 => k_is)
    (case b89 => k_is)
    (case c89 => k_is)
    (case d89 => k_is)
    (case e89 => k_is)
    (case f89 => k_is)
    (case g89 => k_is)
    (case h89 => k_is)
    (case i89 => k_is)
    (case j89 => k_is)
    (case m89 => rfl)
    (case n89 => k_is)
    (case o89 => k_is)
    (case p89 => k_is)
    (case a90 => k_is)
    (case a91 => k_is)
    (case b91 => k_is)
    (case c91 => k_is)
    (case d91 => k_is)
    (case e91 => k_is)
    (case f91 => k_is)
    (case m91 => rfl)
    (case n91 => k_is)
    (case o91 => k_is)
    (case p91 => k_is)
    (case a92 => k_is)
    (case b92 => k_is)
    (case c92 => k_is)
    (case d92 => k_is)
    (case e92 => k_is)
    (case f92 => k_is)
    (case a93 => k_is)
    (case b93 => k_is)
    (case c93 => k_is)
    (case d93 => k_is)
    (case e93 => k_is)
    (case f93 => k_is)
    (case a94 => k_is)
    (case b94 => k_is)
    (case c94 => k_is)
    (case d94 => k_is)
    (case e94 => k_is)
    (case f94 => k_is)
    (case a95 => k_is)
    (case b95 => k_is)
    (case c95 => k_is)
    (case d95 => k_is)
    (case e95 => k_is)
    (case f95 => k_is)
    (case a96 => k_is)
    (case b96 => k_is)
    (case c96 => k_is)
    (case d96 => k_is)
    (case e96 => k_is)
    (case f96 => k_is)
    (case a97 => k_is)
    (case b97 => k_is)
    (case c97 => exact (.cons ⟨_, rfl⟩ (.cons ⟨_, rfl⟩ (.cons ⟨_, rfl⟩ (.cons ⟨_, rfl⟩ (.cons ⟨_, rfl⟩ (.cons ⟨_, rfl⟩ (.cons ⟨_, rfl⟩ (.cons ⟨_, rfl⟩ (.cons ⟨_, rfl⟩ (.cons ⟨_, rfl⟩ (.cons ⟨_, rfl⟩ (.cons ⟨_, rfl⟩ (.cons ⟨_, rfl⟩ (.cons ⟨_, rfl⟩ (.cons ⟨_, rfl⟩ (.cons ⟨_, rfl⟩ (.cons ⟨_, rfl⟩ (.cons ⟨_, rfl⟩ (.cons ⟨_, rfl⟩ (.cons ⟨_, rfl⟩ (.cons ⟨_, rfl⟩ .nil))))))))))))))))))))))
    (case a98 => k_is)
    (case a99 => k_is)
    (case a100 => k_is)
    (case a101 => k_is)
    (case a102 => k_is)
    (case b102 => k_is)
    (case c102 => exact (.cons ⟨_, rfl⟩ (.cons ⟨_, rfl⟩ (.cons ⟨_, rfl⟩ (.cons ⟨_, rfl⟩ (.cons ⟨_, rfl⟩ (.cons ⟨_, rfl⟩ (.cons ⟨_, rfl⟩ .nil))))))))
    (case a103 => k_is)
    (case b103 => k_is)
    (case c103 => exact (.cons ⟨_, rfl⟩ (.cons ⟨_, rfl⟩ (.cons ⟨_, rfl⟩ (.cons ⟨_, rfl⟩ .nil)))))
    (case a104 => k_is)
    (case b104 => k_is)
    (case a105 => k_is)
    (case b105 => k_is)
    (case a106 => k_is)
    (case b106 => k_is)
    (case bn => (intro x hx; simp only [List.mem_cons, List.not_mem_nil, or_false] at hx; rcases hx with rfl | rfl | rfl | rfl | rfl | rfl | rfl | rfl | rfl | rfl | rfl | rfl | rfl | rfl | rfl | rfl | rfl | rfl | rfl | rfl <;> k_is))
