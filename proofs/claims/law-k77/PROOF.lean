import PyProof.Rows.All
import Wide.All
import OpenK.AllK
import Wide.FinOn
import HandS.ForMost
import HandS.Walk
import HandS.FStr
import HandS.Rev
import HandS.IsInst
import HandS.ReplaceLit
import HandS.Zip
import HandS.Style
import KE.KExcSuper
import HandS.ExcInit
import HandS.WordsExc
import PyProof.StrLawsTight
import HandS.WordsDict
import HandS.ReplaceDef
import PySem.Challenge.RW_asmany_k77_whole_texts_with_fifty_parent
import HandS.ExcField
set_option Elab.async false
set_option linter.all false
set_option maxRecDepth 100000
set_option maxHeartbeats 1000000
/-! DL1: data told as plain trees over the tracked heap; the world of a running def; what an expression gives. -/
namespace DL
open PySem PySem.Spec PyProof.Rows L2
abbrev St := L2.St

/-! ### data -/
inductive Dt where
  | non
  | bl (b : Bool)
  | int (i : Int)
  | str (s : Str)
  | lst (xs : List Dt)
  | tup (xs : List Dt)
  | dct (ks : List Key) (xs : List Dt)
  | obj (C : Addr) (ns : List Str) (xs : List Dt)

mutual
inductive Dq (H : Hp) : V → Dt → Prop
  | non : Dq H .non .non
  | bl (b : Bool) : Dq H (.bl b) (.bl b)
  | int (i : Int) : Dq H (.int i) (.int i)
  | str (x : Str) : Dq H (.str x) (.str x)
  | lst {a : Addr} {xs : List V} {ds : List Dt} : H a = some (.lst xs) → DqL H xs ds → Dq H (.ref a) (.lst ds)
  | tup {a : Addr} {xs : List V} {ds : List Dt} : H a = some (.tup xs) → DqL H xs ds → Dq H (.ref a) (.tup ds)
  | dct {a : Addr} {kv : List (Key × V)} {ds : List Dt} : H a = some (.dK kv) → DqL H (kv.map (·.2)) ds → Dq H (.ref a) (.dct (kv.map (·.1)) ds)
  | obj {a C dx : Addr} {fs : List (Str × V)} {ds : List Dt} : H a = some (.ins C dx fs) → DqL H (fs.map (·.2)) ds → Dq H (.ref a) (.obj C (fs.map (·.1)) ds)
inductive DqL (H : Hp) : List V → List Dt → Prop
  | nil : DqL H [] []
  | cons {v : V} {vs : List V} {d : Dt} {ds : List Dt} : Dq H v d → DqL H vs ds → DqL H (v :: vs) (d :: ds)
end

/-- every tracked thing of the one is a tracked thing of the other -/
def Le (H H' : Hp) : Prop := ∀ b o, H b = some o → H' b = some o
theorem Le.refl (H : Hp) : Le H H := fun _ _ h => h
theorem Le.trans {H H1 H2 : Hp} (a : Le H H1) (b : Le H1 H2) : Le H H2 := fun c o h => b c o (a c o h)
theorem Le.new {H : Hp} {p : Addr} {o : HO} (h : H p = none) : Le H (upd H p o) := fun b u e => by
  rw [upd_ne (ne_of_none e h)]
  exact e

mutual
theorem Dq.mono {H H' : Hp} (e : Le H H') {v : V} {d : Dt} : Dq H v d → Dq H' v d
  | .non => .non
  | .bl b => .bl b
  | .int i => .int i
  | .str x => .str x
  | .lst h hs => .lst (e _ _ h) (DqL.mono e hs)
  | .tup h hs => .tup (e _ _ h) (DqL.mono e hs)
  | .dct h hs => .dct (e _ _ h) (DqL.mono e hs)
  | .obj h hs => .obj (e _ _ h) (DqL.mono e hs)
theorem DqL.mono {H H' : Hp} (e : Le H H') {vs : List V} {ds : List Dt} : DqL H vs ds → DqL H' vs ds
  | .nil => .nil
  | .cons h hs => .cons (Dq.mono e h) (DqL.mono e hs)
end
theorem DqL.length {H : Hp} : ∀ {vs : List V} {ds : List Dt}, DqL H vs ds → vs.length = ds.length
  | _, _, .nil => rfl
  | _, _, .cons _ t => by rw [List.length_cons, List.length_cons, DqL.length t]
theorem DqL.get {H : Hp} : ∀ {vs : List V} {ds : List Dt} {i : Nat} {d : Dt}, DqL H vs ds → ds[i]? = some d → ∃ v, vs[i]? = some v ∧ Dq H v d
  | _, _, _, _, .nil, e => by simp at e
  | _, _, 0, _, .cons h _, e => by simp at e; subst e; exact ⟨_, rfl, h⟩
  | _, _, i + 1, _, .cons _ t, e => by
    obtain ⟨v, h1, h2⟩ := DqL.get (i := i) t (by simpa using e)
    exact ⟨v, by simpa using h1, h2⟩
theorem DqL.getV {H : Hp} : ∀ {vs : List V} {ds : List Dt} {i : Nat} {v : V}, DqL H vs ds → vs[i]? = some v → ∃ d, ds[i]? = some d ∧ Dq H v d
  | _, _, _, _, .nil, e => by simp at e
  | _, _, 0, _, .cons h _, e => by simp at e; subst e; exact ⟨_, rfl, h⟩
  | _, _, i + 1, _, .cons _ t, e => by
    obtain ⟨v, h1, h2⟩ := DqL.getV (i := i) t (by simpa using e)
    exact ⟨v, by simpa using h1, h2⟩
theorem DqL.append {H : Hp} : ∀ {xs ys : List V} {ds es : List Dt}, DqL H xs ds → DqL H ys es → DqL H (xs ++ ys) (ds ++ es)
  | _, _, _, _, .nil, s => s
  | _, _, _, _, .cons r t, s => .cons r (DqL.append t s)
theorem DqL.take {H : Hp} : ∀ {xs : List V} {ds : List Dt} (n : Nat), DqL H xs ds → DqL H (xs.take n) (ds.take n)
  | _, _, 0, _ => .nil
  | _, _, _ + 1, .nil => .nil
  | _, _, n + 1, .cons r t => .cons r (DqL.take n t)
theorem DqL.drop {H : Hp} : ∀ {xs : List V} {ds : List Dt} (n : Nat), DqL H xs ds → DqL H (xs.drop n) (ds.drop n)
  | _, _, 0, r => r
  | _, _, _ + 1, .nil => .nil
  | _, _, n + 1, .cons _ t => DqL.drop n t
theorem DqL.reverse {H : Hp} : ∀ {xs : List V} {ds : List Dt}, DqL H xs ds → DqL H xs.reverse ds.reverse
  | _, _, .nil => .nil
  | _, _, .cons r t => by
    rw [List.reverse_cons, List.reverse_cons]
    exact DqL.append (DqL.reverse t) (.cons r .nil)
theorem DqL.rep {H : Hp} {xs : List V} {ds : List Dt} (h : DqL H xs ds) : ∀ n : Nat, DqL H (List.replicate n xs).flatten (List.replicate n ds).flatten
  | 0 => .nil
  | n + 1 => by
    rw [List.replicate_succ, List.replicate_succ, List.flatten_cons, List.flatten_cons]
    exact DqL.append h (DqL.rep h n)
theorem DqL.eraseIdx {H : Hp} : ∀ {xs : List V} {ds : List Dt} (i : Nat), DqL H xs ds → DqL H (xs.eraseIdx i) (ds.eraseIdx i)
  | _, _, _, .nil => .nil
  | _, _, 0, .cons _ t => t
  | _, _, i + 1, .cons r t => .cons r (DqL.eraseIdx i t)
theorem DqL.set {H : Hp} {v : V} {d : Dt} (h : Dq H v d) : ∀ {xs : List V} {ds : List Dt} (i : Nat), DqL H xs ds → DqL H (xs.set i v) (ds.set i d)
  | _, _, _, .nil => .nil
  | _, _, 0, .cons _ t => .cons h t
  | _, _, i + 1, .cons r t => .cons r (DqL.set h i t)

/-! texts, ints, bools in lists -/
def dInts (ns : List Int) : List Dt := ns.map Dt.int
def dStrs (ys : List Str) : List Dt := ys.map Dt.str
def dBls (bs : List Bool) : List Dt := bs.map Dt.bl
theorem DqL.ints {H : Hp} : ∀ {xs : List V} {ns : List Int}, DqL H xs (dInts ns) → xs = ns.map V.int
  | _, [], .nil => rfl
  | _, n :: ns, .cons h t => by
    cases h
    rw [List.map_cons, DqL.ints (ns := ns) t]
theorem DqL.strs {H : Hp} : ∀ {xs : List V} {ys : List Str}, DqL H xs (dStrs ys) → xs = ys.map V.str
  | _, [], .nil => rfl
  | _, n :: ns, .cons h t => by
    cases h
    rw [List.map_cons, DqL.strs (ys := ns) t]
theorem DqL.bls {H : Hp} : ∀ {xs : List V} {bs : List Bool}, DqL H xs (dBls bs) → xs = bs.map V.bl
  | _, [], .nil => rfl
  | _, n :: ns, .cons h t => by
    cases h
    rw [List.map_cons, DqL.bls (bs := ns) t]
theorem dq_ints {H : Hp} : ∀ ns : List Int, DqL H (ns.map V.int) (dInts ns)
  | [] => .nil
  | n :: ns => .cons (.int n) (dq_ints ns)
theorem dq_strs {H : Hp} : ∀ ns : List Str, DqL H (ns.map V.str) (dStrs ns)
  | [] => .nil
  | n :: ns => .cons (.str n) (dq_strs ns)

/-! ### as the library's data, for == -/
mutual
def toPy : Dt → PyData
  | .non => .none
  | .bl b => .bool b
  | .int i => .int i
  | .str s => .str s
  | .lst xs => .list (toPyL xs)
  | .tup xs => .tuple (toPyL xs)
  | .dct _ _ => .dict []
  | .obj _ _ _ => .dict []
def toPyL : List Dt → List PyData
  | [] => []
  | x :: xs => toPy x :: toPyL xs
end
mutual
/-- no dict, no instance within -/
def flatD : Dt → Bool
  | .dct _ _ => false
  | .obj _ _ _ => false
  | .lst xs => flatL xs
  | .tup xs => flatL xs
  | _ => true
def flatL : List Dt → Bool
  | [] => true
  | x :: xs => flatD x && flatL xs
end
mutual
theorem Dq.py {K : PySem.W.Frag} {H H' : Hp} (e : Le H H') : ∀ {v : V} {d : Dt}, flatD d = true → Dq H v d → Dp K H' v (toPy d)
  | _, .non, _, .non => .non
  | _, .bl _, _, .bl b => .bl b
  | _, .int _, _, .int i => .int i
  | _, .str _, _, .str x => .str x
  | _, .lst ds, f, .lst h hs => .lst (SqL.of (e _ _ h)) (DqL.py e (by simpa [flatD] using f) hs)
  | _, .tup ds, f, .tup h hs => .tup (SqT.of (e _ _ h)) (DqL.py e (by simpa [flatD] using f) hs)
  | _, .dct _ _, f, _ => by simp [flatD] at f
  | _, .obj _ _ _, f, _ => by simp [flatD] at f
theorem DqL.py {K : PySem.W.Frag} {H H' : Hp} (e : Le H H') : ∀ {vs : List V} {ds : List Dt}, flatL ds = true → DqL H vs ds → DpAll K H' vs (toPyL ds)
  | _, [], _, .nil => .nil
  | _, d :: ds, f, .cons h t => by
    have f' : flatD d = true ∧ flatL ds = true := by simpa [flatL] using f
    exact .cons (Dq.py e f'.1 h) (DqL.py e f'.2 t)
end

/-! ### the world of a running def -/
/-- the heap without the addresses of a list -/
def Off (A : List Addr) (H : Hp) : Hp := fun b => if b ∈ A then none else H b
theorem off_in {A : List Addr} {H : Hp} {b : Addr} {o : HO} (h : Off A H b = some o) : b ∉ A ∧ H b = some o := by
  unfold Off at h
  by_cases hb : b ∈ A
  · rw [if_pos hb] at h; cases h
  · rw [if_neg hb] at h; exact ⟨hb, h⟩
theorem off_of {A : List Addr} {H : Hp} {b : Addr} {o : HO} (hb : b ∉ A) (h : H b = some o) : Off A H b = some o := by
  unfold Off; rw [if_neg hb]; exact h
theorem off_le {A : List Addr} {H : Hp} : Le (Off A H) H := fun _ _ h => (off_in h).2
theorem off_sub {A B : List Addr} {H : Hp} (s : ∀ a ∈ B, a ∈ A) : Le (Off A H) (Off B H) := fun b _ h => off_of (fun hb => (off_in h).1 (s b hb)) (off_in h).2

/-- a slot, a field, an item of a changing thing: data, or just this value, or not told -/
inductive Sl where
  | d (x : Dt)
  | v (x : V)
  | u
def SlOk (A : List Addr) (H : Hp) : Sl → V → Prop
  | .d x, v => Dq (Off A H) v x
  | .v x, v => v = x
  | .u, _ => True
def SlotOk (A : List Addr) (H : Hp) : Sl → Option V → Prop
  | .u, _ => True
  | s, some v => SlOk A H s v
  | _, none => False

/-- from one moment to a later one: what was tracked and is not of A stands, and is not of A' -/
def Kp (A A' : List Addr) (H H' : Hp) : Prop := ∀ b o, b ∉ A → H b = some o → b ∉ A' ∧ H' b = some o
theorem Kp.refl (A : List Addr) (H : Hp) : Kp A A H H := fun _ _ n h => ⟨n, h⟩
theorem Kp.trans {A A1 A2 : List Addr} {H H1 H2 : Hp} (a : Kp A A1 H H1) (b : Kp A1 A2 H1 H2) : Kp A A2 H H2 := fun c o n h => b c o (a c o n h).1 (a c o n h).2
theorem Kp.le {A : List Addr} {H H' : Hp} (e : Le H H') : Kp A A H H' := fun _ _ n h => ⟨n, e _ _ h⟩
theorem Kp.off {A A' : List Addr} {H H' : Hp} (k : Kp A A' H H') : Le (Off A H) (Off A' H') := fun _ _ h => off_of (k _ _ (off_in h).1 (off_in h).2).1 (k _ _ (off_in h).1 (off_in h).2).2
theorem SlOk.mono {A A' : List Addr} {H H' : Hp} (k : Kp A A' H H') : ∀ {s : Sl} {v : V}, SlOk A H s v → SlOk A' H' s v
  | .d _, _, h => Dq.mono k.off h
  | .v _, _, h => h
  | .u, _, _ => trivial
theorem SlotOk.mono {A A' : List Addr} {H H' : Hp} (k : Kp A A' H H') : ∀ {s : Sl} {v : Option V}, SlotOk A H s v → SlotOk A' H' s v
  | .d _, some _, h => SlOk.mono (s := .d _) k h
  | .v _, some _, h => h
  | .u, _, _ => trivial
  | .d _, none, h => h
  | .v _, none, h => h

/-- what changes: a list, an instance, a dict; the law's source of draws; a thing that the source holds -/
inductive Cell where
  | lst (ss : List Sl)
  | ins (C dx : Addr) (ns : List Str) (ss : List Sl)
  | dk (ks : List Key) (ss : List Sl)
  | heap (lp : Addr)
  | held (hp : Addr)
def SlAll (A : List Addr) (H : Hp) (ss : List Sl) (xs : List V) : Prop := Paired (SlOk A H) ss xs
def CellOk (A : List Addr) (H : Hp) (p : Addr) : Cell → Prop
  | .lst ss => ∃ xs, H p = some (.lst xs) ∧ SlAll A H ss xs
  | .ins C dx ns ss => ∃ fs, H p = some (.ins C dx fs) ∧ fs.map (·.1) = ns ∧ SlAll A H ss (fs.map (·.2))
  | .dk ks ss => ∃ kv, H p = some (.dK kv) ∧ kv.map (·.1) = ks ∧ SlAll A H ss (kv.map (·.2))
  | .heap lp => ∃ (L : List Int) (s : Int), H p = some (.lst [.ref lp, .int s]) ∧ H lp = some (.lst (L.map V.int)) ∧ (∀ x ∈ L, 0 ≤ x) ∧ 0 ≤ s ∧ L.length ≤ 100
  | .held _ => True

structure Fx where
  W : List Addr
  H0 : Hp
structure Ct where
  A : List Addr
  G : List (V × Dt)
  M : List (Addr × Cell)
  S : List Sl
structure Wd (F : Fx) (c : Ct) (H : Hp) (σ : St) : Prop where
  fr : ∀ b o, b ∉ F.W → F.H0 b = some o → H b = some o
  av : ∀ a ∈ c.A, ∃ o, H a = some o
  wA : ∀ a ∈ F.W, a ∈ c.A
  nA : c.A.Nodup
  mA : ∀ e ∈ c.M, e.1 ∈ c.A
  mO : ∀ e ∈ c.M, CellOk c.A H e.1 e.2
  mW : ∀ e ∈ c.M, e.1 ∈ F.W ∨ F.H0 e.1 = none
  nd : (c.M.map (·.1)).Nodup
  hl : ∀ e ∈ c.M, ∀ lp, e.2 = .heap lp → (lp, Cell.held e.1) ∈ c.M
  gs : ∀ e ∈ c.G, Dq (Off c.A H) e.1 e.2
  sl : Paired (SlotOk c.A H) c.S σ

theorem SlAll.mono {A A' : List Addr} {H H' : Hp} (k : Kp A A' H H') {ss : List Sl} {xs : List V} (h : SlAll A H ss xs) : SlAll A' H' ss xs := Paired.mapP h fun _ _ q => SlOk.mono k q

section
variable {F : Fx} {c : Ct} {H H' : Hp} {σ : St}
/-- nothing that was tracked has changed -/
theorem Wd.le (w : Wd F c H σ) (e : Le H H') : Wd F c H' σ where
  fr := fun b o n h => e b o (w.fr b o n h)
  av := fun a ha => let ⟨o, h⟩ := w.av a ha; ⟨o, e a o h⟩
  wA := w.wA
  nA := w.nA
  mA := w.mA
  mO := fun x hx => by
    have q := w.mO x hx
    have k : Kp c.A c.A H H' := Kp.le e
    obtain ⟨p, cl⟩ := x
    cases cl with
    | lst ss => obtain ⟨xs, h1, h2⟩ := q; exact ⟨xs, e _ _ h1, h2.mono k⟩
    | ins C dx ns ss => obtain ⟨xs, h1, h3, h2⟩ := q; exact ⟨xs, e _ _ h1, h3, h2.mono k⟩
    | dk ks ss => obtain ⟨xs, h1, h3, h2⟩ := q; exact ⟨xs, e _ _ h1, h3, h2.mono k⟩
    | heap lp => obtain ⟨L, s, h1, h2, r⟩ := q; exact ⟨L, s, e _ _ h1, e _ _ h2, r⟩
    | held _ => trivial
  mW := w.mW
  nd := w.nd
  hl := w.hl
  gs := fun x hx => Dq.mono (Kp.le e).off (w.gs x hx)
  sl := Paired.mapP w.sl fun _ _ q => SlotOk.mono (Kp.le e) q
/-- a slot is set -/
theorem Wd.set (w : Wd F c H σ) {v : V} {s : Sl} (h : SlOk c.A H s v) (i : Nat) : Wd F { c with S := c.S.set i s } H (σ.set i (some v)) :=
  ⟨w.fr, w.av, w.wA, w.nA, w.mA, w.mO, w.mW, w.nd, w.hl, w.gs, by
      have q : SlotOk c.A H s (some v) := by cases s <;> first | exact h | trivial
      have r : ∀ {l1 : List Sl} {l2 : St} (i : Nat), Paired (SlotOk c.A H) l1 l2 → Paired (SlotOk c.A H) (l1.set i s) (l2.set i (some v)) := by
        intro l1 l2 i t
        induction t generalizing i with
        | nil => exact .nil
        | cons a t ih =>
          cases i with
          | zero => exact .cons q t
          | succ i => exact .cons a (ih i)
      exact r i w.sl⟩
theorem Paired.getL {α β : Type} {F : α → β → Prop} : ∀ {l1 : List α} {l2 : List β} {i : Nat} {a : α}, Paired F l1 l2 → l1[i]? = some a → ∃ b, l2[i]? = some b ∧ F a b
  | _, _, _, _, .nil, e => by simp at e
  | _, _, 0, _, .cons h _, e => by simp at e; subst e; exact ⟨_, rfl, h⟩
  | _, _, i + 1, _, .cons _ t, e => by
    obtain ⟨v, h1, h2⟩ := Paired.getL (i := i) t (by simpa using e)
    exact ⟨v, by simpa using h1, h2⟩
def Sl.told : Sl → Bool
  | .u => false
  | _ => true
theorem Wd.slot (w : Wd F c H σ) {i : Nat} {s : Sl} (h : c.S[i]? = some s) (ht : s.told = true) : ∃ v, σ[i]? = some (some v) ∧ SlOk c.A H s v := by
  obtain ⟨o, h1, h2⟩ := Paired.getL w.sl h
  cases s with
  | u => cases ht
  | d x =>
    cases o with
    | none => exact h2.elim
    | some v => exact ⟨v, h1, h2⟩
  | v x =>
    cases o with
    | none => exact h2.elim
    | some v => exact ⟨v, h1, h2⟩
theorem Wd.cell (w : Wd F c H σ) {k : Nat} {p : Addr} {cl : Cell} (h : c.M[k]? = some (p, cl)) : p ∈ c.A ∧ CellOk c.A H p cl := ⟨w.mA _ (List.mem_of_getElem? h), w.mO _ (List.mem_of_getElem? h)⟩
/-- the pinned data -/
theorem Wd.pinned (w : Wd F c H σ) {v : V} {d : Dt} (h : Dq (Off c.A H) v d) : Wd F { c with G := (v, d) :: c.G } H σ :=
  ⟨w.fr, w.av, w.wA, w.nA, w.mA, w.mO, w.mW, w.nd, w.hl, fun e he => by
      rcases List.mem_cons.mp he with rfl | he
      · exact h
      · exact w.gs e he, w.sl⟩
theorem Wd.unpin (w : Wd F c H σ) {G : List (V × Dt)} (h : ∀ e ∈ G, e ∈ c.G) : Wd F { c with G := G } H σ := ⟨w.fr, w.av, w.wA, w.nA, w.mA, w.mO, w.mW, w.nd, w.hl, fun e he => w.gs e (h e he), w.sl⟩
/-- a slot that is no more told -/
theorem Paired.weak {α β : Type} {R : α → β → Prop} {Q : α → β → Prop} {l1 l1' : List α} {l2 : List β} (h : Paired R l1 l2) (hl : l1'.length = l1.length) (hq : ∀ (i : Nat) a a' b, l1[i]? = some a → l1'[i]? = some a' → R a b → Q a' b) : Paired Q l1' l2 := by
  induction h generalizing l1' with
  | nil =>
    cases l1' with
    | nil => exact .nil
    | cons _ _ => cases hl
  | cons a t ih =>
    cases l1' with
    | nil => cases hl
    | cons x r =>
      refine .cons (hq 0 _ _ _ rfl rfl a) (ih (by simpa using hl) fun i a a' b h1 h2 => hq (i + 1) a a' b (by simpa using h1) (by simpa using h2))
end

end DL
set_option Elab.async false
set_option linter.all false
set_option maxRecDepth 100000
set_option maxHeartbeats 1000000
/-! DL2: what expressions give, over the readings of the hand layer. -/
namespace DL
open PySem PySem.Spec PyProof.Rows L2

/-- the description c', more told than c: further cells behind, further addresses -/
structure Xt (c c' : Ct) : Prop where
  S : c'.S = c.S
  M : ∃ m, c'.M = c.M ++ m
  A : ∀ a ∈ c.A, a ∈ c'.A
theorem Xt.refl (c : Ct) : Xt c c := ⟨rfl, ⟨[], by simp⟩, fun _ h => h⟩
theorem Xt.trans {a b c : Ct} (x : Xt a b) (y : Xt b c) : Xt a c := by
  obtain ⟨m, hm⟩ := x.M
  obtain ⟨n, hn⟩ := y.M
  exact ⟨y.S.trans x.S, ⟨m ++ n, by rw [hn, hm, List.append_assoc]⟩, fun a h => y.A a (x.A a h)⟩
theorem Xt.cell {c c' : Ct} (x : Xt c c') {k : Nat} {e : Addr × Cell} (h : c.M[k]? = some e) : c'.M[k]? = some e := by
  obtain ⟨m, hm⟩ := x.M
  rw [hm]
  obtain ⟨h1, h2⟩ := List.getElem?_eq_some_iff.mp h
  rw [List.getElem?_append_left h1, h]
theorem Xt.slot {c c' : Ct} (x : Xt c c') {k : Nat} {s : Sl} (h : c.S[k]? = some s) : c'.S[k]? = some s := by rw [x.S, h]

/-- te gives s, nothing else changes -/
def EvP (F : Fx) (c : Ct) (te : TE) (s : Sl) : Prop := ∀ c', Xt c c' → ∀ H σ, Wd F c' H σ → ∀ Q : VK, (∀ v H', Wd F c' H' σ → Kp c'.A c'.A H H' → SlOk c'.A H' s v → Q v H') → te σ H Q
def EvA (F : Fx) (c : Ct) (ta : TA) (ss : List Sl) : Prop := ∀ c', Xt c c' → ∀ H σ, Wd F c' H σ → ∀ Q : List V → Hp → Prop, (∀ vs H', Wd F c' H' σ → Kp c'.A c'.A H H' → SlAll c'.A H' ss vs → Q vs H') → ta σ H Q
def EvT (F : Fx) (c : Ct) (tt : TT) (b : Bool) : Prop := ∀ c', Xt c c' → ∀ H σ, Wd F c' H σ → ∀ Q : Bool → Hp → Prop, (∀ H', Wd F c' H' σ → Kp c'.A c'.A H H' → Q b H') → tt σ H Q
def EvO (F : Fx) (c : Ct) (to : TO) (o : Option Int) : Prop := ∀ c', Xt c c' → ∀ H σ, Wd F c' H σ → ∀ Q : Option Int → Hp → Prop, (∀ H', Wd F c' H' σ → Kp c'.A c'.A H H' → Q o H') → to σ H Q
/-- a two-place operation, a call's wish, on what is told -/
def RvP (F : Fx) (c : Ct) (r : R2) (a b s : Sl) : Prop := ∀ c', Xt c c' → ∀ H σ x y, Wd F c' H σ → SlOk c'.A H a x → SlOk c'.A H b y → ∀ Q : VK, (∀ v H', Wd F c' H' σ → Kp c'.A c'.A H H' → SlOk c'.A H' s v → Q v H') → r x y H Q
def RuP (F : Fx) (c : Ct) (r : V → Hp → VK → Prop) (a s : Sl) : Prop := ∀ c', Xt c c' → ∀ H σ x, Wd F c' H σ → SlOk c'.A H a x → ∀ Q : VK, (∀ v H', Wd F c' H' σ → Kp c'.A c'.A H H' → SlOk c'.A H' s v → Q v H') → r x H Q
def RcP (F : Fx) (c : Ct) (r : List V → Hp → VK → Prop) (ss : List Sl) (s : Sl) : Prop := ∀ c', Xt c c' → ∀ H σ vs, Wd F c' H σ → SlAll c'.A H ss vs → ∀ Q : VK, (∀ v H', Wd F c' H' σ → Kp c'.A c'.A H H' → SlOk c'.A H' s v → Q v H') → r vs H Q

section
variable {F : Fx} {c c' : Ct} {H H' : Hp} {σ : St} {K : PySem.W.Frag} {te ta tb : TE} {a b s : Sl} {Q : VK}
theorem EvP.mono (h : EvP F c te s) (x : Xt c c') : EvP F c' te s := fun c2 x2 => h c2 (x.trans x2)
theorem EvT.mono {tt : TT} {b : Bool} (h : EvT F c tt b) (x : Xt c c') : EvT F c' tt b := fun c2 x2 => h c2 (x.trans x2)
theorem EvP.run (h : EvP F c te s) (w : Wd F c H σ) (q : ∀ v H', Wd F c H' σ → Kp c.A c.A H H' → SlOk c.A H' s v → Q v H') : te σ H Q := h c (Xt.refl c) H σ w Q q
theorem Wd.free (w : Wd F c H σ) {p : Addr} (h : H p = none) : p ∉ c.A := fun hp => by
  obtain ⟨o, e⟩ := w.av p hp
  rw [h] at e; cases e
theorem Wd.free0 (w : Wd F c H σ) {p : Addr} (h : H p = none) : F.H0 p = none := by
  cases e : F.H0 p with
  | none => rfl
  | some o =>
    by_cases hp : p ∈ F.W
    · exact absurd (w.wA p hp) (w.free h)
    · rw [w.fr p o hp e] at h; cases h
/-- a new thing that nothing changes -/
theorem Wd.new (w : Wd F c H σ) {p : Addr} (h : H p = none) (o : HO) : Wd F c (upd H p o) σ ∧ Kp c.A c.A H (upd H p o) := ⟨w.le (Le.new h), Kp.le (Le.new h)⟩
theorem off_new (w : Wd F c H σ) {p : Addr} {o : HO} (h : H p = none) : Le (Off c.A H) (Off c.A (upd H p o)) ∧ Off c.A (upd H p o) p = some o := ⟨(Kp.le (Le.new h)).off, off_of (w.free h) upd_same⟩

theorem ev_var {i : Nat} (h : c.S[i]? = some s) (ht : s.told = true := by rfl) : EvP F c (tVar i) s := fun c' x H σ w Q q => by
  obtain ⟨v, e, hv⟩ := w.slot (x.slot h) ht
  exact ⟨v, e, q v H w (Kp.refl _ _) hv⟩
theorem ev_c {v : V} (h : ∀ A H, SlOk A H s v) : EvP F c (tC v) s := fun c' x H σ w Q q => q v H w (Kp.refl _ _) (h _ _)
theorem ev_int {i : Int} : EvP F c (tC (.int i)) (.d (.int i)) := ev_c fun _ _ => Dq.int i
theorem ev_str {z : Str} : EvP F c (tC (.str z)) (.d (.str z)) := ev_c fun _ _ => Dq.str z
theorem ev_bl {z : Bool} : EvP F c (tC (.bl z)) (.d (.bl z)) := ev_c fun _ _ => Dq.bl z
theorem ev_non : EvP F c (tC .non) (.d .non) := ev_c fun _ _ => Dq.non
theorem ev_raw {v : V} : EvP F c (tC v) (.v v) := ev_c fun _ _ => rfl
theorem ev_op {r : R2} (ha : EvP F c ta a) (hb : EvP F c tb b) (hr : RvP F c r a b s) : EvP F c (tOp r ta tb) s := fun c' x H σ w Q q =>
  ha c' x H σ w _ fun v H1 w1 k1 h1 => hb c' x H1 σ w1 _ fun u H2 w2 k2 h2 => hr c' x H2 σ v u w2 (h1.mono k2) h2 Q fun z H3 w3 k3 h3 => q z H3 w3 (k1.trans (k2.trans k3)) h3
theorem ev_un {r : V → Hp → VK → Prop} (ha : EvP F c ta a) (hr : RuP F c r a s) : EvP F c (tUn r ta) s := fun c' x H σ w Q q =>
  ha c' x H σ w _ fun v H1 w1 k1 h1 => hr c' x H1 σ v w1 h1 Q fun z H3 w3 k3 h3 => q z H3 w3 (k1.trans k3) h3
theorem ea_nil : EvA F c tNil [] := fun c' x H σ w Q q => q [] H w (Kp.refl _ _) .nil
theorem ea_cons {tr : TA} {ss : List Sl} (h : EvP F c te s) (hr : EvA F c tr ss) : EvA F c (tCons te tr) (s :: ss) := fun c' x H σ w Q q =>
  h c' x H σ w _ fun v H1 w1 k1 h1 => hr c' x H1 σ w1 _ fun vs H2 w2 k2 h2 => q (v :: vs) H2 w2 (k1.trans k2) (.cons (h1.mono k2) h2)
theorem ev_cb {r : List V → Hp → VK → Prop} {tr : TA} {ss : List Sl} (h : EvA F c tr ss) (hr : RcP F c r ss s) : EvP F c (tCB r tr) s := fun c' x H σ w Q q =>
  h c' x H σ w _ fun vs H1 w1 k1 h1 => hr c' x H1 σ vs w1 h1 Q fun z H2 w2 k2 h2 => q z H2 w2 (k1.trans k2) h2

/-! ints -/
theorem SlOk.int {A : List Addr} {H : Hp} {i : Int} {v : V} (h : SlOk A H (.d (.int i)) v) : v = .int i := by cases (show Dq (Off A H) v (.int i) from h); rfl
theorem SlOk.str {A : List Addr} {H : Hp} {i : Str} {v : V} (h : SlOk A H (.d (.str i)) v) : v = .str i := by cases (show Dq (Off A H) v (.str i) from h); rfl
theorem SlOk.bl {A : List Addr} {H : Hp} {i : Bool} {v : V} (h : SlOk A H (.d (.bl i)) v) : v = .bl i := by cases (show Dq (Off A H) v (.bl i) from h); rfl
theorem SlOk.non {A : List Addr} {H : Hp} {v : V} (h : SlOk A H (.d .non) v) : v = .non := by cases (show Dq (Off A H) v .non from h); rfl
theorem SlOk.lst {A : List Addr} {H : Hp} {ds : List Dt} {v : V} (h : SlOk A H (.d (.lst ds)) v) : ∃ p xs, v = .ref p ∧ p ∉ A ∧ H p = some (.lst xs) ∧ DqL (Off A H) xs ds := by
  cases (show Dq (Off A H) v (.lst ds) from h) with
  | lst h1 h2 => exact ⟨_, _, rfl, (off_in h1).1, (off_in h1).2, h2⟩
theorem SlOk.tup {A : List Addr} {H : Hp} {ds : List Dt} {v : V} (h : SlOk A H (.d (.tup ds)) v) : ∃ p xs, v = .ref p ∧ p ∉ A ∧ H p = some (.tup xs) ∧ DqL (Off A H) xs ds := by
  cases (show Dq (Off A H) v (.tup ds) from h) with
  | tup h1 h2 => exact ⟨_, _, rfl, (off_in h1).1, (off_in h1).2, h2⟩
theorem rv_I0 {f : Int → Int → Int} {i j : Int} : RvP F c (rI0 fun i j => .int (f i j)) (.d (.int i)) (.d (.int j)) (.d (.int (f i j))) := fun c' x H σ u v w hu hv Q q =>
  ⟨i, j, hu.int, hv.int, q _ H w (Kp.refl _ _) (Dq.int _)⟩
theorem rv_B0 {f : Int → Int → Bool} {i j : Int} : RvP F c (rI0 fun i j => .bl (f i j)) (.d (.int i)) (.d (.int j)) (.d (.bl (f i j))) := fun c' x H σ u v w hu hv Q q =>
  ⟨i, j, hu.int, hv.int, q _ H w (Kp.refl _ _) (Dq.bl _)⟩
theorem rv_I {C : Int → Int → Prop} {f : Int → Int → Int} {i j : Int} (h : C i j) : RvP F c (rI C fun i j => .int (f i j)) (.d (.int i)) (.d (.int j)) (.d (.int (f i j))) := fun c' x H σ u v w hu hv Q q =>
  ⟨i, j, hu.int, hv.int, h, q _ H w (Kp.refl _ _) (Dq.int _)⟩
theorem ev_I0 {f : Int → Int → Int} {i j : Int} (ha : EvP F c ta (.d (.int i))) (hb : EvP F c tb (.d (.int j))) : EvP F c (tOp (rI0 fun i j => .int (f i j)) ta tb) (.d (.int (f i j))) := ev_op ha hb rv_I0
theorem ev_B0 {f : Int → Int → Bool} {i j : Int} (ha : EvP F c ta (.d (.int i))) (hb : EvP F c tb (.d (.int j))) : EvP F c (tOp (rI0 fun i j => .bl (f i j)) ta tb) (.d (.bl (f i j))) := ev_op ha hb rv_B0
theorem ev_I {C : Int → Int → Prop} {f : Int → Int → Int} {i j : Int} (ha : EvP F c ta (.d (.int i))) (hb : EvP F c tb (.d (.int j))) (h : C i j) : EvP F c (tOp (rI C fun i j => .int (f i j)) ta tb) (.d (.int (f i j))) := ev_op ha hb (rv_I h)
theorem ev_neg {i : Int} (ha : EvP F c ta (.d (.int i))) : EvP F c (tUn (rU fun i => .int (-i)) ta) (.d (.int (-i))) := ev_un ha fun c' x H σ u w hu Q q => ⟨i, hu.int, q _ H w (Kp.refl _ _) (Dq.int _)⟩
/-! == of single values -/
theorem rv_eqI {i j : Int} : RvP F c rEq (.d (.int i)) (.d (.int j)) (.d (.bl (decide (i = j)))) := fun c' x H σ u v w hu hv Q q => by
  rw [hu.int, hv.int]
  refine ⟨rfl, ?_⟩
  have e : decide (V.int i = V.int j) = decide (i = j) := by simp
  rw [e]
  exact q _ H w (Kp.refl _ _) (Dq.bl _)
theorem ev_eqI {i j : Int} (ha : EvP F c ta (.d (.int i))) (hb : EvP F c tb (.d (.int j))) : EvP F c (tOp rEq ta tb) (.d (.bl (decide (i = j)))) := ev_op ha hb rv_eqI
theorem rv_neI {i j : Int} : RvP F c rNe (.d (.int i)) (.d (.int j)) (.d (.bl (!decide (i = j)))) := fun c' x H σ u v w hu hv Q q => by
  rw [hu.int, hv.int]
  refine ⟨rfl, ?_⟩
  have e : decide (V.int i = V.int j) = decide (i = j) := by simp
  rw [e]
  exact q _ H w (Kp.refl _ _) (Dq.bl _)
theorem ev_neI {i j : Int} (ha : EvP F c ta (.d (.int i))) (hb : EvP F c tb (.d (.int j))) : EvP F c (tOp rNe ta tb) (.d (.bl (!decide (i = j)))) := ev_op ha hb rv_neI
theorem rv_eqS {i j : Str} : RvP F c rEq (.d (.str i)) (.d (.str j)) (.d (.bl (decide (i = j)))) := fun c' x H σ u v w hu hv Q q => by
  rw [hu.str, hv.str]
  refine ⟨rfl, ?_⟩
  have e : decide (V.str i = V.str j) = decide (i = j) := by simp
  rw [e]
  exact q _ H w (Kp.refl _ _) (Dq.bl _)
theorem ev_eqS {i j : Str} (ha : EvP F c ta (.d (.str i))) (hb : EvP F c tb (.d (.str j))) : EvP F c (tOp rEq ta tb) (.d (.bl (decide (i = j)))) := ev_op ha hb rv_eqS
theorem rv_neS {i j : Str} : RvP F c rNe (.d (.str i)) (.d (.str j)) (.d (.bl (!decide (i = j)))) := fun c' x H σ u v w hu hv Q q => by
  rw [hu.str, hv.str]
  refine ⟨rfl, ?_⟩
  have e : decide (V.str i = V.str j) = decide (i = j) := by simp
  rw [e]
  exact q _ H w (Kp.refl _ _) (Dq.bl _)
theorem ev_neS {i j : Str} (ha : EvP F c ta (.d (.str i))) (hb : EvP F c tb (.d (.str j))) : EvP F c (tOp rNe ta tb) (.d (.bl (!decide (i = j)))) := ev_op ha hb rv_neS
/-! texts -/
theorem ev_addS {i j : Str} (ha : EvP F c ta (.d (.str i))) (hb : EvP F c tb (.d (.str j))) (hz : i.length + j.length ≤ 100000) :
    EvP F c (tOp (fun x y H Q => ∃ i j, x = .str i ∧ y = .str j ∧ i.length + j.length ≤ sizeLine ∧ Q (.str (i ++ j)) H) ta tb) (.d (.str (i ++ j))) := ev_op ha hb fun c' x H σ u v w hu hv Q q =>
  ⟨i, j, hu.str, hv.str, Nat.le_trans hz (by decide), q _ H w (Kp.refl _ _) (Dq.str _)⟩
/-! data of any depth -/
theorem ev_eqD {d e : Dt} (ha : EvP F c ta (.d d)) (hb : EvP F c tb (.d e)) (fd : flatD d = true) (fe : flatD e = true) (sd : SeqAt.shaped (toPy d) = true) (se : SeqAt.shaped (toPy e) = true) :
    EvP F c (tOp (rEqD K) ta tb) (.d (.bl (PyData.eqv (toPy d) (toPy e)))) := ev_op ha hb fun c' x H σ u v w hu hv Q q =>
  ⟨_, _, Dq.py off_le fd hu, Dq.py off_le fe hv, sd, se, q _ H w (Kp.refl _ _) (Dq.bl _)⟩
theorem ev_neD {d e : Dt} (ha : EvP F c ta (.d d)) (hb : EvP F c tb (.d e)) (fd : flatD d = true) (fe : flatD e = true) (sd : SeqAt.shaped (toPy d) = true) (se : SeqAt.shaped (toPy e) = true) :
    EvP F c (tOp (rNeD K) ta tb) (.d (.bl (!PyData.eqv (toPy d) (toPy e)))) := ev_op ha hb fun c' x H σ u v w hu hv Q q =>
  ⟨_, _, Dq.py off_le fd hu, Dq.py off_le fe hv, sd, se, q _ H w (Kp.refl _ _) (Dq.bl _)⟩
/-! items -/
theorem atI_get {α : Type} {xs : List α} {i : Int} {v : α} (h : atI xs i = some v) : ∃ j : Nat, ixN xs.length i = some j ∧ xs[j]? = some v := by
  unfold atI at h
  cases e : ixN xs.length i with
  | none => rw [e] at h; cases h
  | some j => rw [e] at h; exact ⟨j, rfl, h⟩
theorem DqL.atI {H : Hp} {xs : List V} {ds : List Dt} {i : Int} {d : Dt} (h : DqL H xs ds) (e : L2.atI ds i = some d) : ∃ v, L2.atI xs i = some v ∧ Dq H v d := by
  obtain ⟨j, e1, e2⟩ := atI_get e
  obtain ⟨v, h1, h2⟩ := h.get e2
  refine ⟨v, ?_, h2⟩
  unfold L2.atI
  rw [h.length, e1]
  exact h1
theorem rv_ixL {ds : List Dt} {i : Int} {d : Dt} (h : atI ds i = some d) : RvP F c (rIxL K) (.d (.lst ds)) (.d (.int i)) (.d d) := fun c' x H σ u v w hu hv Q q => by
  obtain ⟨p, xs, e1, n, h1, h2⟩ := hu.lst
  obtain ⟨z, z1, z2⟩ := h2.atI h
  exact ⟨p, xs, i, z, e1, hv.int, SqL.of h1, z1, q z H w (Kp.refl _ _) z2⟩
theorem ev_ixL {ds : List Dt} {i : Int} {d : Dt} (ha : EvP F c ta (.d (.lst ds))) (hb : EvP F c tb (.d (.int i))) (h : atI ds i = some d) : EvP F c (tOp (rIxL K) ta tb) (.d d) := ev_op ha hb (rv_ixL h)
theorem rv_ixT {ds : List Dt} {i : Int} {d : Dt} (h : atI ds i = some d) : RvP F c (rIxT K) (.d (.tup ds)) (.d (.int i)) (.d d) := fun c' x H σ u v w hu hv Q q => by
  obtain ⟨p, xs, e1, n, h1, h2⟩ := hu.tup
  obtain ⟨z, z1, z2⟩ := h2.atI h
  exact ⟨p, xs, i, z, e1, hv.int, SqT.of h1, z1, q z H w (Kp.refl _ _) z2⟩
theorem ev_ixT {ds : List Dt} {i : Int} {d : Dt} (ha : EvP F c ta (.d (.tup ds))) (hb : EvP F c tb (.d (.int i))) (h : atI ds i = some d) : EvP F c (tOp (rIxT K) ta tb) (.d d) := ev_op ha hb (rv_ixT h)
theorem rv_ixS {z : Str} {i : Int} {k : Nat} (hz : z.length ≤ 100000) (h : atI z.cps.toList i = some k) : RvP F c rIxS (.d (.str z)) (.d (.int i)) (.d (.str ⟨#[k]⟩)) := fun c' x H σ u v w hu hv Q q =>
  ⟨z, i, k, hu.str, hv.int, Nat.le_trans hz (by decide), h, q _ H w (Kp.refl _ _) (Dq.str _)⟩
theorem ev_ixS {z : Str} {i : Int} {k : Nat} (ha : EvP F c ta (.d (.str z))) (hb : EvP F c tb (.d (.int i))) (hz : z.length ≤ 100000) (h : atI z.cps.toList i = some k) : EvP F c (tOp rIxS ta tb) (.d (.str ⟨#[k]⟩)) := ev_op ha hb (rv_ixS hz h)
/-- an item of a changing list -/
theorem Paired.idx {α β : Type} {R : α → β → Prop} {xs : List α} {ys : List β} {i : Int} {x : α} (h : Paired R xs ys) (e : atI xs i = some x) : ∃ y, atI ys i = some y ∧ R x y := by
  obtain ⟨j, e1, e2⟩ := atI_get e
  obtain ⟨v, h1, h2⟩ := Paired.getL h e2
  refine ⟨v, ?_, h2⟩
  unfold L2.atI
  rw [← h.length, e1]
  exact h1
theorem rv_ixC {k : Nat} {p : Addr} {ss : List Sl} {i : Int} (hk : c.M[k]? = some (p, .lst ss)) (h : atI ss i = some s) : RvP F c (rIxL K) (.v (.ref p)) (.d (.int i)) s := fun c' x H σ u v w hu hv Q q => by
  obtain ⟨_, xs, h1, h2⟩ := w.cell (x.cell hk)
  obtain ⟨z, z1, z2⟩ := Paired.idx h2 h
  exact ⟨p, xs, i, z, hu, hv.int, SqL.of h1, z1, q z H w (Kp.refl _ _) z2⟩
theorem ev_ixC {k : Nat} {p : Addr} {ss : List Sl} {i : Int} (ha : EvP F c ta (.v (.ref p))) (hb : EvP F c tb (.d (.int i))) (hk : c.M[k]? = some (p, .lst ss)) (h : atI ss i = some s) : EvP F c (tOp (rIxL K) ta tb) s := ev_op ha hb (rv_ixC hk h)
/-! displays -/
theorem SlAll.dqL {A : List Addr} {H : Hp} : ∀ {ds : List Dt} {vs : List V}, SlAll A H (ds.map Sl.d) vs → DqL (Off A H) vs ds
  | [], _, .nil => .nil
  | _ :: _, _, .cons h t => .cons h (SlAll.dqL t)
theorem DqL.slAll {A : List Addr} {H : Hp} : ∀ {ds : List Dt} {vs : List V}, DqL (Off A H) vs ds → SlAll A H (ds.map Sl.d) vs
  | [], _, .nil => .nil
  | _ :: _, _, .cons h t => .cons h (DqL.slAll t)
theorem ev_tup {tr : TA} {ds : List Dt} (h : EvA F c tr (ds.map Sl.d)) (hz : ds.length ≤ 100000 := by first | decide | simp) : EvP F c (tTup tr) (.d (.tup ds)) := fun c' x H σ w Q q =>
  h c' x H σ w _ fun vs H1 w1 k1 h1 => by
    have e := h1.dqL
    refine ⟨by rw [e.length]; exact Nat.le_trans hz (by decide), fun p hp => ?_⟩
    obtain ⟨w2, k2⟩ := w1.new hp (.tup vs)
    obtain ⟨l, n⟩ := off_new w1 (o := .tup vs) hp
    exact q _ _ w2 (k1.trans k2) (Dq.tup n (e.mono l))
theorem ev_lst {tr : TA} {ds : List Dt} (h : EvA F c tr (ds.map Sl.d)) (hz : ds.length ≤ 100000 := by first | decide | simp) : EvP F c (tLst tr) (.d (.lst ds)) := fun c' x H σ w Q q =>
  h c' x H σ w _ fun vs H1 w1 k1 h1 => by
    have e := h1.dqL
    refine ⟨by rw [e.length]; exact Nat.le_trans hz (by decide), fun p hp => ?_⟩
    obtain ⟨w2, k2⟩ := w1.new hp (.lst vs)
    obtain ⟨l, n⟩ := off_new w1 (o := .lst vs) hp
    exact q _ _ w2 (k1.trans k2) (Dq.lst n (e.mono l))
/-! lists -/
theorem rv_cat {ds es : List Dt} (hz : ds.length + es.length ≤ 100000) : RvP F c rCat (.d (.lst ds)) (.d (.lst es)) (.d (.lst (ds ++ es))) := fun c' x H σ u v w hu hv Q q => by
  obtain ⟨p, xs, e1, n1, h1, k1⟩ := hu.lst
  obtain ⟨p2, ys, e2, n2, h2, k2⟩ := hv.lst
  refine ⟨p, p2, xs, ys, e1, e2, h1, h2, ?_, fun r hr => ?_⟩
  · rw [k1.length, k2.length]; exact Nat.le_trans hz (by decide)
  · obtain ⟨w2, k3⟩ := w.new hr (.lst (xs ++ ys))
    obtain ⟨l, n⟩ := off_new w (o := .lst (xs ++ ys)) hr
    exact q _ _ w2 k3 (Dq.lst n ((k1.append k2).mono l))
theorem ev_cat {ds es : List Dt} (ha : EvP F c ta (.d (.lst ds))) (hb : EvP F c tb (.d (.lst es))) (hz : ds.length + es.length ≤ 100000) : EvP F c (tOp rCat ta tb) (.d (.lst (ds ++ es))) := ev_op ha hb (rv_cat hz)
theorem rv_rep {ds : List Dt} {i : Int} (hi : -100000 ≤ i ∧ i ≤ 100000) (hz : ds.length * i.toNat ≤ 100000) : RvP F c rRep (.d (.lst ds)) (.d (.int i)) (.d (.lst (List.replicate i.toNat ds).flatten)) := fun c' x H σ u v w hu hv Q q => by
  obtain ⟨p, xs, e1, n1, h1, k1⟩ := hu.lst
  refine ⟨p, i, xs, e1, hv.int, h1, by omega, by omega, ?_, fun r hr => ?_⟩
  · rw [k1.length]; exact Nat.le_trans hz (by decide)
  · obtain ⟨w2, k3⟩ := w.new hr (.lst (List.replicate i.toNat xs).flatten)
    obtain ⟨l, n⟩ := off_new w (o := .lst (List.replicate i.toNat xs).flatten) hr
    exact q _ _ w2 k3 (Dq.lst n ((k1.rep i.toNat).mono l))
theorem ev_rep {ds : List Dt} {i : Int} (ha : EvP F c ta (.d (.lst ds))) (hb : EvP F c tb (.d (.int i))) (hi : -100000 ≤ i ∧ i ≤ 100000) (hz : ds.length * i.toNat ≤ 100000) : EvP F c (tOp rRep ta tb) (.d (.lst (List.replicate i.toNat ds).flatten)) := ev_op ha hb (rv_rep hi hz)
def cutG {α : Type} (xs : List α) (lo hi : Option Int) : List α := (xs.drop (HT.sIx xs.length 0 lo)).take (HT.sIx xs.length xs.length hi - HT.sIx xs.length 0 lo)
theorem DqL.cut {H : Hp} {xs : List V} {ds : List Dt} (h : DqL H xs ds) (lo hi : Option Int) : DqL H (cutV xs lo hi) (cutG ds lo hi) := by
  unfold cutV cutG
  rw [h.length]
  exact (h.drop _).take _
theorem eo_none : EvO F c tNoPart none := fun c' x H σ w Q q => q H w (Kp.refl _ _)
theorem eo_some {i : Int} (h : EvP F c te (.d (.int i))) : EvO F c (tPart te) (some i) := fun c' x H σ w Q q => h c' x H σ w _ fun v H1 w1 k1 h1 => ⟨i, h1.int, q H1 w1 k1⟩
theorem ev_slL {tl th : TO} {ds : List Dt} {lo hi : Option Int} (h : EvP F c te (.d (.lst ds))) (h1 : EvO F c tl lo) (h2 : EvO F c th hi) : EvP F c (tSl (rSlL K) te tl th) (.d (.lst (cutG ds lo hi))) := fun c' x H σ w Q q =>
  h c' x H σ w _ fun v H1 w1 k1 g1 => h1 c' x H1 σ w1 _ fun H2 w2 k2 => h2 c' x H2 σ w2 _ fun H3 w3 k3 => by
    obtain ⟨p, xs, e1, n1, z1, z2⟩ := (g1.mono (k2.trans k3)).lst
    refine ⟨p, xs, e1, SqL.of z1, fun r hr => ?_⟩
    obtain ⟨w4, k4⟩ := w3.new hr (.lst (cutV xs lo hi))
    obtain ⟨l, n⟩ := off_new w3 (o := .lst (cutV xs lo hi)) hr
    exact q _ _ w4 ((k1.trans (k2.trans k3)).trans k4) (Dq.lst n ((z2.cut lo hi).mono l))
/-! tests -/
theorem et_test {b : Bool} (h : EvP F c te (.d (.bl b))) : EvT F c (tTest te) b := fun c' x H σ w Q q => h c' x H σ w _ fun v H1 w1 k1 h1 => ⟨b, h1.bl, q H1 w1 k1⟩
theorem et_B {b : Bool} (h : EvP F c te (.d (.bl b))) : EvT F c (tB te) b := fun c' x H σ w Q q => h c' x H σ w _ fun v H1 w1 k1 h1 => ⟨b, h1.bl, q H1 w1 k1⟩
theorem et_and {t u : TT} {a b : Bool} (h1 : EvT F c t a) (h2 : a = true → EvT F c u b) : EvT F c (tAnd t u) (a && b) := fun c' x H σ w Q q => h1 c' x H σ w _ fun H1 w1 k1 => by
  cases a with
  | true => exact iteT (h2 rfl c' x H1 σ w1 _ fun H2 w2 k2 => q H2 w2 (k1.trans k2))
  | false => exact iteF (q H1 w1 k1)
theorem et_or {t u : TT} {a b : Bool} (h1 : EvT F c t a) (h2 : a = false → EvT F c u b) : EvT F c (tOr t u) (a || b) := fun c' x H σ w Q q => h1 c' x H σ w _ fun H1 w1 k1 => by
  cases a with
  | true => exact iteT (q H1 w1 k1)
  | false => exact iteF (h2 rfl c' x H1 σ w1 _ fun H2 w2 k2 => q H2 w2 (k1.trans k2))
theorem et_not {t : TT} {a : Bool} (h1 : EvT F c t a) : EvT F c (tNot t) (!a) := fun c' x H σ w Q q => h1 c' x H σ w _ fun H1 w1 k1 => q H1 w1 k1
theorem et_is {t : TT} {a b : Bool} (h : EvT F c t a) (e : a = b) : EvT F c t b := by rw [← e]; exact h
theorem ev_is {s s' : Sl} (h : EvP F c te s) (e : s = s') : EvP F c te s' := by rw [← e]; exact h
theorem ev_andV {a b : Bool} (h1 : EvP F c ta (.d (.bl a))) (h2 : a = true → EvP F c tb (.d (.bl b))) : EvP F c (tAndV ta tb) (.d (.bl (a && b))) := fun c' x H σ w Q q => h1 c' x H σ w _ fun v H1 w1 k1 g1 => ⟨a, g1.bl, by
  cases a with
  | true => exact iteT (h2 rfl c' x H1 σ w1 _ fun v2 H2 w2 k2 g2 => q v2 H2 w2 (k1.trans k2) g2)
  | false => exact iteF (q _ H1 w1 k1 (Dq.bl _))⟩
theorem ev_orV {a b : Bool} (h1 : EvP F c ta (.d (.bl a))) (h2 : a = false → EvP F c tb (.d (.bl b))) : EvP F c (tOrV ta tb) (.d (.bl (a || b))) := fun c' x H σ w Q q => h1 c' x H σ w _ fun v H1 w1 k1 g1 => ⟨a, g1.bl, by
  cases a with
  | true => exact iteT (q _ H1 w1 k1 (Dq.bl _))
  | false => exact iteF (h2 rfl c' x H1 σ w1 _ fun v2 H2 w2 k2 g2 => q v2 H2 w2 (k1.trans k2) g2)⟩
theorem ev_notV {a : Bool} (h1 : EvP F c ta (.d (.bl a))) : EvP F c (tNotV ta) (.d (.bl (!a))) := fun c' x H σ w Q q => h1 c' x H σ w _ fun v H1 w1 k1 g1 => ⟨a, g1.bl, q _ H1 w1 k1 (Dq.bl _)⟩
theorem ev_if {t : TT} {b : Bool} {s : Sl} (h : EvT F c t b) (h1 : b = true → EvP F c ta s) (h2 : b = false → EvP F c tb s) : EvP F c (tIf t ta tb) s := fun c' x H σ w Q q => h c' x H σ w _ fun H1 w1 k1 => by
  cases b with
  | true => exact iteT (h1 rfl c' x H1 σ w1 _ fun v2 H2 w2 k2 g2 => q v2 H2 w2 (k1.trans k2) g2)
  | false => exact iteF (h2 rfl c' x H1 σ w1 _ fun v2 H2 w2 k2 g2 => q v2 H2 w2 (k1.trans k2) g2)
theorem ev_chain {r r' : R2} {tc : TE} {sa sb sc : Sl} {a b : Bool} (ha : EvP F c ta sa) (hb : EvP F c tb sb) (hr : RvP F c r sa sb (.d (.bl a))) (hc : a = true → EvP F c tc sc) (hr' : a = true → RvP F c r' sb sc (.d (.bl b))) :
    EvP F c (tChain r r' ta tb tc) (.d (.bl (a && b))) := fun c' x H σ w Q q =>
  ha c' x H σ w _ fun v H1 w1 k1 g1 => hb c' x H1 σ w1 _ fun u H2 w2 k2 g2 => hr c' x H2 σ v u w2 (g1.mono k2) g2 _ fun z H3 w3 k3 g3 => ⟨a, g3.bl, by
    cases a with
    | true => exact iteT (hc rfl c' x H3 σ w3 _ fun t H4 w4 k4 g4 => hr' rfl c' x H4 σ u t w4 (g2.mono (k3.trans k4)) g4 Q fun y H5 w5 k5 g5 => q y H5 w5 ((k1.trans (k2.trans k3)).trans (k4.trans k5)) g5)
    | false => exact iteF (q _ H3 w3 (k1.trans (k2.trans k3)) (Dq.bl _))⟩
end
end DL

set_option Elab.async false
set_option linter.all false
set_option maxRecDepth 100000
set_option maxHeartbeats 1000000
/-! DL3: cells, statements, calls, loops, comprehensions. -/
namespace DL
open PySem PySem.Spec PyProof.Rows L2

section
variable {F : Fx} {c c' : Ct} {H H' : Hp} {σ : St}
theorem SlAll.length {A : List Addr} {ss : List Sl} {xs : List V} (h : SlAll A H ss xs) : ss.length = xs.length := Paired.length h
theorem SlAll.get {A : List Addr} {ss : List Sl} {xs : List V} (h : SlAll A H ss xs) {i : Nat} {s : Sl} (e : ss[i]? = some s) : ∃ v, xs[i]? = some v ∧ SlOk A H s v := Paired.getL h e
theorem Paired.snoc1 {α β : Type} {R : α → β → Prop} {a : α} {b : β} : ∀ {xs : List α} {ys : List β}, Paired R xs ys → R a b → Paired R (xs ++ [a]) (ys ++ [b])
  | _, _, .nil, r => .cons r .nil
  | _, _, .cons h t, r => .cons h (Paired.snoc1 t r)
theorem Paired.setL {α β : Type} {R : α → β → Prop} {a : α} {b : β} (r : R a b) : ∀ {xs : List α} {ys : List β} (i : Nat), Paired R xs ys → Paired R (xs.set i a) (ys.set i b)
  | _, _, _, .nil => .nil
  | _, _, 0, .cons _ t => .cons r t
  | _, _, i + 1, .cons h t => .cons h (Paired.setL r i t)
theorem Paired.dropLast {α β : Type} {R : α → β → Prop} : ∀ {xs : List α} {ys : List β}, Paired R xs ys → Paired R xs.dropLast ys.dropLast
  | _, _, .nil => .nil
  | _, _, .cons _ .nil => .nil
  | _, _, .cons h (.cons h2 t) => .cons h (Paired.dropLast (.cons h2 t))
theorem Paired.erase {α β : Type} {R : α → β → Prop} : ∀ {xs : List α} {ys : List β} (i : Nat), Paired R xs ys → Paired R (xs.eraseIdx i) (ys.eraseIdx i)
  | _, _, _, .nil => .nil
  | _, _, 0, .cons _ t => t
  | _, _, i + 1, .cons h t => .cons h (Paired.erase i t)

/-- a content of a cell, as the heap holds it -/
theorem Wd.newCell (w : Wd F c H σ) {p : Addr} (h : H p = none) {o : HO} {cl : Cell} (hc : CellOk (p :: c.A) (upd H p o) p cl) (hh : ∀ lp, cl ≠ .heap lp) :
    Wd F { c with A := p :: c.A, M := c.M ++ [(p, cl)] } (upd H p o) σ ∧ Kp c.A (p :: c.A) H (upd H p o) := by
  have n := w.free h
  have k : Kp c.A (p :: c.A) H (upd H p o) := fun b u nb e => ⟨fun hb => by
    rcases List.mem_cons.mp hb with e1 | e1
    · rw [e1, h] at e; cases e
    · exact nb e1, by rw [upd_ne (ne_of_none e h)]; exact e⟩
  refine ⟨⟨fun b u nb e => ?_, fun a ha => ?_, fun a ha => List.mem_cons_of_mem _ (w.wA a ha), List.nodup_cons.mpr ⟨n, w.nA⟩, fun e he => ?_, fun e he => ?_, fun e he => ?_, ?_, fun e he lp hl => ?_, fun e he => Dq.mono k.off (w.gs e he), Paired.mapP w.sl fun _ _ q => SlotOk.mono k q⟩, k⟩
  · have e' := w.fr b u nb e
    rw [upd_ne (ne_of_none e' h)]; exact e'
  · rcases List.mem_cons.mp ha with e1 | e1
    · exact ⟨o, by rw [e1]; exact upd_same⟩
    · obtain ⟨u, e⟩ := w.av a e1
      exact ⟨u, by rw [upd_ne (ne_of_none e h)]; exact e⟩
  · rcases List.mem_append.mp he with he | he
    · exact List.mem_cons_of_mem _ (w.mA e he)
    · rw [List.mem_singleton] at he; subst he; exact List.mem_cons_self
  · rcases List.mem_append.mp he with he | he
    · have q := w.mO e he
      have lt : ∀ {b u}, H b = some u → upd H p o b = some u := fun {b u} e => by rw [upd_ne (ne_of_none e h)]; exact e
      obtain ⟨p2, cl2⟩ := e
      cases cl2 with
      | lst ss => obtain ⟨xs, h1, h2⟩ := q; exact ⟨xs, lt h1, h2.mono k⟩
      | ins C dx ns ss => obtain ⟨xs, h1, h3, h2⟩ := q; exact ⟨xs, lt h1, h3, h2.mono k⟩
      | dk ks ss => obtain ⟨xs, h1, h3, h2⟩ := q; exact ⟨xs, lt h1, h3, h2.mono k⟩
      | heap lp => obtain ⟨L, s, h1, h2, r⟩ := q; exact ⟨L, s, lt h1, lt h2, r⟩
      | held _ => trivial
    · rw [List.mem_singleton] at he; subst he; exact hc
  · rcases List.mem_append.mp he with he | he
    · exact w.mW e he
    · rw [List.mem_singleton] at he; subst he; exact .inr (w.free0 h)
  · show ((c.M ++ [(p, cl)]).map (·.1)).Nodup
    rw [List.map_append, List.nodup_append]
    refine ⟨w.nd, by simp, fun a ha b hb => ?_⟩
    obtain ⟨e, he, rfl⟩ := List.mem_map.mp ha
    have e2 : b = p := by simpa using hb
    subst e2
    intro z
    exact n (by rw [← z]; exact w.mA e he)
  · rcases List.mem_append.mp he with he | he
    · exact List.mem_append_left _ (w.hl e he lp hl)
    · rw [List.mem_singleton] at he; subst he; exact absurd hl (hh lp)
theorem Wd.newList (w : Wd F c H σ) {p : Addr} (h : H p = none) {xs : List V} {ss : List Sl} (hs : SlAll c.A H ss xs) :
    Wd F { c with A := p :: c.A, M := c.M ++ [(p, .lst ss)] } (upd H p (.lst xs)) σ ∧ Kp c.A (p :: c.A) H (upd H p (.lst xs)) := by
  have k : Kp c.A (p :: c.A) H (upd H p (.lst xs)) := fun b u nb e => ⟨fun hb => by
    rcases List.mem_cons.mp hb with e1 | e1
    · rw [e1, h] at e; cases e
    · exact nb e1, by rw [upd_ne (ne_of_none e h)]; exact e⟩
  exact w.newCell h ⟨xs, upd_same, hs.mono k⟩ fun _ z => by cases z
theorem nodup_at {M : List (Addr × Cell)} (nd : (M.map (·.1)).Nodup) {i j : Nat} {p : Addr} {a b : Cell} (h1 : M[i]? = some (p, a)) (h2 : M[j]? = some (p, b)) : i = j := by
  have e1 : (M.map (·.1))[i]? = some p := by rw [List.getElem?_map, h1]; rfl
  have e2 : (M.map (·.1))[j]? = some p := by rw [List.getElem?_map, h2]; rfl
  obtain ⟨l1, z1⟩ := List.getElem?_eq_some_iff.mp e1
  obtain ⟨l2, z2⟩ := List.getElem?_eq_some_iff.mp e2
  exact (List.getElem_inj nd).mp (z1.trans z2.symm)
/-- a cell is written -/
theorem Wd.write (w : Wd F c H σ) {k : Nat} {p : Addr} {cl cl' : Cell} {o : HO} (hk : c.M[k]? = some (p, cl)) (hn : ∀ q, cl ≠ .held q) (hh : ∀ lp, cl ≠ .heap lp) (hh' : ∀ lp, cl' ≠ .heap lp) (hc : CellOk c.A (upd H p o) p cl') :
    Wd F { c with M := c.M.set k (p, cl') } (upd H p o) σ ∧ Kp c.A c.A H (upd H p o) := by
  obtain ⟨hA, _⟩ := w.cell hk
  have k0 : Kp c.A c.A H (upd H p o) := fun b u nb e => ⟨nb, by rw [upd_ne (fun z => nb (by rw [z]; exact hA))]; exact e⟩
  have mem : ∀ e ∈ c.M.set k (p, cl'), (e = (p, cl')) ∨ (e ∈ c.M ∧ e.1 ≠ p) := fun e he => by
    obtain ⟨j, hj⟩ := List.mem_iff_getElem?.mp he
    by_cases hjk : k = j
    · subst hjk
      have hl := (List.getElem?_eq_some_iff.mp hk).1
      rw [List.getElem?_set_self hl] at hj
      exact .inl (Option.some.inj hj).symm
    · rw [List.getElem?_set_ne hjk] at hj
      refine .inr ⟨List.mem_of_getElem? hj, fun z => hjk ?_⟩
      obtain ⟨q, b⟩ := e
      have z' : q = p := z
      subst z'
      exact nodup_at w.nd hk hj
  have noheld : ∀ q, (p, Cell.held q) ∉ c.M := fun q he => by
    obtain ⟨j, hj⟩ := List.mem_iff_getElem?.mp he
    have e := nodup_at w.nd hk hj
    subst e
    rw [hk] at hj
    exact hn q (Prod.mk.inj (Option.some.inj hj)).2
  have same : ∀ {b u}, b ≠ p → H b = some u → upd H p o b = some u := fun {b u} nb e => by rw [upd_ne nb]; exact e
  refine ⟨⟨fun b u nb e => ?_, fun a ha => ?_, w.wA, w.nA, fun e he => ?_, fun e he => ?_, fun e he => ?_, ?_, fun e he lp hl => ?_, fun e he => Dq.mono k0.off (w.gs e he), Paired.mapP w.sl fun _ _ q => SlotOk.mono k0 q⟩, k0⟩
  · refine same (fun z => ?_) (w.fr b u nb e)
    rcases w.mW (p, cl) (List.mem_of_getElem? hk) with q | q
    · exact nb (by rw [z]; exact q)
    · rw [z, show F.H0 p = none from q] at e; cases e
  · by_cases z : a = p
    · exact ⟨o, by rw [z]; exact upd_same⟩
    · obtain ⟨u, e⟩ := w.av a ha
      exact ⟨u, same z e⟩
  · rcases mem e he with rfl | ⟨he, _⟩
    · exact hA
    · exact w.mA e he
  · rcases mem e he with rfl | ⟨he, ne⟩
    · exact hc
    · have q := w.mO e he
      obtain ⟨p2, cl2⟩ := e
      have ne' : p2 ≠ p := ne
      cases cl2 with
      | lst ss => obtain ⟨xs, h1, h2⟩ := q; exact ⟨xs, same ne' h1, h2.mono k0⟩
      | ins C dx ns ss => obtain ⟨xs, h1, h3, h2⟩ := q; exact ⟨xs, same ne' h1, h3, h2.mono k0⟩
      | dk ks ss => obtain ⟨xs, h1, h3, h2⟩ := q; exact ⟨xs, same ne' h1, h3, h2.mono k0⟩
      | heap lp =>
        obtain ⟨L, s, h1, h2, r⟩ := q
        exact ⟨L, s, same ne' h1, same (fun z => noheld _ (by rw [← z]; exact w.hl _ he lp rfl)) h2, r⟩
      | held _ => trivial
  · rcases mem e he with rfl | ⟨he, _⟩
    · exact w.mW (p, cl) (List.mem_of_getElem? hk)
    · exact w.mW e he
  · show ((c.M.set k (p, cl')).map (·.1)).Nodup
    rw [List.map_set]
    have e : (c.M.map (·.1)).set k p = c.M.map (·.1) := by
      have hl := (List.getElem?_eq_some_iff.mp hk).1
      apply List.ext_getElem?
      intro j
      by_cases hj : k = j
      · subst hj
        rw [List.getElem?_set_self (by simpa using hl), List.getElem?_map, hk]
        rfl
      · rw [List.getElem?_set_ne hj]
    rw [e]
    exact w.nd
  · rcases mem e he with rfl | ⟨he, _⟩
    · exact absurd hl (hh' lp)
    · have q := w.hl e he lp hl
      obtain ⟨j, hj⟩ := List.mem_iff_getElem?.mp q
      refine List.mem_iff_getElem?.mpr ⟨j, ?_⟩
      rw [List.getElem?_set_ne]
      · exact hj
      · intro z
        subst z
        rw [hk] at hj
        have e1 := (Prod.mk.inj (Option.some.inj hj)).2
        exact hn _ e1
theorem Wd.writeL (w : Wd F c H σ) {k : Nat} {p : Addr} {ss ss' : List Sl} {xs' : List V} (hk : c.M[k]? = some (p, .lst ss)) (h : SlAll c.A H ss' xs') :
    Wd F { c with M := c.M.set k (p, .lst ss') } (upd H p (.lst xs')) σ ∧ Kp c.A c.A H (upd H p (.lst xs')) := by
  have hA := (w.cell hk).1
  have k0 : Kp c.A c.A H (upd H p (.lst xs')) := fun b u nb e => ⟨nb, by rw [upd_ne (fun z => nb (by rw [z]; exact hA))]; exact e⟩
  exact w.write hk (fun _ z => by cases z) (fun _ z => by cases z) (fun _ z => by cases z) ⟨xs', upd_same, h.mono k0⟩

/-! ### statements -/
variable {D : Ends} {te ta tb : TE} {tt : TT} {t u : TS} {s : Sl} {K : PySem.W.Frag}
theorem s_set {A : List Addr} {G : List (V × Dt)} {M : List (Addr × Cell)} {S : List Sl} {i : Nat} (w : Wd F ⟨A, G, M, S⟩ H σ) (h : EvP F ⟨A, G, M, S⟩ te s) (k : ∀ H' σ', Wd F ⟨A, G, M, S.set i s⟩ H' σ' → D.nx σ' H') : tAsg te (gName i) D σ H :=
  h.run w fun v H1 w1 k1 h1 => k H1 _ (w1.set h1 i)
theorem s_ret (w : Wd F c H σ) (h : EvP F c te s) (k : ∀ v H', Wd F c H' σ → SlOk c.A H' s v → D.rt v H') : tRet te D σ H := h.run w fun v H1 w1 k1 h1 => k v H1 w1 h1
theorem s_drop (w : Wd F c H σ) (h : EvP F c te s) (k : ∀ H', Wd F c H' σ → D.nx σ H') : tDrop te D σ H := h.run w fun v H1 w1 k1 h1 => k H1 w1
theorem s_if {b : Bool} (w : Wd F c H σ) (h : EvT F c tt b) (h1 : b = true → ∀ H', Wd F c H' σ → t D σ H') (h2 : b = false → ∀ H', Wd F c H' σ → u D σ H') : tIfS tt t u D σ H := h c (Xt.refl c) H σ w _ fun H1 w1 k1 => by
  cases b with
  | true => exact iteT (h1 rfl H1 w1)
  | false => exact iteF (h2 rfl H1 w1)
theorem s_aug {A : List Addr} {G : List (V × Dt)} {M : List (Addr × Cell)} {S : List Sl} {i : Nat} {f : Int → Int → Int} {a b : Int} (w : Wd F ⟨A, G, M, S⟩ H σ) (hx : S[i]? = some (.d (.int a))) (h : EvP F ⟨A, G, M, S⟩ te (.d (.int b))) (k : ∀ H' σ', Wd F ⟨A, G, M, S.set i (.d (.int (f a b)))⟩ H' σ' → D.nx σ' H') : tAug i te (ipI f) D σ H := by
  obtain ⟨v, e, hv⟩ := w.slot hx rfl
  exact ⟨v, e, h.run w fun u H1 w1 k1 h1 => ⟨a, b, hv.int, h1.int, k H1 _ (w1.set (s := .d (.int (f a b))) (Dq.int _) i)⟩⟩
theorem s_par {A : List Addr} {G : List (V × Dt)} {M : List (Addr × Cell)} {S : List Sl} {i j : Nat} {ss : Sl} (w : Wd F ⟨A, G, M, S⟩ H σ) (h : EvA F ⟨A, G, M, S⟩ (tCons ta (tCons tb tNil)) [s, ss]) (k : ∀ H' σ', Wd F ⟨A, G, M, (S.set i s).set j ss⟩ H' σ' → D.nx σ' H') : tPar i j (tCons ta (tCons tb tNil)) D σ H :=
  h _ (Xt.refl _) H σ w _ fun vs H1 w1 k1 h1 => by
    cases h1 with
    | cons a r =>
      cases r with
      | cons b r =>
        cases r
        exact ⟨_, _, rfl, k H1 _ ((w1.set a i).set (s := ss) b j)⟩
/-- x = [] : a list that will change -/
theorem s_newL {A : List Addr} {G : List (V × Dt)} {M : List (Addr × Cell)} {S : List Sl} {i : Nat} {ss : List Sl} {tr : TA} (w : Wd F ⟨A, G, M, S⟩ H σ) (h : EvA F ⟨A, G, M, S⟩ tr ss) (hz : ss.length ≤ 100000) (k : ∀ p H' σ', p ∉ A → F.H0 p = none → Wd F ⟨p :: A, G, M ++ [(p, .lst ss)], S.set i (.v (.ref p))⟩ H' σ' → D.nx σ' H') : tAsg (tLst tr) (gName i) D σ H :=
  h _ (Xt.refl _) H σ w _ fun vs H1 w1 k1 h1 => ⟨by rw [← h1.length]; exact Nat.le_trans hz (by decide), fun p hp => by
    obtain ⟨w2, k2⟩ := w1.newList hp h1
    exact k p _ _ (w1.free hp) (w1.free0 hp) (w2.set (s := .v (.ref p)) rfl i)⟩
/-- xs.append(e) -/
theorem s_append {A : List Addr} {G : List (V × Dt)} {M : List (Addr × Cell)} {S : List Sl} {k : Nat} {p : Addr} {ss : List Sl} (w : Wd F ⟨A, G, M, S⟩ H σ) (hk : M[k]? = some (p, .lst ss)) (ha : EvP F ⟨A, G, M, S⟩ ta (.v (.ref p))) (h : EvP F ⟨A, G, M, S⟩ te s) (hz : ss.length < 100000)
    (q : ∀ H', Wd F ⟨A, G, M.set k (p, .lst (ss ++ [s])), S⟩ H' σ → D.nx σ H') : tDrop (tBM K "list" rAppend ta (tCons te tNil)) D σ H :=
  ha.run w fun x H1 w1 k1 h1 => by
    obtain rfl : x = .ref p := h1
    obtain ⟨_, xs0, e0, _⟩ := w1.cell hk
    refine ⟨.inl ⟨rfl, _, SqL.of e0⟩, h.run w1 fun y H2 w2 k2 h2 => ?_⟩
    obtain ⟨_, xs, e1, e2⟩ := w2.cell hk
    refine ⟨p, xs, y, rfl, rfl, e1, by rw [← e2.length]; exact Nat.lt_of_lt_of_le hz (by decide), ?_⟩
    exact q _ (w2.writeL hk (Paired.snoc1 e2 h2)).1

/-! ### calls -/
/-- a def that changes nothing: its arguments, what it asks, what it may hand back -/
def SpP {α : Type} (args : α → List Dt) (pre : α → Prop) (res : α → Dt → Prop) : Sp := fun vs H Q _ => ∃ (A : List Addr) (a : α), A.Nodup ∧ (∀ x ∈ A, ∃ o, H x = some o) ∧ DqL (Off A H) vs (args a) ∧ pre a ∧
  ∀ v H' d, res a d → Le H H' → Dq (Off A H') v d → Q v H'
/-- a def that draws from the source at hp -/
def SpH {α : Type} (args : α → List Dt) (pre : α → Prop) (res : α → Dt → Prop) : Sp := fun vs H Q _ => ∃ (A : List Addr) (hp lp : Addr) (ws : List V) (a : α), vs = .ref hp :: ws ∧ A.Nodup ∧ (∀ x ∈ A, ∃ o, H x = some o) ∧ hp ∈ A ∧ lp ∈ A ∧ hp ≠ lp ∧
  CellOk A H hp (.heap lp) ∧ DqL (Off A H) ws (args a) ∧ pre a ∧
  ∀ v H' d, res a d → (∀ b o, b ≠ hp → b ≠ lp → H b = some o → H' b = some o) → CellOk A H' hp (.heap lp) → Dq (Off A H') v d → Q v H'
theorem ev_call {α : Type} {args : α → List Dt} {pre : α → Prop} {f : α → Dt} {E : XK} {tr : TA} {a : α} (h : EvA F c tr ((args a).map Sl.d)) (hp : pre a) : EvP F c (tCall (SpP args pre fun a d => d = f a) [] E tr) (.d (f a)) := fun c' x H σ w Q q =>
  h c' x H σ w _ fun vs H1 w1 k1 h1 => by
    rw [List.append_nil]
    refine ⟨c'.A, a, w1.nA, w1.av, h1.dqL, hp, fun v H2 d e l hd => ?_⟩
    subst e
    exact q v H2 (w1.le l) (k1.trans (Kp.le l)) hd

/-- one of several things: something of which R is true -/
def EvR (F : Fx) (c : Ct) (te : TE) (R : Sl → Prop) : Prop := ∀ c', Xt c c' → ∀ H σ, Wd F c' H σ → ∀ Q : VK, (∀ s, R s → ∀ v H', Wd F c' H' σ → Kp c'.A c'.A H H' → SlOk c'.A H' s v → Q v H') → te σ H Q
def EvRA (F : Fx) (c : Ct) (ta : TA) (R : List Sl → Prop) : Prop := ∀ c', Xt c c' → ∀ H σ, Wd F c' H σ → ∀ Q : List V → Hp → Prop, (∀ ss, R ss → ∀ vs H', Wd F c' H' σ → Kp c'.A c'.A H H' → SlAll c'.A H' ss vs → Q vs H') → ta σ H Q
def EvRT (F : Fx) (c : Ct) (tt : TT) (R : Bool → Prop) : Prop := ∀ c', Xt c c' → ∀ H σ, Wd F c' H σ → ∀ Q : Bool → Hp → Prop, (∀ b, R b → ∀ H', Wd F c' H' σ → Kp c'.A c'.A H H' → Q b H') → tt σ H Q
variable {R R' : Sl → Prop} {RA : List Sl → Prop}
theorem EvP.r (h : EvP F c te s) (hs : R s) : EvR F c te R := fun c' x H σ w Q q => h c' x H σ w Q fun v H' w' k' h' => q s hs v H' w' k' h'
theorem EvA.r {tr : TA} {ss : List Sl} (h : EvA F c tr ss) (hs : RA ss) : EvRA F c tr RA := fun c' x H σ w Q q => h c' x H σ w Q fun v H' w' k' h' => q ss hs v H' w' k' h'
theorem EvT.r {b : Bool} {RT : Bool → Prop} (h : EvT F c tt b) (hs : RT b) : EvRT F c tt RT := fun c' x H σ w Q q => h c' x H σ w Q fun H' w' k' => q b hs H' w' k'
theorem EvR.imp (h : EvR F c te R) (i : ∀ s, R s → R' s) : EvR F c te R' := fun c' x H σ w Q q => h c' x H σ w Q fun s hs => q s (i s hs)
theorem EvR.run (h : EvR F c te R) (w : Wd F c H σ) {Q : VK} (q : ∀ s, R s → ∀ v H', Wd F c H' σ → Kp c.A c.A H H' → SlOk c.A H' s v → Q v H') : te σ H Q := h c (Xt.refl c) H σ w Q q
theorem s_setR {A : List Addr} {G : List (V × Dt)} {M : List (Addr × Cell)} {S : List Sl} {i : Nat} (w : Wd F ⟨A, G, M, S⟩ H σ) (h : EvR F ⟨A, G, M, S⟩ te R) (k : ∀ s, R s → ∀ H' σ', Wd F ⟨A, G, M, S.set i s⟩ H' σ' → D.nx σ' H') : tAsg te (gName i) D σ H :=
  h.run w fun s hs v H1 w1 k1 h1 => k s hs H1 _ (w1.set h1 i)
theorem s_retR (w : Wd F c H σ) (h : EvR F c te R) (k : ∀ s, R s → ∀ v H', Wd F c H' σ → SlOk c.A H' s v → D.rt v H') : tRet te D σ H := h.run w fun s hs v H1 w1 k1 h1 => k s hs v H1 w1 h1
theorem s_ifR {RT : Bool → Prop} (w : Wd F c H σ) (h : EvRT F c tt RT) (h1 : RT true → ∀ H', Wd F c H' σ → t D σ H') (h2 : RT false → ∀ H', Wd F c H' σ → u D σ H') : tIfS tt t u D σ H := h c (Xt.refl c) H σ w _ fun b hb H1 w1 k1 => by
  cases b with
  | true => exact iteT (h1 hb H1 w1)
  | false => exact iteF (h2 hb H1 w1)
theorem ra_cons {tr : TA} {R2 : Sl → List Sl → Prop} (h : EvR F c te R) (hr : ∀ s, R s → EvRA F c tr (R2 s)) : EvRA F c (tCons te tr) (fun ss => ∃ s r, R s ∧ R2 s r ∧ ss = s :: r) := fun c' x H σ w Q q =>
  h c' x H σ w _ fun s hs v H1 w1 k1 h1 => hr s hs c' x H1 σ w1 _ fun ss hss vs H2 w2 k2 h2 => q _ ⟨s, ss, hs, hss, rfl⟩ (v :: vs) H2 w2 (k1.trans k2) (.cons (h1.mono k2) h2)
theorem ra_cons0 {tr : TA} {s : Sl} (h : EvP F c te s) (hr : EvRA F c tr RA) : EvRA F c (tCons te tr) (fun ss => ∃ r, RA r ∧ ss = s :: r) := fun c' x H σ w Q q =>
  h c' x H σ w _ fun v H1 w1 k1 h1 => hr c' x H1 σ w1 _ fun ss hss vs H2 w2 k2 h2 => q _ ⟨ss, hss, rfl⟩ (v :: vs) H2 w2 (k1.trans k2) (.cons (h1.mono k2) h2)
theorem ra_cons1 {tr : TA} {r : List Sl} (h : EvR F c te R) (hr : EvA F c tr r) : EvRA F c (tCons te tr) (fun ss => ∃ s, R s ∧ ss = s :: r) := fun c' x H σ w Q q =>
  h c' x H σ w _ fun s hs v H1 w1 k1 h1 => hr c' x H1 σ w1 _ fun vs H2 w2 k2 h2 => q _ ⟨s, hs, rfl⟩ (v :: vs) H2 w2 (k1.trans k2) (.cons (h1.mono k2) h2)
theorem EvRA.imp {tr : TA} {RB : List Sl → Prop} (h : EvRA F c tr RA) (i : ∀ s, RA s → RB s) : EvRA F c tr RB := fun c' x H σ w Q q => h c' x H σ w Q fun s hs => q s (i s hs)
theorem r_op {r : R2} {Ra Rb : Sl → Prop} (ha : EvR F c ta Ra) (hb : EvR F c tb Rb) (hr : ∀ a b, Ra a → Rb b → ∃ s, R s ∧ RvP F c r a b s) : EvR F c (tOp r ta tb) R := fun c' x H σ w Q q =>
  ha c' x H σ w _ fun a ha' v H1 w1 k1 h1 => hb c' x H1 σ w1 _ fun b hb' u H2 w2 k2 h2 => by
    obtain ⟨s, hs, hrv⟩ := hr a b ha' hb'
    exact hrv c' x H2 σ v u w2 (h1.mono k2) h2 Q fun y H3 w3 k3 h3 => q s hs y H3 w3 (k1.trans (k2.trans k3)) h3
theorem r_cb {r : List V → Hp → VK → Prop} {tr : TA} (h : EvRA F c tr RA) (hr : ∀ ss, RA ss → ∃ s, R s ∧ RcP F c r ss s) : EvR F c (tCB r tr) R := fun c' x H σ w Q q =>
  h c' x H σ w _ fun ss hss vs H1 w1 k1 h1 => by
    obtain ⟨s, hs, hrc⟩ := hr ss hss
    exact hrc c' x H1 σ vs w1 h1 Q fun z H2 w2 k2 h2 => q s hs z H2 w2 (k1.trans k2) h2
theorem r_lst {tr : TA} (h : EvRA F c tr RA) (hr : ∀ ss, RA ss → ∃ ds : List Dt, ss = ds.map Sl.d ∧ ds.length ≤ 100000 ∧ R (.d (.lst ds))) : EvR F c (tLst tr) R := fun c' x H σ w Q q =>
  h c' x H σ w _ fun ss hss vs H1 w1 k1 h1 => by
    obtain ⟨ds, rfl, hz, hs⟩ := hr ss hss
    have e := h1.dqL
    refine ⟨by rw [e.length]; exact Nat.le_trans hz (by decide), fun p hp => ?_⟩
    obtain ⟨w2, k2⟩ := w1.new hp (.lst vs)
    obtain ⟨l, n⟩ := off_new w1 (o := .lst vs) hp
    exact q _ hs _ _ w2 (k1.trans k2) (Dq.lst n (e.mono l))
theorem r_tup {tr : TA} (h : EvRA F c tr RA) (hr : ∀ ss, RA ss → ∃ ds : List Dt, ss = ds.map Sl.d ∧ ds.length ≤ 100000 ∧ R (.d (.tup ds))) : EvR F c (tTup tr) R := fun c' x H σ w Q q =>
  h c' x H σ w _ fun ss hss vs H1 w1 k1 h1 => by
    obtain ⟨ds, rfl, hz, hs⟩ := hr ss hss
    have e := h1.dqL
    refine ⟨by rw [e.length]; exact Nat.le_trans hz (by decide), fun p hp => ?_⟩
    obtain ⟨w2, k2⟩ := w1.new hp (.tup vs)
    obtain ⟨l, n⟩ := off_new w1 (o := .tup vs) hp
    exact q _ hs _ _ w2 (k1.trans k2) (Dq.tup n (e.mono l))
theorem rt_test {RT : Bool → Prop} (h : EvR F c te R) (hr : ∀ s, R s → ∃ b, s = .d (.bl b) ∧ RT b) : EvRT F c (tTest te) RT := fun c' x H σ w Q q => h c' x H σ w _ fun s hs v H1 w1 k1 h1 => by
  obtain ⟨b, rfl, hb⟩ := hr s hs
  exact ⟨b, h1.bl, q b hb H1 w1 k1⟩
theorem rt_and {t' u' : TT} {RT : Bool → Prop} {a : Bool} (h1 : EvT F c t' a) (h0 : a = false → RT false) (h2 : a = true → EvRT F c u' RT) : EvRT F c (tAnd t' u') RT := fun c' x H σ w Q q => h1 c' x H σ w _ fun H1 w1 k1 => by
  cases a with
  | true => exact iteT (h2 rfl c' x H1 σ w1 _ fun b hb H2 w2 k2 => q b hb H2 w2 (k1.trans k2))
  | false => exact iteF (q false (h0 rfl) H1 w1 k1)
theorem r_if {b : Bool} (h : EvT F c tt b) (h1 : b = true → EvR F c ta R) (h2 : b = false → EvR F c tb R) : EvR F c (tIf tt ta tb) R := fun c' x H σ w Q q => h c' x H σ w _ fun H1 w1 k1 => by
  cases b with
  | true => exact iteT (h1 rfl c' x H1 σ w1 _ fun s hs v2 H2 w2 k2 g2 => q s hs v2 H2 w2 (k1.trans k2) g2)
  | false => exact iteF (h2 rfl c' x H1 σ w1 _ fun s hs v2 H2 w2 k2 g2 => q s hs v2 H2 w2 (k1.trans k2) g2)
/-- behind a def that draws: the world stands as it was told -/
theorem Wd.drawn (w : Wd F c H σ) {i : Nat} {hp lp : Addr} (hi : c.M[i]? = some (hp, .heap lp)) (k : ∀ b o, b ≠ hp → b ≠ lp → H b = some o → H' b = some o) (hc : CellOk c.A H' hp (.heap lp)) : Wd F c H' σ ∧ Kp c.A c.A H H' := by
  have hl := w.hl _ (List.mem_of_getElem? hi) lp rfl
  have hA := w.mA _ (List.mem_of_getElem? hi)
  have lA := w.mA _ hl
  have k0 : Kp c.A c.A H H' := fun b o nb e => ⟨nb, k b o (fun z => nb (by rw [z]; exact hA)) (fun z => nb (by rw [z]; exact lA)) e⟩
  refine ⟨⟨fun b u nb e => ?_, fun a ha => ?_, w.wA, w.nA, w.mA, fun e he => ?_, w.mW, w.nd, w.hl, fun e he => Dq.mono k0.off (w.gs e he), Paired.mapP w.sl fun _ _ q => SlotOk.mono k0 q⟩, k0⟩
  · refine k b u (fun z => ?_) (fun z => ?_) (w.fr b u nb e)
    · rcases w.mW _ (List.mem_of_getElem? hi) with q | q
      · exact nb (by rw [z]; exact q)
      · rw [z, show F.H0 hp = none from q] at e; cases e
    · rcases w.mW _ hl with q | q
      · exact nb (by rw [z]; exact q)
      · rw [z, show F.H0 lp = none from q] at e; cases e
  · obtain ⟨L, s, h1, h2, _⟩ := hc
    by_cases z1 : a = hp
    · exact ⟨_, by rw [z1]; exact h1⟩
    · by_cases z2 : a = lp
      · exact ⟨_, by rw [z2]; exact h2⟩
      · obtain ⟨o, e⟩ := w.av a ha
        exact ⟨o, k a o z1 z2 e⟩
  · by_cases z1 : e.1 = hp
    · obtain ⟨j, hj⟩ := List.mem_iff_getElem?.mp he
      obtain ⟨p2, cl2⟩ := e
      have z1' : p2 = hp := z1
      subst z1'
      have e1 := nodup_at w.nd hi hj
      subst e1
      rw [hi] at hj
      cases hj
      exact hc
    · by_cases z2 : e.1 = lp
      · obtain ⟨j, hj⟩ := List.mem_iff_getElem?.mp he
        obtain ⟨j2, hj2⟩ := List.mem_iff_getElem?.mp hl
        obtain ⟨p2, cl2⟩ := e
        have z2' : p2 = lp := z2
        subst z2'
        have e1 := nodup_at w.nd hj hj2
        subst e1
        rw [hj] at hj2
        cases hj2
        trivial
      · have q := w.mO e he
        obtain ⟨p2, cl2⟩ := e
        cases cl2 with
        | lst ss => obtain ⟨xs, h1, h2⟩ := q; exact ⟨xs, k _ _ z1 z2 h1, h2.mono k0⟩
        | ins C dx ns ss => obtain ⟨xs, h1, h3, h2⟩ := q; exact ⟨xs, k _ _ z1 z2 h1, h3, h2.mono k0⟩
        | dk ks ss => obtain ⟨xs, h1, h3, h2⟩ := q; exact ⟨xs, k _ _ z1 z2 h1, h3, h2.mono k0⟩
        | heap lp2 =>
          obtain ⟨L, s, h1, h2, r⟩ := q
          have hl2 := w.hl _ he lp2 rfl
          refine ⟨L, s, k _ _ z1 z2 h1, k _ _ (fun z => ?_) (fun z => ?_) h2, r⟩
          · subst z
            obtain ⟨j2, hj2⟩ := List.mem_iff_getElem?.mp hl2
            have e1 := nodup_at w.nd hi hj2
            subst e1
            rw [hi] at hj2
            cases hj2
          · subst z
            obtain ⟨j, hj⟩ := List.mem_iff_getElem?.mp hl
            obtain ⟨j2, hj2⟩ := List.mem_iff_getElem?.mp hl2
            have e1 := nodup_at w.nd hj hj2
            subst e1
            rw [hj] at hj2
            cases hj2
            exact z1 rfl
        | held _ => trivial
theorem r_callH {α : Type} {args : α → List Dt} {pre : α → Prop} {res : α → Dt → Prop} {E : XK} {tr : TA} {i : Nat} {hp lp : Addr} (hi : c.M[i]? = some (hp, .heap lp)) (h : EvRA F c tr RA)
    (hr : ∀ ss, RA ss → ∃ a, ss = .v (.ref hp) :: (args a).map Sl.d ∧ pre a ∧ ∀ d, res a d → R (.d d)) : EvR F c (tCall (SpH args pre res) [] E tr) R := fun c' x H σ w Q q =>
  h c' x H σ w _ fun ss hss vs H1 w1 k1 h1 => by
    obtain ⟨a, rfl, hpre, hres⟩ := hr ss hss
    rw [List.append_nil]
    cases h1 with
    | cons e r =>
      cases e
      have hl := w1.hl _ (List.mem_of_getElem? (x.cell hi)) lp rfl
      refine ⟨c'.A, hp, lp, _, a, rfl, w1.nA, w1.av, w1.mA _ (List.mem_of_getElem? (x.cell hi)), w1.mA _ hl, fun e => ?_, w1.mO _ (List.mem_of_getElem? (x.cell hi)), SlAll.dqL r, hpre, fun v H2 d hd l hc hv => ?_⟩
      · subst e
        obtain ⟨j2, hj2⟩ := List.mem_iff_getElem?.mp hl
        have e1 := nodup_at w1.nd (x.cell hi) hj2
        subst e1
        rw [x.cell hi] at hj2
        cases hj2
      · obtain ⟨w2, k2⟩ := w1.drawn (x.cell hi) l hc
        exact q _ (hres d hd) v H2 w2 (k1.trans k2) hv
theorem r_call {α : Type} {args : α → List Dt} {pre : α → Prop} {res : α → Dt → Prop} {E : XK} {tr : TA} (h : EvRA F c tr RA)
    (hr : ∀ ss, RA ss → ∃ a, ss = (args a).map Sl.d ∧ pre a ∧ ∀ d, res a d → R (.d d)) : EvR F c (tCall (SpP args pre res) [] E tr) R := fun c' x H σ w Q q =>
  h c' x H σ w _ fun ss hss vs H1 w1 k1 h1 => by
    obtain ⟨a, rfl, hpre, hres⟩ := hr ss hss
    rw [List.append_nil]
    refine ⟨c'.A, a, w1.nA, w1.av, h1.dqL, hpre, fun v H2 d e l hd => ?_⟩
    exact q _ (hres d e) v H2 (w1.le l) (k1.trans (Kp.le l)) hd
end
end DL

set_option Elab.async false
set_option linter.all false
set_option maxRecDepth 100000
set_option maxHeartbeats 1000000
/-! DL4: what is walked; for; comprehensions; while. -/
namespace DL
open PySem PySem.Spec PyProof.Rows L2 RT RZ

/-- J gives the items of its, while the things of G stand -/
def ItOk (J : It) (its : List Sl) (G : List (V × Dt)) : Prop := ∀ A H, (∀ a ∈ A, ∃ o, H a = some o) → (∀ e ∈ G, Dq (Off A H) e.1 e.2) →
  J.stop its.length H ∧ ∀ i s, its[i]? = some s → J.go i H ∧ ∀ x H', J.yld i H x H' → Le H H' ∧ SlOk A H' s x
def EvI (F : Fx) (c : Ct) (wi : TI) (its : List Sl) : Prop := ∀ c', Xt c c' → ∀ H σ, Wd F c' H σ → ∀ R : It → Hp → Prop,
  (∀ J H' G, ItOk J its G → (∀ e ∈ G, Dq (Off c'.A H') e.1 e.2) → Wd F c' H' σ → Kp c'.A c'.A H H' → R J H') → wi σ H R
section
variable {F : Fx} {c c' : Ct} {H H' : Hp} {σ : St} {K : PySem.W.Frag} {te ta tb : TE} {a b s : Sl}
theorem itok_list {p : Addr} {ds : List Dt} : ItOk (Itl K p) (ds.map Sl.d) [(.ref p, .lst ds)] := fun A H lv g => by
  have h := g _ (List.mem_singleton.mpr rfl)
  obtain ⟨q, xs, e, n, h1, h2⟩ := SlOk.lst (A := A) (H := H) h
  cases e
  refine ⟨⟨xs, SqL.of h1, by rw [List.length_map, h2.length]; exact Nat.le_refl _⟩, fun i s hi => ?_⟩
  rw [List.getElem?_map] at hi
  cases hd : ds[i]? with
  | none => rw [hd] at hi; cases hi
  | some d =>
    rw [hd] at hi
    cases hi
    obtain ⟨v, hv, hq⟩ := h2.get hd
    refine ⟨⟨xs, v, SqL.of h1, hv⟩, fun x H' y => ?_⟩
    obtain ⟨rfl, y⟩ := y
    have e := y xs (SqL.of h1)
    rw [hv] at e
    cases e
    exact ⟨Le.refl _, hq⟩
theorem itok_tup {p : Addr} {ds : List Dt} : ItOk (Itt K p) (ds.map Sl.d) [(.ref p, .tup ds)] := fun A H lv g => by
  have h := g _ (List.mem_singleton.mpr rfl)
  obtain ⟨q, xs, e, n, h1, h2⟩ := SlOk.tup (A := A) (H := H) h
  cases e
  refine ⟨⟨xs, SqT.of h1, by rw [List.length_map, h2.length]; exact Nat.le_refl _⟩, fun i s hi => ?_⟩
  rw [List.getElem?_map] at hi
  cases hd : ds[i]? with
  | none => rw [hd] at hi; cases hi
  | some d =>
    rw [hd] at hi
    cases hi
    obtain ⟨v, hv, hq⟩ := h2.get hd
    refine ⟨⟨xs, v, SqT.of h1, hv⟩, fun x H' y => ?_⟩
    obtain ⟨rfl, y⟩ := y
    have e := y xs (SqT.of h1)
    rw [hv] at e
    cases e
    exact ⟨Le.refl _, hq⟩
theorem itok_rng {lo : Int} {n : Nat} : ItOk (Itr lo n) ((List.range n).map fun i => Sl.d (.int (lo + (i : Nat)))) [] := fun A H lv g => by
  refine ⟨by rw [List.length_map, List.length_range]; exact Nat.le_refl _, fun i s hi => ?_⟩
  rw [List.getElem?_map] at hi
  have hn : i < n := by
    cases e : (List.range n)[i]? with
    | none => rw [e] at hi; cases hi
    | some j =>
      have := (List.getElem?_eq_some_iff.mp e).1
      simpa using this
  rw [List.getElem?_range hn] at hi
  cases hi
  refine ⟨hn, fun x H' y => ?_⟩
  obtain ⟨rfl, rfl⟩ := y
  exact ⟨Le.refl _, Dq.int _⟩
def signs (z : Str) : List Sl := z.cps.toList.map fun k => Sl.d (.str ⟨#[k]⟩)
theorem itok_str {z : Str} : ItOk (Its z) (signs z) [] := fun A H lv g => by
  have hz : (signs z).length = z.cps.size := by unfold signs; rw [List.length_map, Array.length_toList]
  refine ⟨by rw [hz]; exact Nat.le_refl _, fun i s hi => ?_⟩
  have hl : i < z.cps.size := by rw [← hz]; exact (List.getElem?_eq_some_iff.mp hi).1
  refine ⟨hl, fun x H' y => ?_⟩
  obtain ⟨rfl, k, hk, rfl⟩ := y
  refine ⟨Le.refl _, ?_⟩
  unfold signs at hi
  rw [List.getElem?_map, Array.getElem?_toList, hk] at hi
  cases hi
  exact Dq.str _
theorem ei_list {tl : TE} {ds : List Dt} (h : EvP F c tl (.d (.lst ds))) : EvI F c (iList K tl) (ds.map Sl.d) := fun c' x H σ w R q =>
  h c' x H σ w _ fun v H1 w1 k1 h1 => by
    obtain ⟨p, xs, e, n, g1, g2⟩ := h1.lst
    subst e
    exact ⟨p, rfl, ⟨xs, SqL.of g1⟩, q _ H1 _ itok_list (fun e he => by rw [List.mem_singleton] at he; subst he; exact h1) w1 k1⟩
theorem ei_tup {tl : TE} {ds : List Dt} (h : EvP F c tl (.d (.tup ds))) : EvI F c (iTup K tl) (ds.map Sl.d) := fun c' x H σ w R q =>
  h c' x H σ w _ fun v H1 w1 k1 h1 => by
    obtain ⟨p, xs, e, n, g1, g2⟩ := h1.tup
    subst e
    exact ⟨p, rfl, ⟨xs, SqT.of g1⟩, q _ H1 _ itok_tup (fun e he => by rw [List.mem_singleton] at he; subst he; exact h1) w1 k1⟩
theorem ei_rng1 {tr : TA} {n : Int} (h : EvA F c tr [.d (.int n)]) (hn : -100000 ≤ n ∧ n ≤ 100000) : EvI F c (iRng1 tr) ((List.range n.toNat).map fun i => Sl.d (.int (i : Nat))) := fun c' x H σ w R q =>
  h c' x H σ w _ fun vs H1 w1 k1 h1 => by
    cases h1 with
    | cons e r =>
      cases r
      refine ⟨n, by rw [SlOk.int e], by omega, by omega, ?_⟩
      have z := itok_rng (lo := 0) (n := n.toNat)
      have e0 : ((List.range n.toNat).map fun i => Sl.d (.int ((0 : Int) + (i : Nat)))) = ((List.range n.toNat).map fun i => Sl.d (.int (i : Nat))) := by
        apply List.map_congr_left
        intro i _
        rw [Int.zero_add]
      rw [e0] at z
      exact q _ H1 _ z (fun e he => by cases he) w1 k1
theorem ei_str {tl : TE} {z : Str} (h : EvP F c tl (.d (.str z))) : EvI F c (iStr tl) (signs z) := fun c' x H σ w R q =>
  h c' x H σ w _ fun v H1 w1 k1 h1 => ⟨z, h1.str, q _ H1 _ itok_str (fun e he => by cases he) w1 k1⟩
/-- reversed(list) -/
theorem itok_rev {p : Addr} {ds : List Dt} {n : Nat} (hn : n = ds.length) : ItOk (Itv K p n) (ds.reverse.map Sl.d) [(.ref p, .lst ds)] := fun A H lv g => by
  have h := g _ (List.mem_singleton.mpr rfl)
  obtain ⟨q, xs, e, nn, h1, h2⟩ := SlOk.lst (A := A) (H := H) h
  cases e
  subst hn
  refine ⟨by show ds.length ≤ (ds.reverse.map Sl.d).length; rw [List.length_map, List.length_reverse]; exact Nat.le_refl _, fun i s hi => ?_⟩
  rw [List.getElem?_map] at hi
  cases hd : ds.reverse[i]? with
  | none => rw [hd] at hi; cases hi
  | some d =>
    rw [hd] at hi
    cases hi
    have hl : i < ds.length := by
      have := (List.getElem?_eq_some_iff.mp hd).1
      simpa using this
    rw [List.getElem?_reverse hl] at hd
    obtain ⟨v, hv, hq⟩ := h2.get hd
    refine ⟨⟨hl, xs, v, SqL.of h1, hv⟩, fun x H' y => ?_⟩
    obtain ⟨rfl, y⟩ := y
    have e := y xs (SqL.of h1)
    rw [hv] at e
    cases e
    exact ⟨Le.refl _, hq⟩
theorem ei_rev {tl : TE} {ds : List Dt} (h : EvP F c tl (.d (.lst ds))) : EvI F c (iRevA K tl) (ds.reverse.map Sl.d) := fun c' x H σ w R q =>
  h c' x H σ w _ fun v H1 w1 k1 h1 => by
    obtain ⟨p, xs, e, n, g1, g2⟩ := h1.lst
    subst e
    exact ⟨p, xs, rfl, .inl ⟨SqL.of g1, q _ H1 _ (itok_rev g2.length) (fun e he => by rw [List.mem_singleton] at he; subst he; exact h1) w1 k1⟩⟩
/-- a new pair -/
theorem pair_ok {A : List Addr} {H : Hp} {T : Addr} {x y : V} {d e : Dt} (lv : ∀ a ∈ A, ∃ o, H a = some o) (hT : H T = none) (h1 : Dq (Off A H) x d) (h2 : Dq (Off A H) y e) : Le H (upd H T (.tup [x, y])) ∧ SlOk A (upd H T (.tup [x, y])) (.d (.tup [d, e])) (.ref T) := by
  have nA : T ∉ A := fun h => by
    obtain ⟨o, e⟩ := lv T h
    rw [hT] at e; cases e
  have l := (Kp.le (A := A) (Le.new (o := .tup [x, y]) hT)).off
  exact ⟨Le.new hT, Dq.tup (off_of nA upd_same) (.cons (h1.mono l) (.cons (h2.mono l) .nil))⟩
def enumD (ds : List Dt) : List Sl := (List.range ds.length).zipWith (fun i d => Sl.d (.tup [.int (i : Nat), d])) ds
theorem enumD_at {ds : List Dt} {i : Nat} {s : Sl} (h : (enumD ds)[i]? = some s) : ∃ d, ds[i]? = some d ∧ s = .d (.tup [.int (i : Nat), d]) := by
  unfold enumD at h
  rw [List.getElem?_zipWith] at h
  cases hd : ds[i]? with
  | none => rw [hd] at h; cases e : (List.range ds.length)[i]? <;> simp [e] at h
  | some d =>
    have hl := (List.getElem?_eq_some_iff.mp hd).1
    rw [hd, List.getElem?_range hl] at h
    exact ⟨d, rfl, (Option.some.inj h).symm⟩
theorem itok_enum {p : Addr} {ds : List Dt} : ItOk (Ite K p) (enumD ds) [(.ref p, .lst ds)] := fun A H lv g => by
  have h := g _ (List.mem_singleton.mpr rfl)
  obtain ⟨q, xs, e, n, h1, h2⟩ := SlOk.lst (A := A) (H := H) h
  cases e
  refine ⟨⟨xs, SqL.of h1, by rw [h2.length]; simp [enumD]⟩, fun i s hi => ?_⟩
  obtain ⟨d, hd, rfl⟩ := enumD_at hi
  obtain ⟨v, hv, hq⟩ := h2.get hd
  refine ⟨⟨xs, v, SqL.of h1, hv⟩, fun x H' y => ?_⟩
  obtain ⟨T, u, rfl, hT, rfl, hu⟩ := y
  have e := hu xs (SqL.of h1)
  rw [hv] at e
  cases e
  exact pair_ok lv hT (Dq.int _) hq
theorem ei_enum {tr : TA} {ds : List Dt} (h : EvA F c tr [.d (.lst ds)]) : EvI F c (iEnum K tr) (enumD ds) := fun c' x H σ w R q =>
  h c' x H σ w _ fun vs H1 w1 k1 h1 => by
    cases h1 with
    | cons e r =>
      cases r
      obtain ⟨p, xs, ev, n, g1, g2⟩ := SlOk.lst e
      subst ev
      exact ⟨p, xs, rfl, SqL.of g1, q _ H1 _ itok_enum (fun y he => by rw [List.mem_singleton] at he; subst he; exact e) w1 k1⟩
def zipD (ds es : List Dt) : List Sl := ds.zipWith (fun d e => Sl.d (.tup [d, e])) es
theorem zipD_at {ds es : List Dt} {i : Nat} {s : Sl} (h : (zipD ds es)[i]? = some s) : ∃ d e, ds[i]? = some d ∧ es[i]? = some e ∧ s = .d (.tup [d, e]) := by
  unfold zipD at h
  rw [List.getElem?_zipWith] at h
  cases hd : ds[i]? with
  | none => rw [hd] at h; simp at h
  | some d =>
    cases he : es[i]? with
    | none => rw [hd, he] at h; simp at h
    | some e =>
      rw [hd, he] at h
      exact ⟨d, e, rfl, rfl, (Option.some.inj h).symm⟩
theorem itok_zipT {p p2 : Addr} {ds es : List Dt} : ItOk (ItzT K p p2) (zipD ds es) [(.ref p, .tup ds), (.ref p2, .tup es)] := fun A H lv g => by
  have h := g (.ref p, .tup ds) (by simp)
  have h' := g (.ref p2, .tup es) (by simp)
  obtain ⟨q, xs, e, n, h1, h2⟩ := SlOk.tup (A := A) (H := H) h
  cases e
  obtain ⟨q, ys, e, n', h3, h4⟩ := SlOk.tup (A := A) (H := H) h'
  cases e
  refine ⟨⟨xs, ys, SqT.of h1, SqT.of h3, ?_⟩, fun i s hi => ?_⟩
  · rw [h2.length, h4.length]
    simp only [zipD, List.length_zipWith]
    omega
  · obtain ⟨d, e, hd, he, rfl⟩ := zipD_at hi
    obtain ⟨v, hv, hq⟩ := h2.get hd
    obtain ⟨u, hu, hq'⟩ := h4.get he
    refine ⟨⟨xs, ys, v, u, SqT.of h1, SqT.of h3, hv, hu⟩, fun x H' y => ?_⟩
    obtain ⟨T, a, b, rfl, hT, rfl, ha, hb⟩ := y
    have e1 := ha xs (SqT.of h1)
    have e2 := hb ys (SqT.of h3)
    rw [hv] at e1
    rw [hu] at e2
    cases e1
    cases e2
    exact pair_ok lv hT hq hq'
theorem itok_zipL {p p2 : Addr} {ds es : List Dt} : ItOk (Itz K p p2) (zipD ds es) [(.ref p, .lst ds), (.ref p2, .lst es)] := fun A H lv g => by
  have h := g (.ref p, .lst ds) (by simp)
  have h' := g (.ref p2, .lst es) (by simp)
  obtain ⟨q, xs, e, n, h1, h2⟩ := SlOk.lst (A := A) (H := H) h
  cases e
  obtain ⟨q, ys, e, n', h3, h4⟩ := SlOk.lst (A := A) (H := H) h'
  cases e
  refine ⟨⟨xs, ys, SqL.of h1, SqL.of h3, ?_⟩, fun i s hi => ?_⟩
  · rw [h2.length, h4.length]
    simp only [zipD, List.length_zipWith]
    omega
  · obtain ⟨d, e, hd, he, rfl⟩ := zipD_at hi
    obtain ⟨v, hv, hq⟩ := h2.get hd
    obtain ⟨u, hu, hq'⟩ := h4.get he
    refine ⟨⟨xs, ys, v, u, SqL.of h1, SqL.of h3, hv, hu⟩, fun x H' y => ?_⟩
    obtain ⟨T, a, b, rfl, hT, rfl, ha, hb⟩ := y
    have e1 := ha xs (SqL.of h1)
    have e2 := hb ys (SqL.of h3)
    rw [hv] at e1
    rw [hu] at e2
    cases e1
    cases e2
    exact pair_ok lv hT hq hq'
theorem ei_zipT {tr : TA} {ds es : List Dt} (h : EvA F c tr [.d (.tup ds), .d (.tup es)]) : EvI F c (iZipA K tr) (zipD ds es) := fun c' x H σ w R q =>
  h c' x H σ w _ fun vs H1 w1 k1 h1 => by
    cases h1 with
    | cons e r =>
      cases r with
      | cons e2 r =>
        cases r
        obtain ⟨p, xs, ev, n, g1, g2⟩ := SlOk.tup e
        obtain ⟨p2, ys, ev2, n2, g3, g4⟩ := SlOk.tup e2
        subst ev
        subst ev2
        refine ⟨p, p2, xs, ys, rfl, .inr ⟨SqT.of g1, SqT.of g3, q _ H1 _ itok_zipT (fun y he => ?_) w1 k1⟩⟩
        rcases List.mem_cons.mp he with rfl | he
        · exact e
        · rw [List.mem_singleton] at he; subst he; exact e2
theorem ei_zipL {tr : TA} {ds es : List Dt} (h : EvA F c tr [.d (.lst ds), .d (.lst es)]) : EvI F c (iZipA K tr) (zipD ds es) := fun c' x H σ w R q =>
  h c' x H σ w _ fun vs H1 w1 k1 h1 => by
    cases h1 with
    | cons e r =>
      cases r with
      | cons e2 r =>
        cases r
        obtain ⟨p, xs, ev, n, g1, g2⟩ := SlOk.lst e
        obtain ⟨p2, ys, ev2, n2, g3, g4⟩ := SlOk.lst e2
        subst ev
        subst ev2
        refine ⟨p, p2, xs, ys, rfl, .inl ⟨SqL.of g1, SqL.of g3, q _ H1 _ itok_zipL (fun y he => ?_) w1 k1⟩⟩
        rcases List.mem_cons.mp he with rfl | he
        · exact e
        · rw [List.mem_singleton] at he; subst he; exact e2

/-! ### targets -/
/-- the item s put into the target: the slots S become S' -/
def EvG (F : Fx) (g : TG) (s : Sl) (S S' : List Sl) : Prop := ∀ c, c.S = S → ∀ H σ v, Wd F c H σ → SlOk c.A H s v → ∀ Q : St → Hp → Prop, (∀ σ', Wd F ⟨c.A, c.G, c.M, S'⟩ H σ' → (∀ js : List Nat, True) → Q σ' H) → g v σ H Q
theorem eg_name {i : Nat} {S : List Sl} : EvG F (gName i) s S (S.set i s) := fun c e H σ v w h Q q => by
  subst e
  exact q _ (w.set h i) fun _ => trivial
theorem eg_pair {i j : Nat} {S : List Sl} {d e : Dt} : EvG F (gTup K 2 (gCons (gName i) (gCons (gName j) gNil))) (.d (.tup [d, e])) S ((S.set i (.d d)).set j (.d e)) := fun c ec H σ v w h Q q => by
  subst ec
  obtain ⟨p, xs, rfl, n, h1, h2⟩ := h.tup
  cases h2 with
  | cons a r =>
    cases r with
    | cons b r =>
      cases r
      exact ⟨p, _, rfl, SqT.of h1, rfl, _, _, rfl, _, _, rfl, rfl, q _ ((w.set (s := .d d) a i).set (s := .d e) b j) fun _ => trivial⟩

/-! ### for -/
variable {D : Ends} {tt : TT} {t u : TS} {g : TG}
theorem s_for {wi : TI} {its : List Sl} (w : Wd F c H σ) (hi : EvI F c wi its) (fam : Nat → Ct → Prop) (h0 : fam 0 c)
    (hs : ∀ i s c1, its[i]? = some s → fam i c1 → ∃ S', EvG F g s c1.S S' ∧ ∀ G H1 σ1, Wd F ⟨c1.A, G, c1.M, S'⟩ H1 σ1 →
      t { D with nx := fun σ' H' => ∃ c2, fam (i + 1) c2 ∧ Wd F ⟨c2.A, G, c2.M, c2.S⟩ H' σ', ct := fun σ' H' => ∃ c2, fam (i + 1) c2 ∧ Wd F ⟨c2.A, G, c2.M, c2.S⟩ H' σ', bk := D.nx } σ1 H1)
    (hd : ∀ c1 H1 σ1, fam its.length c1 → Wd F ⟨c1.A, c.G, c1.M, c1.S⟩ H1 σ1 → D.nx σ1 H1) : tFor wi g t D σ H :=
  hi c (Xt.refl c) H σ w _ fun J H1 G ok hG w1 k1 => by
    -- what stands through the loop
    have wG : Wd F ⟨c.A, G ++ c.G, c.M, c.S⟩ H1 σ := ⟨w1.fr, w1.av, w1.wA, w1.nA, w1.mA, w1.mO, w1.mW, w1.nd, w1.hl, fun e he => (List.mem_append.mp he).elim (fun h => hG e h) (fun h => w1.gs e h), w1.sl⟩
    refine ⟨fun i m σ' H' => m = its.length - i ∧ i ≤ its.length ∧ ∃ c1, fam i c1 ∧ Wd F ⟨c1.A, G ++ c.G, c1.M, c1.S⟩ H' σ', ⟨its.length, by simp, Nat.zero_le _, c, h0, wG⟩, ?_⟩
    rintro i m σ' H' ⟨rfl, hil, c1, hf, w2⟩
    obtain ⟨st, go⟩ := ok c1.A H' w2.av (fun e he => w2.gs e (List.mem_append_left _ he))
    by_cases hlt : i < its.length
    · refine .inr ⟨(go i its[i] (List.getElem?_eq_getElem hlt)).1, fun σ' H' => ∃ c2, fam (i + 1) c2 ∧ Wd F ⟨c2.A, G ++ c.G, c2.M, c2.S⟩ H' σ', fun σ' H' hN => ⟨its.length - (i + 1), by omega, rfl, hlt, hN⟩, fun x H'' y => ?_⟩
      obtain ⟨l, hx⟩ := (go i its[i] (List.getElem?_eq_getElem hlt)).2 x H'' y
      obtain ⟨S', hg, hb⟩ := hs i its[i] c1 (List.getElem?_eq_getElem hlt) hf
      exact hg ⟨c1.A, G ++ c.G, c1.M, c1.S⟩ rfl H'' σ' x (w2.le l) hx _ fun σ2 w3 _ => hb (G ++ c.G) H'' σ2 w3
    · have e : i = its.length := by omega
      subst e
      exact .inl ⟨st, hd c1 H' σ' hf ⟨w2.fr, w2.av, w2.wA, w2.nA, w2.mA, w2.mO, w2.mW, w2.nd, w2.hl, fun e he => w2.gs e (List.mem_append_right _ he), w2.sl⟩⟩

/-! ### while -/
theorem s_while {tt : TT} (w : Wd F c H σ) (fam : Nat → Ct → Prop) {n0 : Nat} (h0 : fam n0 c)
    (hs : ∀ n c1, fam n c1 → ∃ b, EvT F ⟨c1.A, c.G, c1.M, c1.S⟩ tt b ∧ (b = true → ∀ H1 σ1, Wd F ⟨c1.A, c.G, c1.M, c1.S⟩ H1 σ1 →
      t { D with nx := fun σ' H' => ∃ m c2, m < n ∧ fam m c2 ∧ Wd F ⟨c2.A, c.G, c2.M, c2.S⟩ H' σ', ct := fun σ' H' => ∃ m c2, m < n ∧ fam m c2 ∧ Wd F ⟨c2.A, c.G, c2.M, c2.S⟩ H' σ', bk := D.nx } σ1 H1) ∧
      (b = false → ∀ H1 σ1, Wd F ⟨c1.A, c.G, c1.M, c1.S⟩ H1 σ1 → D.nx σ1 H1)) : tWhile tt t D σ H := by
  refine ⟨fun m σ' H' => ∃ c1, fam m c1 ∧ Wd F ⟨c1.A, c.G, c1.M, c1.S⟩ H' σ', ⟨n0, c, h0, w⟩, ?_⟩
  rintro m σ' H' ⟨c1, hf, w1⟩
  obtain ⟨b, hb, h1, h2⟩ := hs m c1 hf
  refine hb _ (Xt.refl _) H' σ' w1 _ fun H2 w2 k2 => ?_
  cases b with
  | true => exact ⟨fun σ' H' => ∃ m', m' < m ∧ ∃ c1, fam m' c1 ∧ Wd F ⟨c1.A, c.G, c1.M, c1.S⟩ H' σ', fun σ3 H3 hN => hN, by
      have q := h1 rfl H2 σ' w2
      have e : (fun (σ' : St) (H' : Hp) => ∃ m' c2, m' < m ∧ fam m' c2 ∧ Wd F ⟨c2.A, c.G, c2.M, c2.S⟩ H' σ') = (fun (σ' : St) (H' : Hp) => ∃ m', m' < m ∧ ∃ c1, fam m' c1 ∧ Wd F ⟨c1.A, c.G, c1.M, c1.S⟩ H' σ') := by
        funext σ' H'
        exact propext ⟨fun ⟨a, b, c, d⟩ => ⟨a, c, b, d⟩, fun ⟨a, c, b, d⟩ => ⟨a, b, c, d⟩⟩
      rw [e] at q
      exact q⟩
  | false => exact h2 rfl H2 σ' w2

/-! ### comprehensions -/
/-- what may come of the items: each dropped, or giving one thing -/
inductive LcR {α : Type} (P : α → Option Dt → Prop) : List α → List Dt → Prop
  | nil : LcR P [] []
  | skip {s ss ds} : P s none → LcR P ss ds → LcR P (s :: ss) ds
  | take {s d ss ds} : P s (some d) → LcR P ss ds → LcR P (s :: ss) (d :: ds)
theorem LcR.snoc {α : Type} {P : α → Option Dt → Prop} {s : α} {o : Option Dt} : ∀ {ss : List α} {ds : List Dt}, LcR P ss ds → P s o → LcR P (ss ++ [s]) (ds ++ o.toList)
  | _, _, .nil, h => by
    cases o with
    | none => exact .skip h .nil
    | some d => exact .take h .nil
  | _, _, .skip p r, h => .skip p (LcR.snoc r h)
  | _, _, .take p r, h => .take p (LcR.snoc r h)
theorem LcR.len {α : Type} {P : α → Option Dt → Prop} : ∀ {ss : List α} {ds : List Dt}, LcR P ss ds → ds.length ≤ ss.length
  | _, _, .nil => Nat.le_refl _
  | _, _, .skip _ r => Nat.le_succ_of_le (LcR.len r)
  | _, _, .take _ r => Nat.succ_le_succ (LcR.len r)
theorem LcR.det {α : Type} {p : α → Bool} {f : α → Dt} : ∀ {ss : List α} {ds : List Dt}, LcR (fun s o => o = if p s then some (f s) else none) ss ds → ds = (ss.filter p).map f
  | _, _, .nil => rfl
  | s :: _, _, .skip h r => by
    cases e : p s with
    | true => rw [e] at h; cases h
    | false =>
      rw [List.filter_cons_of_neg (by rw [e]; exact Bool.false_ne_true)]
      exact LcR.det r
  | s :: _, _, .take h r => by
    cases e : p s with
    | false => rw [e] at h; cases h
    | true =>
      rw [e] at h
      cases h
      rw [List.filter_cons_of_pos e, List.map_cons, ← LcR.det r]
def wipeS (S : List Sl) : List Nat → List Sl
  | [] => S
  | v :: vs => (wipeS S vs).set v .u
theorem wipe_at (σ : St) : ∀ (vs : List Nat) (i : Nat), (wipe σ vs)[i]? = if i ∈ vs then (σ[i]?).map fun _ => none else σ[i]?
  | [], i => by simp [wipe]
  | v :: vs, i => by
    unfold wipe
    rw [List.getElem?_set]
    have ih := wipe_at σ vs i
    by_cases h : v = i
    · subst h
      simp only [if_true, List.mem_cons, true_or, wipe_length]
      cases e : σ[v]? with
      | none =>
        have := List.getElem?_eq_none_iff.mp e
        rw [if_neg (by omega)] <;> rfl
      | some x =>
        have := (List.getElem?_eq_some_iff.mp e).1
        rw [if_pos this] <;> rfl
    · rw [if_neg h, ih]
      have e : (i ∈ v :: vs) = (i ∈ vs) := by
        rw [List.mem_cons]
        exact propext ⟨fun q => q.elim (fun z => absurd z.symm h) id, .inr⟩
      simp only [e]
theorem wipe_set {σ : St} {vs : List Nat} {j : Nat} {x : Option V} (h : j ∈ vs) : wipe ((wipe σ vs).set j x) vs = wipe σ vs := by
  apply List.ext_getElem?
  intro i
  rw [wipe_at, wipe_at]
  by_cases hi : i ∈ vs
  · rw [if_pos hi, if_pos hi, List.getElem?_set]
    by_cases hj : j = i
    · subst hj
      rw [if_pos rfl, wipe_length]
      cases e : σ[j]? with
      | none =>
        have := List.getElem?_eq_none_iff.mp e
        rw [if_neg (by omega)] <;> rfl
      | some y =>
        have := (List.getElem?_eq_some_iff.mp e).1
        rw [if_pos this] <;> rfl
    · rw [if_neg hj, wipe_at, if_pos hi]
      cases σ[i]? <;> rfl
  · rw [if_neg hi, if_neg hi, List.getElem?_set_ne (fun z => hi (by rw [← z]; exact h)), wipe_at, if_neg hi]
theorem Wd.wiped (w : Wd F c H σ) : ∀ vs : List Nat, Wd F ⟨c.A, c.G, c.M, wipeS c.S vs⟩ H (wipe σ vs)
  | [] => w
  | v :: vs => by
    have ih := Wd.wiped w vs
    refine ⟨ih.fr, ih.av, ih.wA, ih.nA, ih.mA, ih.mO, ih.mW, ih.nd, ih.hl, ih.gs, ?_⟩
    exact Paired.setL trivial v ih.sl
/-- a target within a comprehension: it stores into the comprehension's own slots alone -/
def EvGc (F : Fx) (g : TG) (vs : List Nat) (s : Sl) (S S' : List Sl) : Prop := ∀ c, c.S = wipeS S vs → ∀ H σ v, Wd F c H (wipe σ vs) → SlOk c.A H s v → ∀ Q : St → Hp → Prop, (∀ σ', wipe σ' vs = wipe σ vs → Wd F ⟨c.A, c.G, c.M, S'⟩ H σ' → Q σ' H) → g v (wipe σ vs) H Q
theorem egc_name {i : Nat} {vs : List Nat} {S : List Sl} (hi : i ∈ vs) : EvGc F (gName i) vs s S ((wipeS S vs).set i s) := fun c e H σ v w h Q q => by
  have w2 := w.set h i
  rw [e] at w2
  exact q _ (wipe_set hi) w2
theorem wipe_set2 {σ : St} {vs : List Nat} {i j : Nat} {x y : Option V} (hi : i ∈ vs) (hj : j ∈ vs) : wipe (((wipe σ vs).set i x).set j y) vs = wipe σ vs := by
  have e : wipe (((wipe σ vs).set i x).set j y) vs = wipe ((wipe σ vs).set i x) vs := by
    apply List.ext_getElem?
    intro k
    rw [wipe_at, wipe_at]
    by_cases hk : k ∈ vs
    · rw [if_pos hk, if_pos hk, List.getElem?_set]
      by_cases hjk : j = k
      · subst hjk
        rw [if_pos rfl]
        cases e : ((wipe σ vs).set i x)[j]? with
        | none =>
          have := List.getElem?_eq_none_iff.mp e
          rw [if_neg (by omega)] <;> rfl
        | some y =>
          have := (List.getElem?_eq_some_iff.mp e).1
          rw [if_pos this] <;> rfl
      · rw [if_neg hjk]
    · rw [if_neg hk, if_neg hk, List.getElem?_set_ne (fun z => hk (by rw [← z]; exact hj))]
  rw [e, wipe_set hi]
theorem egc_pair {i j : Nat} {vs : List Nat} {S : List Sl} {d e : Dt} (hi : i ∈ vs) (hj : j ∈ vs) : EvGc F (gTup K 2 (gCons (gName i) (gCons (gName j) gNil))) vs (.d (.tup [d, e])) S (((wipeS S vs).set i (.d d)).set j (.d e)) := fun c ec H σ v w h Q q => by
  obtain ⟨p, xs, rfl, n, h1, h2⟩ := h.tup
  cases h2 with
  | cons a r =>
    cases r with
    | cons b r =>
      cases r
      have w2 := (w.set (s := .d d) a i).set (s := .d e) b j
      simp only [ec] at w2
      exact ⟨p, _, rfl, SqT.of h1, rfl, _, _, rfl, _, _, rfl, rfl, q _ (wipe_set2 hi hj) w2⟩
theorem x_lc {α : Type} {wi : TI} {vs : List Nat} {its : List α} {enc : α → Sl} {P : α → Option Dt → Prop} {S' : α → List Sl} {keep : α → Bool} (hi : EvI F c wi (its.map enc)) (hz : its.length ≤ 100000)
    (hg : ∀ s ∈ its, EvGc F g vs (enc s) c.S (S' s)) (ht : ∀ s ∈ its, EvT F ⟨c.A, c.G, c.M, S' s⟩ tt (keep s)) (hn : ∀ s ∈ its, keep s = false → P s none)
    (he : ∀ s ∈ its, keep s = true → EvR F ⟨c.A, c.G, c.M, S' s⟩ te (fun r => ∃ d, r = .d d ∧ P s (some d))) :
    EvR F c (tLc wi g tt te vs) (fun r => ∃ ds, r = .d (.lst ds) ∧ LcR P its ds) := fun c' x H σ w Q q =>
  hi c' x H σ w _ fun J H1 G ok hG w1 k1 => fun L hL => by
    have nL := w1.free hL
    -- the world with the new list as a cell
    have sub : ∀ {A H σ}, Wd F ⟨A, G ++ c'.G, c'.M, c'.S⟩ H σ → Wd F ⟨A, G ++ c'.G, c'.M, c'.S⟩ H σ := fun h => h
    have wG : Wd F ⟨c'.A, G ++ c'.G, c'.M, c'.S⟩ H1 σ := ⟨w1.fr, w1.av, w1.wA, w1.nA, w1.mA, w1.mO, w1.mW, w1.nd, w1.hl, fun e he => (List.mem_append.mp he).elim (fun h => hG e h) (fun h => w1.gs e h), w1.sl⟩
    obtain ⟨wL, kL⟩ := wG.newList (xs := []) (ss := []) hL .nil
    refine ⟨fun i m H' => m = its.length - i ∧ i ≤ its.length ∧ ∃ acc, LcR P (its.take i) acc ∧ Kp c'.A (L :: c'.A) H1 H' ∧ Wd F ⟨L :: c'.A, G ++ c'.G, c'.M ++ [(L, .lst (acc.map Sl.d))], c'.S⟩ H' σ, ⟨its.length, by simp, Nat.zero_le _, [], .nil, kL, wL⟩, ?_⟩
    rintro i m H' ⟨rfl, hil, acc, hacc, kk, w2⟩
    obtain ⟨st, go'⟩ := ok (L :: c'.A) H' w2.av (fun e he => w2.gs e (List.mem_append_left _ he))
    rw [List.length_map] at st
    have go : ∀ (i : Nat) (s : α), its[i]? = some s → J.go i H' ∧ ∀ x H2, J.yld i H' x H2 → Le H' H2 ∧ SlOk (L :: c'.A) H2 (enc s) x := fun i s h => go' i (enc s) (by rw [List.getElem?_map, h]; rfl)
    by_cases hlt : i < its.length
    · have hit := List.getElem?_eq_getElem hlt
      have hmem : its[i] ∈ its := List.getElem_mem hlt
      refine .inr ⟨(go i its[i] hit).1, fun H' => ∃ acc, LcR P (its.take (i + 1)) acc ∧ Kp c'.A (L :: c'.A) H1 H' ∧ Wd F ⟨L :: c'.A, G ++ c'.G, c'.M ++ [(L, .lst (acc.map Sl.d))], c'.S⟩ H' σ, fun H' hN => ⟨its.length - (i + 1), by omega, rfl, hlt, hN⟩, fun y H2 hy => ?_⟩
      obtain ⟨l, hx⟩ := (go i its[i] hit).2 y H2 hy
      have w3 := w2.le l
      have etk : its.take (i + 1) = its.take i ++ [its[i]] := by rw [List.take_add_one, hit]; rfl
      have k3 : Kp c'.A (L :: c'.A) H1 H2 := fun b o nb e => ⟨(kk b o nb e).1, l _ _ (kk b o nb e).2⟩
      refine hg _ hmem ⟨L :: c'.A, G ++ c'.G, c'.M ++ [(L, .lst (acc.map Sl.d))], wipeS c'.S vs⟩ (by show wipeS c'.S vs = wipeS c.S vs; rw [x.S]) H2 σ y (w3.wiped vs) hx _ fun σ2 hw2 w4 => ⟨hw2, ?_⟩
      have xx : Xt ⟨c.A, c.G, c.M, S' its[i]⟩ ⟨L :: c'.A, G ++ c'.G, c'.M ++ [(L, .lst (acc.map Sl.d))], S' its[i]⟩ := by
        obtain ⟨m, hm⟩ := x.M
        exact ⟨rfl, ⟨m ++ [(L, .lst (acc.map Sl.d))], by show c'.M ++ [(L, .lst (acc.map Sl.d))] = c.M ++ (m ++ [(L, .lst (acc.map Sl.d))]); rw [hm, List.append_assoc]⟩, fun a ha => List.mem_cons_of_mem _ (x.A a ha)⟩
      -- the def's own world, whatever the block does
      have back : ∀ {H3 : Hp}, Wd F ⟨L :: c'.A, G ++ c'.G, c'.M ++ [(L, .lst (acc.map Sl.d))], S' its[i]⟩ H3 σ2 → Kp (L :: c'.A) (L :: c'.A) H2 H3 → Wd F ⟨L :: c'.A, G ++ c'.G, c'.M ++ [(L, .lst (acc.map Sl.d))], c'.S⟩ H3 σ := fun {H3} w5 k5 =>
        ⟨w5.fr, w5.av, w5.wA, w5.nA, w5.mA, w5.mO, w5.mW, w5.nd, w5.hl, w5.gs, Paired.mapP w3.sl fun _ _ q => SlotOk.mono k5 q⟩
      have kstep : ∀ {H3 : Hp}, Kp (L :: c'.A) (L :: c'.A) H2 H3 → Kp c'.A (L :: c'.A) H1 H3 := fun {H3} k5 b o nb e => ⟨(k3 b o nb e).1, (k5 b o (k3 b o nb e).1 (k3 b o nb e).2).2⟩
      refine ht _ hmem _ xx H2 σ2 w4 _ fun H3 w5 k5 => ?_
      cases hk : keep its[i] with
      | false =>
        rw [if_neg Bool.false_ne_true]
        refine ⟨acc, ?_, kstep k5, back w5 k5⟩
        rw [etk]
        have r := hacc.snoc (hn _ hmem hk)
        simpa using r
      | true =>
        rw [if_pos rfl]
        refine he _ hmem hk _ xx H3 σ2 w5 _ fun r hrr v H4 w6 k6 hv => ?_
        obtain ⟨d, rfl, hd⟩ := hrr
        have hl : (c'.M ++ [(L, Cell.lst (acc.map Sl.d))])[c'.M.length]? = some (L, .lst (acc.map Sl.d)) := by rw [List.getElem?_append_right (Nat.le_refl _), Nat.sub_self]; rfl
        have w7 := back w6 (k5.trans k6)
        obtain ⟨_, xs, e1, e2⟩ := w7.cell hl
        refine ⟨xs, e1, ?_, ?_⟩
        · have e3 : (acc.map Sl.d).length = xs.length := e2.length
          rw [List.length_map] at e3
          have e4 := hacc.len
          rw [List.length_take] at e4
          rw [← e3]
          exact Nat.lt_of_lt_of_le (show acc.length < 100001 by omega) (by decide)
        · obtain ⟨w8, k8⟩ := w7.writeL (ss' := (acc ++ [d]).map Sl.d) hl (by rw [List.map_append]; exact Paired.snoc1 e2 hv)
          refine ⟨acc ++ [d], ?_, fun b o nb e => ?_, ?_⟩
          · rw [etk]
            exact hacc.snoc hd
          · obtain ⟨z1, z2⟩ := kstep (k5.trans k6) b o nb e
            exact ⟨z1, (k8 b o z1 z2).2⟩
          · have e : (c'.M ++ [(L, Cell.lst (acc.map Sl.d))]).set c'.M.length (L, .lst ((acc ++ [d]).map Sl.d)) = c'.M ++ [(L, .lst ((acc ++ [d]).map Sl.d))] := by
              rw [List.set_append_right _ _ (Nat.le_refl _), Nat.sub_self]
              rfl
            rw [e] at w8
            exact w8
    · have e : i = its.length := by omega
      subst e
      refine .inl ⟨st, ?_⟩
      rw [List.take_length] at hacc
      have hl : (c'.M ++ [(L, Cell.lst (acc.map Sl.d))])[c'.M.length]? = some (L, .lst (acc.map Sl.d)) := by rw [List.getElem?_append_right (Nat.le_refl _), Nat.sub_self]; rfl
      obtain ⟨_, xs, e1, e2⟩ := w2.cell hl
      have osub : Le (Off (L :: c'.A) H') (Off c'.A H') := off_sub fun a ha => List.mem_cons_of_mem _ ha
      have w9 : Wd F c' H' σ := by
        refine ⟨w2.fr, fun a ha => w2.av a (List.mem_cons_of_mem _ ha), w1.wA, w1.nA, w1.mA, fun e he => ?_, w1.mW, w1.nd, w1.hl, fun e he => Dq.mono osub (w2.gs e (List.mem_append_right _ he)), Paired.mapP w2.sl fun a b q => ?_⟩
        · have z := w2.mO e (List.mem_append_left _ he)
          have sl : ∀ {s v}, SlOk (L :: c'.A) H' s v → SlOk c'.A H' s v := fun {s v} h => by
            cases s with
            | d _ => exact Dq.mono osub h
            | v _ => exact h
            | u => trivial
          have sa : ∀ {ss xs}, SlAll (L :: c'.A) H' ss xs → SlAll c'.A H' ss xs := fun h => Paired.mapP h fun _ _ q => sl q
          obtain ⟨p2, cl2⟩ := e
          cases cl2 with
          | lst ss => obtain ⟨xs, h1, h2⟩ := z; exact ⟨xs, h1, sa h2⟩
          | ins C dx ns ss => obtain ⟨xs, h1, h3, h2⟩ := z; exact ⟨xs, h1, h3, sa h2⟩
          | dk ks ss => obtain ⟨xs, h1, h3, h2⟩ := z; exact ⟨xs, h1, h3, sa h2⟩
          | heap lp => exact z
          | held _ => trivial
        · cases a with
          | u => trivial
          | d y =>
            cases b with
            | none => exact q
            | some v => exact Dq.mono osub q
          | v y =>
            cases b with
            | none => exact q
            | some v => exact q
      refine q _ ⟨acc, rfl, hacc⟩ (.ref L) H' w9 (fun b o nb e => ?_) ?_
      · have z := k1 b o nb e
        exact ⟨nb, (kk b o z.1 z.2).2⟩
      · exact Dq.lst (off_of nL e1) (SlAll.dqL (Paired.mapP e2 fun s v h => by
          cases s with
          | d _ => exact Dq.mono osub h
          | v _ => exact h
          | u => trivial))
/-- a comprehension all of whose parts are told -/
theorem ev_lc {α : Type} {wi : TI} {vs : List Nat} {xs : List α} {enc : α → Sl} {S' : α → List Sl} {p : α → Bool} {f : α → Dt} (hi : EvI F c wi (xs.map enc)) (hz : xs.length ≤ 100000)
    (hg : ∀ s ∈ xs, EvGc F g vs (enc s) c.S (S' s)) (ht : ∀ s ∈ xs, EvT F ⟨c.A, c.G, c.M, S' s⟩ tt (p s)) (he : ∀ s ∈ xs, p s = true → EvP F ⟨c.A, c.G, c.M, S' s⟩ te (.d (f s))) :
    EvP F c (tLc wi g tt te vs) (.d (.lst ((xs.filter p).map f))) := fun c' x H σ w Q q => by
  refine x_lc (P := fun s o => o = if p s then some (f s) else none) hi hz hg ht (fun s _ h => by rw [h] <;> rfl) (fun s hs h => ?_) c' x H σ w Q fun r hr v H' w' k' h' => ?_
  · intro c2 x2 H2 σ2 w2 Q2 q2
    exact he s hs h c2 x2 H2 σ2 w2 Q2 fun v H3 w3 k3 h3 => q2 _ ⟨f s, rfl, by rw [h] <;> rfl⟩ v H3 w3 k3 h3
  · obtain ⟨ds, rfl, hds⟩ := hr
    have e := hds.det
    subst e
    exact q v H' w' k' h'
theorem et_yes : EvT F c tYes true := fun c' x H σ w Q q => q H w (Kp.refl _ _)
/-- .. without a test -/
theorem ev_lcm {α : Type} {wi : TI} {vs : List Nat} {xs : List α} {enc : α → Sl} {S' : α → List Sl} {f : α → Dt} (hi : EvI F c wi (xs.map enc)) (hz : xs.length ≤ 100000)
    (hg : ∀ s ∈ xs, EvGc F g vs (enc s) c.S (S' s)) (he : ∀ s ∈ xs, EvP F ⟨c.A, c.G, c.M, S' s⟩ te (.d (f s))) :
    EvP F c (tLc wi g tYes te vs) (.d (.lst (xs.map f))) := by
  have h := ev_lc (p := fun _ => true) hi hz hg (fun s _ => et_yes) (fun s hs _ => he s hs)
  rw [List.filter_eq_self.mpr (fun _ _ => rfl)] at h
  exact h
end
end DL

set_option Elab.async false
set_option linter.all false
set_option maxRecDepth 100000
set_option maxHeartbeats 1000000
/-! DL5: built-ins, methods, texts by name. -/
namespace DL
open PySem PySem.Spec PyProof.Rows L2

/-! ### the wishes by name -/
def qLen (K : PySem.W.Frag) : List V → Hp → VK → Prop := fun xs H Q => ∃ p ys, xs = [.ref p] ∧ (SqL K H p ys ∨ SqT K H p ys) ∧ Q (.int ys.length) H
def qLenT : List V → Hp → VK → Prop := fun xs H Q => ∃ z, xs = [.str z] ∧ z.length ≤ sizeLine ∧ Q (.int z.length) H
def qAbs : List V → Hp → VK → Prop := fun xs H Q => ∃ i, xs = [.int i] ∧ Q (.int (if i < 0 then -i else i)) H
def qInt1 : List V → Hp → VK → Prop := fun xs H Q => (∃ i, xs = [.int i] ∧ Q (.int i) H) ∨ ∃ k, xs = [.bl k] ∧ Q (.int (if k then 1 else 0)) H
def qIntT : List V → Hp → VK → Prop := fun xs H Q => ∃ a n, xs = [.str a] ∧ PySem.intText? a = some n ∧ a.length ≤ 640 ∧ Q (.int n) H
def qStrI : List V → Hp → VK → Prop := fun xs H Q => ∃ i, xs = [.int i] ∧ i.natAbs.log2 < 1920 ∧ Q (.str (toString i)) H
def qList (K : PySem.W.Frag) : List V → Hp → VK → Prop := fun xs H Q => ∃ p ys, xs = [.ref p] ∧ (SqL K H p ys ∨ SqT K H p ys) ∧ ∀ l, H l = none → Q (.ref l) (upd H l (.lst ys))
def qTup (K : PySem.W.Frag) : List V → Hp → VK → Prop := fun xs H Q => ∃ p ys, xs = [.ref p] ∧ ((SqL K H p ys ∧ ∀ l, H l = none → Q (.ref l) (upd H l (.tup ys))) ∨ (SqT K H p ys ∧ Q (.ref p) H))
def qSplit : V → List V → Hp → VK → Prop := fun x xs H Q => ∃ a b, x = .str a ∧ xs = [.str b] ∧ (b.length == 0) = false ∧ a.length + 2 ≤ sizeLine ∧ rNewStrs (Txt.split a b) H Q
def qJoin (K : PySem.W.Frag) : V → List V → Hp → VK → Prop := fun x xs H Q => ∃ a p, ∃ ys : List Str, x = .str a ∧ xs = [.ref p] ∧ (SqL K H p (ys.map V.str) ∨ SqT K H p (ys.map V.str)) ∧
  (ys.map (·.length)).sum + ys.length * a.length ≤ 16777216 ∧ Q (.str (Txt.join a ys)) H
def qAddS : R2 := fun x y H Q => ∃ i j, x = .str i ∧ y = .str j ∧ i.length + j.length ≤ sizeLine ∧ Q (.str (i ++ j)) H
def qSign : R2 := fun x y H Q => ∃ (c : Nat) (z : Str), x = .str ⟨#[c]⟩ ∧ y = .str z ∧ Q (.bl (decide (c ∈ z.cps.toList))) H
def qEqI : R2 := fun x y H Q => ∃ i j, x = .int i ∧ y = .int j ∧ Q (.bl (decide (i = j))) H
def qNeI : R2 := fun x y H Q => ∃ i j, x = .int i ∧ y = .int j ∧ Q (.bl (!decide (i = j))) H
def qEqS : R2 := fun x y H Q => ∃ i j, x = .str i ∧ y = .str j ∧ Q (.bl (decide (i = j))) H
def qNeS : R2 := fun x y H Q => ∃ i j, x = .str i ∧ y = .str j ∧ Q (.bl (!decide (i = j))) H
section
variable {X : Cx} {o e : Expr} {to te : TE}
theorem do_eqI : OpR X (compareOp .Eq) qEqI := fun pins s σ H x y v u Q I rx ry h => by
  obtain ⟨i, j, rfl, rfl, q⟩ := h
  refine op_eq pins s σ H _ _ v u Q I rx ry ⟨rfl, ?_⟩
  rw [show decide (V.int i = V.int j) = decide (i = j) by simp]
  exact q
theorem do_neI : OpR X (compareOp .NotEq) qNeI := fun pins s σ H x y v u Q I rx ry h => by
  obtain ⟨i, j, rfl, rfl, q⟩ := h
  refine op_ne pins s σ H _ _ v u Q I rx ry ⟨rfl, ?_⟩
  rw [show decide (V.int i = V.int j) = decide (i = j) by simp]
  exact q
theorem do_eqS : OpR X (compareOp .Eq) qEqS := fun pins s σ H x y v u Q I rx ry h => by
  obtain ⟨i, j, rfl, rfl, q⟩ := h
  refine op_eq pins s σ H _ _ v u Q I rx ry ⟨rfl, ?_⟩
  rw [show decide (V.str i = V.str j) = decide (i = j) by simp]
  exact q
theorem do_neS : OpR X (compareOp .NotEq) qNeS := fun pins s σ H x y v u Q I rx ry h => by
  obtain ⟨i, j, rfl, rfl, q⟩ := h
  refine op_ne pins s σ H _ _ v u Q I rx ry ⟨rfl, ?_⟩
  rw [show decide (V.str i = V.str j) = decide (i = j) by simp]
  exact q
theorem dc_len : CallR X (.builtin "len") (qLen X.K) := call_len_seq
theorem dc_lenT : CallR X (.builtin "len") qLenT := call_len_str
theorem dc_abs : CallR X (.builtin "abs") qAbs := call_abs
theorem dc_int1 : CallR X (.type "int") qInt1 := call_int1
theorem dc_intT : CallR X (.type "int") qIntT := call_int_str
theorem dc_strI : CallR X (.type "str") qStrI := call_str_int
theorem dc_list : CallR X (.type "list") (qList X.K) := call_list_of
theorem dc_tup : CallR X (.type "tuple") (qTup X.K) := call_tuple_of
theorem dm_split {apos pos : Pos} (ho : PE X o to) (he : PE X e te) (hs : starEach [e] X.env = [(false, eval e X.env)] := by rfl) (hbase : attributeBase o "split" X.env (eval o X.env) = eval o X.env := by rfl) (hline : (apos.endLine == pos.line) = true := by rfl) :
    PE X (.Call (.Attribute o "split" apos) [e] [] pos) (tM1 qSplit to te) := pe_split ho he hs hbase hline
theorem dm_join {apos pos : Pos} (ho : PE X o to) (he : PE X e te) (hs : starEach [e] X.env = [(false, eval e X.env)] := by rfl) (hbase : attributeBase o "join" X.env (eval o X.env) = eval o X.env := by rfl) (hline : (apos.endLine == pos.line) = true := by rfl) :
    PE X (.Call (.Attribute o "join" apos) [e] [] pos) (tM1 (qJoin X.K) to te) := pe_join ho he hs hbase hline
theorem do_addS : OpR X (binaryOp .Add) qAddS := op_add_str
theorem do_sign : OpR X (compareOp .In) qSign := op_in_sign
def tF (ts : List TE) : TE := fun σ H Q => tJs ts Str.empty σ H fun out H1 => Q (.str out) H1
theorem pe_f {v1 v2 : Expr} {rest : List Expr} {ts : List TE} {pos : Pos} (h : PJ X (v1 :: v2 :: rest) ts) : PE X (.JoinedStr (v1 :: v2 :: rest) pos) (tF ts) := pe_joined h
end

section
variable {F : Fx} {c c' : Ct} {H H' : Hp} {σ : St} {K : PySem.W.Frag} {te ta tb to : TE} {a b s : Sl} {tr : TA}
theorem sz5 {n : Nat} (h : n ≤ 100000) : n ≤ sizeLine := Nat.le_trans h (by decide)
theorem rc_len {ds : List Dt} : RcP F c (qLen K) [.d (.lst ds)] (.d (.int (ds.length : Nat))) := fun c' x H σ vs w hv Q q => by
  cases hv with
  | cons e r =>
    cases r
    obtain ⟨p, xs, rfl, n, h1, h2⟩ := SlOk.lst e
    exact ⟨p, xs, rfl, .inl (SqL.of h1), by rw [h2.length]; exact q _ H w (Kp.refl _ _) (Dq.int _)⟩
theorem ev_len {ds : List Dt} (h : EvA F c tr [.d (.lst ds)]) : EvP F c (tCB (qLen K) tr) (.d (.int (ds.length : Nat))) := ev_cb h rc_len
theorem rc_lenT {ds : List Dt} : RcP F c (qLen K) [.d (.tup ds)] (.d (.int (ds.length : Nat))) := fun c' x H σ vs w hv Q q => by
  cases hv with
  | cons e r =>
    cases r
    obtain ⟨p, xs, rfl, n, h1, h2⟩ := SlOk.tup e
    exact ⟨p, xs, rfl, .inr (SqT.of h1), by rw [h2.length]; exact q _ H w (Kp.refl _ _) (Dq.int _)⟩
theorem ev_lenT {ds : List Dt} (h : EvA F c tr [.d (.tup ds)]) : EvP F c (tCB (qLen K) tr) (.d (.int (ds.length : Nat))) := ev_cb h rc_lenT
/-- len of a changing list -/
theorem rc_lenC {k : Nat} {p : Addr} {ss : List Sl} (hk : c.M[k]? = some (p, .lst ss)) : RcP F c (qLen K) [.v (.ref p)] (.d (.int (ss.length : Nat))) := fun c' x H σ vs w hv Q q => by
  cases hv with
  | cons e r =>
    cases r
    cases e
    obtain ⟨_, xs, h1, h2⟩ := w.cell (x.cell hk)
    exact ⟨p, xs, rfl, .inl (SqL.of h1), by rw [← h2.length]; exact q _ H w (Kp.refl _ _) (Dq.int _)⟩
theorem ev_lenC {k : Nat} {p : Addr} {ss : List Sl} (h : EvA F c tr [.v (.ref p)]) (hk : c.M[k]? = some (p, .lst ss)) : EvP F c (tCB (qLen K) tr) (.d (.int (ss.length : Nat))) := ev_cb h (rc_lenC hk)
theorem rc_lenS {z : Str} (hz : z.length ≤ 100000) : RcP F c qLenT [.d (.str z)] (.d (.int (z.length : Nat))) := fun c' x H σ vs w hv Q q => by
  cases hv with
  | cons e r =>
    cases r
    rw [SlOk.str e]
    exact ⟨z, rfl, sz5 hz, q _ H w (Kp.refl _ _) (Dq.int _)⟩
theorem ev_lenS {z : Str} (h : EvA F c tr [.d (.str z)]) (hz : z.length ≤ 100000) : EvP F c (tCB qLenT tr) (.d (.int (z.length : Nat))) := ev_cb h (rc_lenS hz)
theorem rc_abs {i : Int} : RcP F c qAbs [.d (.int i)] (.d (.int (if i < 0 then -i else i))) := fun c' x H σ vs w hv Q q => by
  cases hv with
  | cons e r =>
    cases r
    rw [SlOk.int e]
    exact ⟨i, rfl, q _ H w (Kp.refl _ _) (Dq.int _)⟩
theorem ev_abs {i : Int} (h : EvA F c tr [.d (.int i)]) : EvP F c (tCB qAbs tr) (.d (.int (if i < 0 then -i else i))) := ev_cb h rc_abs
theorem rc_int1 {i : Int} : RcP F c qInt1 [.d (.int i)] (.d (.int i)) := fun c' x H σ vs w hv Q q => by
  cases hv with
  | cons e r =>
    cases r
    rw [SlOk.int e]
    exact .inl ⟨i, rfl, q _ H w (Kp.refl _ _) (Dq.int _)⟩
theorem ev_int1 {i : Int} (h : EvA F c tr [.d (.int i)]) : EvP F c (tCB qInt1 tr) (.d (.int i)) := ev_cb h rc_int1
theorem rc_int1b {i : Bool} : RcP F c qInt1 [.d (.bl i)] (.d (.int (if i then 1 else 0))) := fun c' x H σ vs w hv Q q => by
  cases hv with
  | cons e r =>
    cases r
    rw [SlOk.bl e]
    exact .inr ⟨i, rfl, q _ H w (Kp.refl _ _) (Dq.int _)⟩
theorem ev_int1b {i : Bool} (h : EvA F c tr [.d (.bl i)]) : EvP F c (tCB qInt1 tr) (.d (.int (if i then 1 else 0))) := ev_cb h rc_int1b
theorem rc_intT {z : Str} {n : Int} (hn : PySem.intText? z = some n) (hz : z.length ≤ 640) : RcP F c qIntT [.d (.str z)] (.d (.int n)) := fun c' x H σ vs w hv Q q => by
  cases hv with
  | cons e r =>
    cases r
    rw [SlOk.str e]
    exact ⟨z, n, rfl, hn, hz, q _ H w (Kp.refl _ _) (Dq.int _)⟩
theorem ev_intT {z : Str} {n : Int} (h : EvA F c tr [.d (.str z)]) (hn : PySem.intText? z = some n) (hz : z.length ≤ 640) : EvP F c (tCB qIntT tr) (.d (.int n)) := ev_cb h (rc_intT hn hz)
theorem rc_strI {i : Int} (hz : i.natAbs.log2 < 1920) : RcP F c qStrI [.d (.int i)] (.d (.str (toString i))) := fun c' x H σ vs w hv Q q => by
  cases hv with
  | cons e r =>
    cases r
    rw [SlOk.int e]
    exact ⟨i, rfl, hz, q _ H w (Kp.refl _ _) (Dq.str _)⟩
theorem ev_strI {i : Int} (h : EvA F c tr [.d (.int i)]) (hz : i.natAbs.log2 < 1920) : EvP F c (tCB qStrI tr) (.d (.str (toString i))) := ev_cb h (rc_strI hz)
theorem rc_list {ds : List Dt} : RcP F c (qList K) [.d (.lst ds)] (.d (.lst ds)) := fun c' x H σ vs w hv Q q => by
  cases hv with
  | cons e r =>
    cases r
    obtain ⟨p, xs, rfl, n, h1, h2⟩ := SlOk.lst e
    refine ⟨p, xs, rfl, .inl (SqL.of h1), fun l hl => ?_⟩
    obtain ⟨w2, k2⟩ := w.new hl (.lst xs)
    obtain ⟨le, nn⟩ := off_new w (o := .lst xs) hl
    exact q _ _ w2 k2 (Dq.lst nn (h2.mono le))
theorem ev_list {ds : List Dt} (h : EvA F c tr [.d (.lst ds)]) : EvP F c (tCB (qList K) tr) (.d (.lst ds)) := ev_cb h rc_list
theorem rc_listT {ds : List Dt} : RcP F c (qList K) [.d (.tup ds)] (.d (.lst ds)) := fun c' x H σ vs w hv Q q => by
  cases hv with
  | cons e r =>
    cases r
    obtain ⟨p, xs, rfl, n, h1, h2⟩ := SlOk.tup e
    refine ⟨p, xs, rfl, .inr (SqT.of h1), fun l hl => ?_⟩
    obtain ⟨w2, k2⟩ := w.new hl (.lst xs)
    obtain ⟨le, nn⟩ := off_new w (o := .lst xs) hl
    exact q _ _ w2 k2 (Dq.lst nn (h2.mono le))
theorem ev_listT {ds : List Dt} (h : EvA F c tr [.d (.tup ds)]) : EvP F c (tCB (qList K) tr) (.d (.lst ds)) := ev_cb h rc_listT
theorem rc_tupL {ds : List Dt} : RcP F c (qTup K) [.d (.lst ds)] (.d (.tup ds)) := fun c' x H σ vs w hv Q q => by
  cases hv with
  | cons e r =>
    cases r
    obtain ⟨p, xs, rfl, n, h1, h2⟩ := SlOk.lst e
    refine ⟨p, xs, rfl, .inl ⟨SqL.of h1, fun l hl => ?_⟩⟩
    obtain ⟨w2, k2⟩ := w.new hl (.tup xs)
    obtain ⟨le, nn⟩ := off_new w (o := .tup xs) hl
    exact q _ _ w2 k2 (Dq.tup nn (h2.mono le))
theorem ev_tupL {ds : List Dt} (h : EvA F c tr [.d (.lst ds)]) : EvP F c (tCB (qTup K) tr) (.d (.tup ds)) := ev_cb h rc_tupL
theorem rc_tupT {ds : List Dt} : RcP F c (qTup K) [.d (.tup ds)] (.d (.tup ds)) := fun c' x H σ vs w hv Q q => by
  cases hv with
  | cons e r =>
    cases r
    have e' := e
    obtain ⟨p, xs, rfl, n, h1, h2⟩ := SlOk.tup e
    exact ⟨p, xs, rfl, .inr ⟨SqT.of h1, q _ H w (Kp.refl _ _) e'⟩⟩
theorem ev_tupT {ds : List Dt} (h : EvA F c tr [.d (.tup ds)]) : EvP F c (tCB (qTup K) tr) (.d (.tup ds)) := ev_cb h rc_tupT
/-- tuple(l), l a changing list of data -/
theorem rc_tupC {k : Nat} {p : Addr} {ds : List Dt} (hk : c.M[k]? = some (p, .lst (ds.map Sl.d))) : RcP F c (qTup K) [.v (.ref p)] (.d (.tup ds)) := fun c' x H σ vs w hv Q q => by
  cases hv with
  | cons e r =>
    cases r
    cases e
    obtain ⟨_, xs, h1, h2⟩ := w.cell (x.cell hk)
    refine ⟨p, xs, rfl, .inl ⟨SqL.of h1, fun l hl => ?_⟩⟩
    obtain ⟨w2, k2⟩ := w.new hl (.tup xs)
    obtain ⟨le, nn⟩ := off_new w (o := .tup xs) hl
    exact q _ _ w2 k2 (Dq.tup nn ((SlAll.dqL h2).mono le))
theorem ev_tupC {k : Nat} {p : Addr} {ds : List Dt} (h : EvA F c tr [.v (.ref p)]) (hk : c.M[k]? = some (p, .lst (ds.map Sl.d))) : EvP F c (tCB (qTup K) tr) (.d (.tup ds)) := ev_cb h (rc_tupC hk)
theorem rc_all {bs : List Bool} : RcP F c (rAll K) [.d (.lst (dBls bs))] (.d (.bl (bs.all id))) := fun c' x H σ vs w hv Q q => by
  cases hv with
  | cons e r =>
    cases r
    obtain ⟨p, xs, rfl, n, h1, h2⟩ := SlOk.lst e
    exact ⟨p, bs, rfl, by rw [← h2.bls]; exact SqL.of h1, q _ H w (Kp.refl _ _) (Dq.bl _)⟩
theorem ev_all {bs : List Bool} (h : EvA F c tr [.d (.lst (dBls bs))]) : EvP F c (tCB (rAll K) tr) (.d (.bl (bs.all id))) := ev_cb h rc_all
theorem rc_any {bs : List Bool} : RcP F c (rAny K) [.d (.lst (dBls bs))] (.d (.bl (bs.any id))) := fun c' x H σ vs w hv Q q => by
  cases hv with
  | cons e r =>
    cases r
    obtain ⟨p, xs, rfl, n, h1, h2⟩ := SlOk.lst e
    exact ⟨p, bs, rfl, by rw [← h2.bls]; exact SqL.of h1, q _ H w (Kp.refl _ _) (Dq.bl _)⟩
theorem ev_any {bs : List Bool} (h : EvA F c tr [.d (.lst (dBls bs))]) : EvP F c (tCB (rAny K) tr) (.d (.bl (bs.any id))) := ev_cb h rc_any
theorem rc_isS {z : Str} : RcP F c (rIsi K) [.d (.str z), .v (.ty "str")] (.d (.bl true)) := fun c' x H σ vs w hv Q q => by
  cases hv with
  | cons e r =>
    cases r with
    | cons e2 r =>
      cases r
      cases e2
      rw [SlOk.str e]
      exact ⟨_, _, _, _, true, rfl, .ty "str", .base (.str z), kit_ty (by decide +kernel), q _ H w (Kp.refl _ _) (Dq.bl _)⟩
theorem ev_isS {z : Str} (h : EvA F c tr [.d (.str z), .v (.ty "str")]) : EvP F c (tCB (rIsi K) tr) (.d (.bl true)) := ev_cb h rc_isS
theorem rv_addT {i j : Str} (hz : i.length + j.length ≤ 100000) : RvP F c qAddS (.d (.str i)) (.d (.str j)) (.d (.str (i ++ j))) := fun c' x H σ u v w hu hv Q q =>
  ⟨i, j, hu.str, hv.str, sz5 hz, q _ H w (Kp.refl _ _) (Dq.str _)⟩
theorem ev_addT {i j : Str} (ha : EvP F c ta (.d (.str i))) (hb : EvP F c tb (.d (.str j))) (hz : i.length + j.length ≤ 100000) : EvP F c (tOp qAddS ta tb) (.d (.str (i ++ j))) := ev_op ha hb (rv_addT hz)
theorem rv_sign {k : Nat} {z : Str} : RvP F c qSign (.d (.str ⟨#[k]⟩)) (.d (.str z)) (.d (.bl (decide (k ∈ z.cps.toList)))) := fun c' x H σ u v w hu hv Q q =>
  ⟨k, z, hu.str, hv.str, q _ H w (Kp.refl _ _) (Dq.bl _)⟩
theorem ev_sign {k : Nat} {z : Str} (ha : EvP F c ta (.d (.str ⟨#[k]⟩))) (hb : EvP F c tb (.d (.str z))) : EvP F c (tOp qSign ta tb) (.d (.bl (decide (k ∈ z.cps.toList)))) := ev_op ha hb rv_sign
theorem rv_qEqI {i j : Int} : RvP F c qEqI (.d (.int i)) (.d (.int j)) (.d (.bl (decide (i = j)))) := fun c' x H σ u v w hu hv Q q => ⟨i, j, hu.int, hv.int, q _ H w (Kp.refl _ _) (Dq.bl _)⟩
theorem ev_qEqI {i j : Int} (ha : EvP F c ta (.d (.int i))) (hb : EvP F c tb (.d (.int j))) : EvP F c (tOp qEqI ta tb) (.d (.bl (decide (i = j)))) := ev_op ha hb rv_qEqI
theorem rv_qNeI {i j : Int} : RvP F c qNeI (.d (.int i)) (.d (.int j)) (.d (.bl (!decide (i = j)))) := fun c' x H σ u v w hu hv Q q => ⟨i, j, hu.int, hv.int, q _ H w (Kp.refl _ _) (Dq.bl _)⟩
theorem ev_qNeI {i j : Int} (ha : EvP F c ta (.d (.int i))) (hb : EvP F c tb (.d (.int j))) : EvP F c (tOp qNeI ta tb) (.d (.bl (!decide (i = j)))) := ev_op ha hb rv_qNeI
theorem rv_qEqS {i j : Str} : RvP F c qEqS (.d (.str i)) (.d (.str j)) (.d (.bl (decide (i = j)))) := fun c' x H σ u v w hu hv Q q => ⟨i, j, hu.str, hv.str, q _ H w (Kp.refl _ _) (Dq.bl _)⟩
theorem ev_qEqS {i j : Str} (ha : EvP F c ta (.d (.str i))) (hb : EvP F c tb (.d (.str j))) : EvP F c (tOp qEqS ta tb) (.d (.bl (decide (i = j)))) := ev_op ha hb rv_qEqS
theorem rv_qNeS {i j : Str} : RvP F c qNeS (.d (.str i)) (.d (.str j)) (.d (.bl (!decide (i = j)))) := fun c' x H σ u v w hu hv Q q => ⟨i, j, hu.str, hv.str, q _ H w (Kp.refl _ _) (Dq.bl _)⟩
theorem ev_qNeS {i j : Str} (ha : EvP F c ta (.d (.str i))) (hb : EvP F c tb (.d (.str j))) : EvP F c (tOp qNeS ta tb) (.d (.bl (!decide (i = j)))) := ev_op ha hb rv_qNeS
/-! chains of ints -/
theorem ev_chI {f g : Int → Int → Bool} {tc : TE} {i j k : Int} (ha : EvP F c ta (.d (.int i))) (hb : EvP F c tb (.d (.int j))) (hc : f i j = true → EvP F c tc (.d (.int k))) :
    EvP F c (tChain (rI0 fun i j => .bl (f i j)) (rI0 fun i j => .bl (g i j)) ta tb tc) (.d (.bl (f i j && g j k))) := ev_chain ha hb rv_B0 hc fun _ => rv_B0
/-! x in a list or tuple of texts -/
theorem inV_strs (z : Str) : ∀ ys : List Str, inV (.str z) (ys.map V.str) = decide (z ∈ ys)
  | [] => rfl
  | y :: ys => by
    have ih := inV_strs z ys
    unfold inV at ih ⊢
    rw [List.map_cons, List.any_cons, ih]
    by_cases h : y = z
    · subst h
      simp [eqV]
    · have h' : ¬ z = y := fun e => h e.symm
      simp [eqV, h, h']
theorem flat_strs (ys : List Str) : (ys.map V.str).all flatV = true := by
  rw [List.all_eq_true]
  intro x hx
  obtain ⟨y, _, rfl⟩ := List.mem_map.mp hx
  rfl
theorem rv_inS {neg : Bool} {z : Str} {ys : List Str} : RvP F c (rIn K neg) (.d (.str z)) (.d (.lst (dStrs ys))) (.d (.bl (if neg then !decide (z ∈ ys) else decide (z ∈ ys)))) := fun c' x H σ u v w hu hv Q q => by
  obtain ⟨p, xs, rfl, n, h1, h2⟩ := hv.lst
  have e := h2.strs
  subst e
  rw [hu.str]
  refine ⟨p, _, rfl, .inl (SqL.of h1), rfl, flat_strs ys, ?_⟩
  rw [inV_strs]
  exact q _ H w (Kp.refl _ _) (Dq.bl _)
theorem ev_inS {neg : Bool} {z : Str} {ys : List Str} (ha : EvP F c ta (.d (.str z))) (hb : EvP F c tb (.d (.lst (dStrs ys)))) : EvP F c (tOp (rIn K neg) ta tb) (.d (.bl (if neg then !decide (z ∈ ys) else decide (z ∈ ys)))) := ev_op ha hb rv_inS
theorem rv_inST {neg : Bool} {z : Str} {ys : List Str} : RvP F c (rIn K neg) (.d (.str z)) (.d (.tup (dStrs ys))) (.d (.bl (if neg then !decide (z ∈ ys) else decide (z ∈ ys)))) := fun c' x H σ u v w hu hv Q q => by
  obtain ⟨p, xs, rfl, n, h1, h2⟩ := hv.tup
  have e := h2.strs
  subst e
  rw [hu.str]
  refine ⟨p, _, rfl, .inr (SqT.of h1), rfl, flat_strs ys, ?_⟩
  rw [inV_strs]
  exact q _ H w (Kp.refl _ _) (Dq.bl _)
theorem ev_inST {neg : Bool} {z : Str} {ys : List Str} (ha : EvP F c ta (.d (.str z))) (hb : EvP F c tb (.d (.tup (dStrs ys)))) : EvP F c (tOp (rIn K neg) ta tb) (.d (.bl (if neg then !decide (z ∈ ys) else decide (z ∈ ys)))) := ev_op ha hb rv_inST
/-! split, join, replace, f-strings -/
theorem ev_split {y z : Str} (ho : EvP F c to (.d (.str y))) (he : EvP F c te (.d (.str z))) (h0 : (z.length == 0) = false) (hz : y.length + 2 ≤ 100000) : EvP F c (tM1 qSplit to te) (.d (.lst (dStrs (Txt.split y z)))) := fun c' x H σ w Q q =>
  ho c' x H σ w _ fun v H1 w1 k1 h1 => ⟨⟨y, h1.str⟩, he c' x H1 σ w1 _ fun u H2 w2 k2 h2 => ⟨y, z, h1.str, by rw [h2.str], h0, sz5 hz, fun p hp => by
    obtain ⟨w3, k3⟩ := w2.new hp (.lst ((Txt.split y z).map V.str))
    obtain ⟨le, nn⟩ := off_new w2 (o := .lst ((Txt.split y z).map V.str)) hp
    exact q _ _ w3 ((k1.trans k2).trans k3) (Dq.lst nn (dq_strs _))⟩⟩
theorem ev_join {y : Str} {ys : List Str} (ho : EvP F c to (.d (.str y))) (he : EvP F c te (.d (.lst (dStrs ys)))) (hz : (ys.map (·.length)).sum + ys.length * y.length ≤ 100000) : EvP F c (tM1 (qJoin K) to te) (.d (.str (Txt.join y ys))) := fun c' x H σ w Q q =>
  ho c' x H σ w _ fun v H1 w1 k1 h1 => ⟨⟨y, h1.str⟩, he c' x H1 σ w1 _ fun u H2 w2 k2 h2 => by
    obtain ⟨p, xs, rfl, n, g1, g2⟩ := SlOk.lst h2
    have e := g2.strs
    subst e
    exact ⟨y, p, ys, h1.str, rfl, .inl (SqL.of g1), Nat.le_trans hz (by decide), q _ H2 w2 (k1.trans k2) (Dq.str _)⟩⟩
theorem ev_repl {x y z : Str} (ho : EvP F c to (.d (.str x))) (hz : x.length + (x.length + 1) * z.length ≤ 1000000) : EvP F c (CwR.tReplC to y z) (.d (.str (Txt.replace x y z))) := fun c' xx H σ w Q q =>
  ho c' xx H σ w _ fun v H1 w1 k1 h1 => ⟨x, h1.str, Nat.le_trans hz (by decide), q _ H1 w1 k1 (Dq.str _)⟩
theorem ev_fmtS {y : Str} (h : EvP F c te (.d (.str y))) (hz : y.length ≤ 100000) : EvP F c (tFmt te) (.d (.str y)) := fun c' x H σ w Q q =>
  h c' x H σ w _ fun v H1 w1 k1 h1 => .inl ⟨y, h1.str, sz5 hz, q _ H1 w1 k1 (Dq.str _)⟩
theorem ev_fmtI {i : Int} (h : EvP F c te (.d (.int i))) (hz : i.natAbs.log2 < 1920) : EvP F c (tFmt te) (.d (.str (toString i))) := fun c' x H σ w Q q =>
  h c' x H σ w _ fun v H1 w1 k1 h1 => .inr ⟨i, h1.int, hz, q _ H1 w1 k1 (Dq.str _)⟩
inductive EvJ (F : Fx) (c : Ct) : List TE → List Str → Prop
  | nil : EvJ F c [] []
  | cons {te : TE} {ts : List TE} {y : Str} {ys : List Str} : EvP F c te (.d (.str y)) → EvJ F c ts ys → EvJ F c (te :: ts) (y :: ys)
theorem js_len (ys : List Str) : ∀ acc : Str, (ys.foldl (· ++ ·) acc).length = acc.length + (ys.map (·.length)).sum := by
  induction ys with
  | nil => intro acc; simp
  | cons y ys ih =>
    intro acc
    rw [List.foldl_cons, ih, List.map_cons, List.sum_cons]
    have e : (acc ++ y).length = acc.length + y.length := by
      first
      | exact Str.length_append acc y
      | (show (acc.cps ++ y.cps).size = _; simp [Str.length])
    rw [e]
    omega
theorem evj_run {ts : List TE} {ys : List Str} (h : EvJ F c ts ys) : ∀ (acc : Str), acc.length + (ys.map (·.length)).sum ≤ 100000 → ∀ c', Xt c c' → ∀ H σ, Wd F c' H σ → ∀ Q : Str → Hp → Prop, (∀ H', Wd F c' H' σ → Kp c'.A c'.A H H' → Q (ys.foldl (· ++ ·) acc) H') → tJs ts acc σ H Q := by
  induction h with
  | nil => exact fun acc hz c' x H σ w Q q => q H w (Kp.refl _ _)
  | @cons te ts y ys he r ih =>
    intro acc hz c' x H σ w Q q
    refine he c' x H σ w _ fun v H1 w1 k1 h1 => ?_
    have e : (acc ++ y).length = acc.length + y.length := by
      have := js_len [y] acc
      simpa using this
    rw [List.map_cons, List.sum_cons] at hz
    exact ⟨y, h1.str, sz5 (by omega), ih (acc ++ y) (by omega) c' x H1 σ w1 Q fun H2 w2 k2 => q H2 w2 (k1.trans k2)⟩
theorem ev_f {ts : List TE} {ys : List Str} (h : EvJ F c ts ys) (hz : (ys.map (·.length)).sum ≤ 100000) : EvP F c (tF ts) (.d (.str (ys.foldl (· ++ ·) Str.empty))) := fun c' x H σ w Q q =>
  evj_run h Str.empty (by show 0 + _ ≤ _; omega) c' x H σ w _ fun H1 w1 k1 => q _ H1 w1 k1 (Dq.str _)
end
end DL

set_option Elab.async false
set_option linter.all false
set_option maxRecDepth 100000
set_option maxHeartbeats 1000000
/-! DL6: how a def begins, what the top has written. -/
namespace DL
open PySem PySem.Spec PyProof.Rows L2

structure At (K : PySem.W.Frag) (mg : Str → Option Value) (x : Str) (st : Stmt) (ps : List Str) (f : Addr) (fd : FuncData) : Prop where
  F : Fun K x x st f fd
  g : mg x = some (.ref f)
  b : Binds K fd ps []
structure AtM (K : PySem.W.Frag) (C : Addr) (x q : Str) (st : Stmt) (ps : List Str) (f : Addr) (fd : FuncData) : Prop where
  F : Fun K x q st f fd
  m : Meth K C x f
  b : Binds K fd ps []

theorem start_ok {A : List Addr} {H : Hp} {N : List Str} {vs : List V} {ss : List Sl} (h : SlAll A H ss vs) : ∀ n : Nat, Paired (SlotOk A H) (ss ++ List.replicate n Sl.u) (vs.map some ++ List.replicate n none) := by
  intro n
  induction h with
  | nil =>
    induction n with
    | zero => exact .nil
    | succ n ih => exact .cons trivial ih
  | @cons s v ss vs r t ih =>
    refine .cons ?_ ih
    cases s <;> first | exact r | trivial
/-- a def that changes nothing begins -/
theorem wd_start {A : List Addr} {H : Hp} {N : List Str} {vs : List V} {ds : List Dt} (nA : A.Nodup) (lv : ∀ x ∈ A, ∃ o, H x = some o) (hd : DqL (Off A H) vs ds) :
    Wd ⟨[], H⟩ ⟨A, [], [], ds.map Sl.d ++ List.replicate (N.length - ds.length) .u⟩ H (L2.start N vs) := by
  refine ⟨fun b o _ h => h, lv, (fun a ha => by cases ha), nA, (fun e he => by cases he), (fun e he => by cases he), (fun e he => by cases he), List.nodup_nil, (fun e he => by cases he), (fun e he => by cases he), ?_⟩
  unfold L2.start
  rw [hd.length]
  exact start_ok (N := N) hd.slAll _
/-- a def that draws begins -/
theorem wd_startH {A : List Addr} {H : Hp} {N : List Str} {hp lp : Addr} {vs : List V} {ds : List Dt} (nA : A.Nodup) (lv : ∀ x ∈ A, ∃ o, H x = some o) (h1 : hp ∈ A) (h2 : lp ∈ A) (hne : hp ≠ lp) (hc : CellOk A H hp (.heap lp)) (hd : DqL (Off A H) vs ds) :
    Wd ⟨[hp, lp], H⟩ ⟨A, [], [(hp, .heap lp), (lp, .held hp)], .v (.ref hp) :: ds.map Sl.d ++ List.replicate (N.length - (ds.length + 1)) .u⟩ H (L2.start N (.ref hp :: vs)) := by
  refine ⟨fun b o _ h => h, lv, fun a ha => ?_, nA, fun e he => ?_, fun e he => ?_, fun e he => ?_, ?_, fun e he l hl => ?_, (fun e he => by cases he), ?_⟩
  · rcases List.mem_cons.mp ha with rfl | ha
    · exact h1
    · rw [List.mem_singleton] at ha; subst ha; exact h2
  · rcases List.mem_cons.mp he with rfl | he
    · exact h1
    · rw [List.mem_singleton] at he; subst he; exact h2
  · rcases List.mem_cons.mp he with rfl | he
    · exact hc
    · rw [List.mem_singleton] at he; subst he; trivial
  · rcases List.mem_cons.mp he with rfl | he
    · exact .inl List.mem_cons_self
    · rw [List.mem_singleton] at he; subst he; exact .inl (List.mem_cons_of_mem _ List.mem_cons_self)
  · show [hp, lp].Nodup
    simp [hne]
  · rcases List.mem_cons.mp he with rfl | he
    · cases hl
      exact List.mem_cons_of_mem _ List.mem_cons_self
    · rw [List.mem_singleton] at he; subst he; cases hl
  · unfold L2.start
    rw [List.length_cons, hd.length]
    exact start_ok (N := N) (ss := .v (.ref hp) :: ds.map Sl.d) (vs := .ref hp :: vs) (.cons rfl hd.slAll) _
section
variable {X : Cx} {x : Str} {pos : Pos}
theorem pe_gs {z : Str} (h : ∃ t, X.mg x = some (.str z t)) (hg : Gl X x := by rfl) (hd : (x == ("__debug__" : Str)) = false := by decide) : PE X (.Name x pos) (tC (.str z)) := by
  obtain ⟨t, h⟩ := h
  exact pe_glob hg h ⟨t, rfl⟩ hd
theorem pe_gi {z : Int} (h : ∃ t, X.mg x = some (.int z t)) (hg : Gl X x := by rfl) (hd : (x == ("__debug__" : Str)) = false := by decide) : PE X (.Name x pos) (tC (.int z)) := by
  obtain ⟨t, h⟩ := h
  exact pe_glob hg h ⟨t, rfl⟩ hd
end
/-- what a pure def hands back, for its promise -/
theorem Wd.out {c : Ct} {H H' : Hp} {σ : St} {A : List Addr} (w : Wd ⟨[], H⟩ c H' σ) (hA : ∀ a ∈ A, a ∈ c.A) {d : Dt} {v : V} (h : SlOk c.A H' (.d d) v) : Le H H' ∧ Dq (Off A H') v d :=
  ⟨fun b o e => w.fr b o (by simp) e, Dq.mono (off_sub hA) h⟩
end DL
namespace DL
open PySem PySem.Spec PyProof.Rows L2
theorem sq {t u : TS} {D : Ends} {σ : St} {H : Hp} (h : t { D with nx := u D } σ H) : tSeq t u D σ H := h
theorem nxt {D : Ends} {σ : St} {H : Hp} (h : D.nx σ H) : tNext D σ H := h
/-- a pure def hands back -/
theorem s_retQ {c : Ct} {H0 H : Hp} {σ : St} {D : Ends} {te : TE} {A : List Addr} {res : Dt → Prop} {d : Dt} {Q : VK} (w : Wd ⟨[], H0⟩ c H σ) (q : ∀ v H' d, res d → Le H0 H' → Dq (Off A H') v d → Q v H') (hA : ∀ a ∈ A, a ∈ c.A) (h : EvP ⟨[], H0⟩ c te (.d d)) (hr : res d) (hD : D.rt = Q := by rfl) : tRet te D σ H :=
  s_ret w h fun v H2 w2 hv => by
    rw [hD]
    exact q v H2 d hr (w2.out hA hv).1 (w2.out hA hv).2
end DL

set_option Elab.async false
set_option linter.all false
set_option maxRecDepth 100000
set_option maxHeartbeats 1000000
/-! DL7: changing lists: items put, taken; the source of draws. -/
namespace DL
open PySem PySem.Spec PyProof.Rows L2
section
variable {F : Fx} {c c' : Ct} {H H' : Hp} {σ : St} {D : Ends} {te ta tb to ti : TE} {s : Sl} {K : PySem.W.Frag}
theorem tyL {k : Nat} {p : Addr} {ss : List Sl} (w : Wd F c H σ) (hk : c.M[k]? = some (p, .lst ss)) : tyV K "list" (.ref p) H := by
  obtain ⟨_, xs, e, _⟩ := w.cell hk
  exact .inl ⟨rfl, _, SqL.of e⟩
/-- xs.pop() alone -/
theorem s_popE {A : List Addr} {G : List (V × Dt)} {M : List (Addr × Cell)} {S : List Sl} {k : Nat} {p : Addr} {ss : List Sl} (w : Wd F ⟨A, G, M, S⟩ H σ) (hk : M[k]? = some (p, .lst ss)) (ha : EvP F ⟨A, G, M, S⟩ ta (.v (.ref p))) (hz : 0 < ss.length)
    (q : ∀ H', Wd F ⟨A, G, M.set k (p, .lst ss.dropLast), S⟩ H' σ → D.nx σ H') : tDrop (tBM0 K "list" rPop ta) D σ H :=
  ha.run w fun x H1 w1 k1 h1 => by
    obtain rfl : x = .ref p := h1
    refine ⟨tyL w1 hk, ?_⟩
    obtain ⟨_, xs, e1, e2⟩ := w1.cell hk
    have hl := e2.length
    refine ⟨p, xs, xs[xs.length - 1]'(by omega), rfl, rfl, e1, List.getElem?_eq_getElem (by omega), ?_⟩
    exact q _ (w1.writeL hk (Paired.dropLast e2)).1
/-- x = xs.pop() -/
theorem s_popA {A : List Addr} {G : List (V × Dt)} {M : List (Addr × Cell)} {S : List Sl} {i k : Nat} {p : Addr} {ss : List Sl} (w : Wd F ⟨A, G, M, S⟩ H σ) (hk : M[k]? = some (p, .lst ss)) (ha : EvP F ⟨A, G, M, S⟩ ta (.v (.ref p))) (hl : ss[ss.length - 1]? = some s)
    (q : ∀ H' σ', Wd F ⟨A, G, M.set k (p, .lst ss.dropLast), S.set i s⟩ H' σ' → D.nx σ' H') : tAsg (tBM0 K "list" rPop ta) (gName i) D σ H :=
  ha.run w fun x H1 w1 k1 h1 => by
    obtain rfl : x = .ref p := h1
    refine ⟨tyL w1 hk, ?_⟩
    obtain ⟨_, xs, e1, e2⟩ := w1.cell hk
    have hn := e2.length
    rw [hn] at hl
    obtain ⟨y, hy, hs⟩ := e2.get hl
    refine ⟨p, xs, y, rfl, rfl, e1, hy, ?_⟩
    obtain ⟨w2, k2⟩ := w1.writeL hk (Paired.dropLast e2)
    exact q _ _ (w2.set (hs.mono k2) i)
/-- xs[i] = e -/
theorem s_setC {A : List Addr} {G : List (V × Dt)} {M : List (Addr × Cell)} {S : List Sl} {k j : Nat} {p : Addr} {ss : List Sl} (w : Wd F ⟨A, G, M, S⟩ H σ) (hk : M[k]? = some (p, .lst ss)) (h : EvP F ⟨A, G, M, S⟩ te s) (ho : EvP F ⟨A, G, M, S⟩ to (.v (.ref p))) (hi : EvP F ⟨A, G, M, S⟩ ti (.d (.int (j : Nat)))) (hj : j < ss.length)
    (q : ∀ H', Wd F ⟨A, G, M.set k (p, .lst (ss.set j s)), S⟩ H' σ → D.nx σ H') : tAsg te (gSub to ti rSetL) D σ H :=
  h.run w fun x H1 w1 k1 h1 => ho.run w1 fun y H2 w2 k2 h2 => hi.run w2 fun z H3 w3 k3 h3 => by
    obtain ⟨_, xs, e1, e2⟩ := w3.cell hk
    have hn := e2.length
    obtain rfl : y = .ref p := h2
    refine ⟨p, xs, (j : Nat), j, rfl, SlOk.int h3, e1, ?_, ?_⟩
    · unfold ixN
      rw [if_pos (by omega), if_pos (by omega)]
      simp
    · exact q _ (w3.writeL hk (Paired.setL (h1.mono (k2.trans k3)) j e2)).1
theorem flat_ints : ∀ L : List Int, flatL (dInts L) = true
  | [] => rfl
  | _ :: L => by show (true && flatL (dInts L)) = true; rw [flat_ints L]; rfl
theorem lay_ints : ∀ L : List Int, PyData.canLayAll0 (toPyL (dInts L)) = true
  | [] => rfl
  | _ :: L => by show (true && PyData.canLayAll0 (toPyL (dInts L))) = true; rw [lay_ints L]; rfl
theorem deep_ints : ∀ L : List Int, PyData.depthAll (toPyL (dInts L)) = 0
  | [] => rfl
  | _ :: L => by show max 0 (PyData.depthAll (toPyL (dInts L))) = 0; rw [deep_ints L]; rfl
theorem shaped_ints (L : List Int) : SeqAt.shaped (toPy (.lst (dInts L))) = true := by
  show (PyData.canLayAll0 (toPyL (dInts L)) && decide (PyData.depthAll (toPyL (dInts L)) + 1 ≤ 64)) = true
  rw [lay_ints, deep_ints]
  rfl
/-- xs != [], xs a changing list of ints -/
theorem ev_neC {k : Nat} {p : Addr} {L : List Int} (ha : EvP F c ta (.v (.ref p))) (hb : EvP F c tb (.d (.lst []))) (hk : c.M[k]? = some (p, .lst ((dInts L).map Sl.d))) : EvP F c (tOp (rNeD K) ta tb) (.d (.bl (decide (L ≠ [])))) := ev_op ha hb fun c' x H σ u v w hu hv Q q => by
  obtain ⟨_, xs, e1, e2⟩ := w.cell (x.cell hk)
  obtain rfl : u = .ref p := hu
  have hd : Dp K H (.ref p) (toPy (.lst (dInts L))) := .lst (SqL.of e1) (DqL.py off_le (flat_ints L) (SlAll.dqL e2))
  refine ⟨_, _, hd, Dq.py (d := .lst []) off_le rfl hv, shaped_ints L, by decide, ?_⟩
  have e : (!PyData.eqv (toPy (.lst (dInts L))) (toPy (.lst []))) = decide (L ≠ []) := by
    cases L <;> rfl
  rw [e]
  exact q _ H w (Kp.refl _ _) (Dq.bl _)
/-- the source opened: its list of two, and its list of numbers -/
theorem Wd.opened {hp lp : Addr} {S : List Sl} {G : List (V × Dt)} {A : List Addr} (w : Wd F ⟨A, G, [(hp, .heap lp), (lp, .held hp)], S⟩ H σ) :
    ∃ (L : List Int) (z : Int), (∀ x ∈ L, 0 ≤ x) ∧ 0 ≤ z ∧ L.length ≤ 100 ∧ Wd F ⟨A, G, [(hp, .lst [.v (.ref lp), .d (.int z)]), (lp, .lst ((dInts L).map Sl.d))], S⟩ H σ := by
  obtain ⟨L, z, h1, h2, h3, h4, h5⟩ := w.mO (hp, .heap lp) (by simp)
  refine ⟨L, z, h3, h4, h5, w.fr, w.av, w.wA, w.nA, ?_, ?_, ?_, w.nd, ?_, w.gs, w.sl⟩
  · intro e he
    rcases List.mem_cons.mp he with rfl | he
    · exact w.mA (hp, .heap lp) (by simp)
    · rw [List.mem_singleton] at he; subst he; exact w.mA (lp, .held hp) (by simp)
  · intro e he
    rcases List.mem_cons.mp he with rfl | he
    · exact ⟨_, h1, .cons rfl (.cons (Dq.int _) .nil)⟩
    · rw [List.mem_singleton] at he; subst he; exact ⟨_, h2, DqL.slAll (dq_ints L)⟩
  · intro e he
    rcases List.mem_cons.mp he with rfl | he
    · exact w.mW (hp, .heap lp) (by simp)
    · rw [List.mem_singleton] at he; subst he; exact w.mW (lp, .held hp) (by simp)
  · intro e he l hl
    rcases List.mem_cons.mp he with rfl | he
    · cases hl
    · rw [List.mem_singleton] at he; subst he; cases hl
/-- .. and closed -/
theorem Wd.closed {hp lp : Addr} {S : List Sl} {G : List (V × Dt)} {A : List Addr} {L : List Int} {z : Int} (w : Wd F ⟨A, G, [(hp, .lst [.v (.ref lp), .d (.int z)]), (lp, .lst ((dInts L).map Sl.d))], S⟩ H σ) (h3 : ∀ x ∈ L, 0 ≤ x) (h4 : 0 ≤ z) (h5 : L.length ≤ 100) : CellOk A H hp (.heap lp) := by
  obtain ⟨xs, e1, e2⟩ := w.mO (hp, .lst [.v (.ref lp), .d (.int z)]) (by simp)
  obtain ⟨ys, e3, e4⟩ := w.mO (lp, .lst ((dInts L).map Sl.d)) (by simp)
  have e5 := (SlAll.dqL e4).ints
  subst e5
  cases e2 with
  | cons a r =>
    cases r with
    | cons b r =>
      cases r
      obtain rfl := a
      rw [SlOk.int b] at e1
      exact ⟨L, z, e1, e3, h3, h4, h5⟩
/-- a def that draws hands back -/
theorem s_retH {A : List Addr} {hp lp : Addr} {te : TE} {res : Dt → Prop} {d : Dt} {H0 : Hp} {Q : VK} (w : Wd ⟨[hp, lp], H0⟩ c H σ) (q : ∀ v H' d, res d → (∀ b o, b ≠ hp → b ≠ lp → H0 b = some o → H' b = some o) → CellOk A H' hp (.heap lp) → Dq (Off A H') v d → Q v H')
    (hA : ∀ a ∈ A, a ∈ c.A) (hc : ∀ H', Wd ⟨[hp, lp], H0⟩ c H' σ → CellOk A H' hp (.heap lp)) (h : EvP ⟨[hp, lp], H0⟩ c te (.d d)) (hr : res d) (hD : D.rt = Q := by rfl) : tRet te D σ H :=
  s_ret w h fun v H2 w2 hv => by
    rw [hD]
    exact q v H2 d hr (fun b o h1 h2 e => w2.fr b o (by simp [h1, h2]) e) (hc H2 w2) (Dq.mono (off_sub hA) hv)
theorem CellOk.sub {A B : List Addr} {hp lp : Addr} (h : CellOk A H hp (.heap lp)) : CellOk B H hp (.heap lp) := h
end
end DL

set_option Elab.async false
set_option linter.all false
set_option maxRecDepth 100000
set_option maxHeartbeats 1000000
/-! DL8: a statement and what follows it. -/
namespace DL
open PySem PySem.Spec PyProof.Rows L2
section
variable {F : Fx} {c c' : Ct} {H H' : Hp} {σ : St} {D : Ends} {te ta tb to ti : TE} {s ss : Sl} {K : PySem.W.Frag} {tt : TT} {t u v : TS} {R : Sl → Prop} {RT : Bool → Prop} {g : TG}
theorem q_set {A : List Addr} {G : List (V × Dt)} {M : List (Addr × Cell)} {S : List Sl} {i : Nat} (w : Wd F ⟨A, G, M, S⟩ H σ) (h : EvP F ⟨A, G, M, S⟩ te s) (k : ∀ H' σ', Wd F ⟨A, G, M, S.set i s⟩ H' σ' → u D σ' H') : tSeq (tAsg te (gName i)) u D σ H := s_set (D := { D with nx := u D }) w h k
theorem q_setR {A : List Addr} {G : List (V × Dt)} {M : List (Addr × Cell)} {S : List Sl} {i : Nat} (w : Wd F ⟨A, G, M, S⟩ H σ) (h : EvR F ⟨A, G, M, S⟩ te R) (k : ∀ s, R s → ∀ H' σ', Wd F ⟨A, G, M, S.set i s⟩ H' σ' → u D σ' H') : tSeq (tAsg te (gName i)) u D σ H := s_setR (D := { D with nx := u D }) w h k
theorem q_drop (w : Wd F c H σ) (h : EvP F c te s) (k : ∀ H', Wd F c H' σ → u D σ H') : tSeq (tDrop te) u D σ H := s_drop (D := { D with nx := u D }) w h k
theorem q_if {b : Bool} (w : Wd F c H σ) (h : EvT F c tt b) (h1 : b = true → ∀ H', Wd F c H' σ → t { D with nx := u D } σ H') (h2 : b = false → ∀ H', Wd F c H' σ → v { D with nx := u D } σ H') : tSeq (tIfS tt t v) u D σ H := s_if (D := { D with nx := u D }) w h h1 h2
/-- an if without an else -/
theorem q_if1 {b : Bool} (w : Wd F c H σ) (h : EvT F c tt b) (h1 : b = true → ∀ H', Wd F c H' σ → t { D with nx := u D } σ H') (h2 : b = false → ∀ H', Wd F c H' σ → u D σ H') : tSeq (tIfS tt t tNext) u D σ H := s_if (D := { D with nx := u D }) w h h1 h2
theorem q_if1R (w : Wd F c H σ) (h : EvRT F c tt RT) (h1 : RT true → ∀ H', Wd F c H' σ → t { D with nx := u D } σ H') (h2 : RT false → ∀ H', Wd F c H' σ → u D σ H') : tSeq (tIfS tt t tNext) u D σ H := s_ifR (D := { D with nx := u D }) w h h1 h2
theorem q_aug {A : List Addr} {G : List (V × Dt)} {M : List (Addr × Cell)} {S : List Sl} {i : Nat} {f : Int → Int → Int} {a b : Int} (w : Wd F ⟨A, G, M, S⟩ H σ) (hx : S[i]? = some (.d (.int a))) (h : EvP F ⟨A, G, M, S⟩ te (.d (.int b))) (k : ∀ H' σ', Wd F ⟨A, G, M, S.set i (.d (.int (f a b)))⟩ H' σ' → u D σ' H') : tSeq (tAug i te (ipI f)) u D σ H := s_aug (D := { D with nx := u D }) w hx h k
theorem q_par {A : List Addr} {G : List (V × Dt)} {M : List (Addr × Cell)} {S : List Sl} {i j : Nat} (w : Wd F ⟨A, G, M, S⟩ H σ) (h : EvA F ⟨A, G, M, S⟩ (tCons ta (tCons tb tNil)) [s, ss]) (k : ∀ H' σ', Wd F ⟨A, G, M, (S.set i s).set j ss⟩ H' σ' → u D σ' H') : tSeq (tPar i j (tCons ta (tCons tb tNil))) u D σ H := s_par (D := { D with nx := u D }) w h k
theorem q_newL {A : List Addr} {G : List (V × Dt)} {M : List (Addr × Cell)} {S : List Sl} {i : Nat} {ss : List Sl} {tr : TA} (w : Wd F ⟨A, G, M, S⟩ H σ) (h : EvA F ⟨A, G, M, S⟩ tr ss) (hz : ss.length ≤ 100000) (k : ∀ p H' σ', p ∉ A → F.H0 p = none → Wd F ⟨p :: A, G, M ++ [(p, .lst ss)], S.set i (.v (.ref p))⟩ H' σ' → u D σ' H') : tSeq (tAsg (tLst tr) (gName i)) u D σ H := s_newL (D := { D with nx := u D }) w h hz k
theorem q_append {A : List Addr} {G : List (V × Dt)} {M : List (Addr × Cell)} {S : List Sl} {k : Nat} {p : Addr} {ss : List Sl} (w : Wd F ⟨A, G, M, S⟩ H σ) (hk : M[k]? = some (p, .lst ss)) (ha : EvP F ⟨A, G, M, S⟩ ta (.v (.ref p))) (h : EvP F ⟨A, G, M, S⟩ te s) (hz : ss.length < 100000)
    (q : ∀ H', Wd F ⟨A, G, M.set k (p, .lst (ss ++ [s])), S⟩ H' σ → u D σ H') : tSeq (tDrop (tBM K "list" rAppend ta (tCons te tNil))) u D σ H := s_append (D := { D with nx := u D }) w hk ha h hz q
theorem q_for {wi : TI} {its : List Sl} (w : Wd F c H σ) (hi : EvI F c wi its) (fam : Nat → Ct → Prop) (h0 : fam 0 c)
    (hs : ∀ i s c1, its[i]? = some s → fam i c1 → ∃ S', EvG F g s c1.S S' ∧ ∀ G H1 σ1, Wd F ⟨c1.A, G, c1.M, S'⟩ H1 σ1 →
      t { D with nx := fun σ' H' => ∃ c2, fam (i + 1) c2 ∧ Wd F ⟨c2.A, G, c2.M, c2.S⟩ H' σ', ct := fun σ' H' => ∃ c2, fam (i + 1) c2 ∧ Wd F ⟨c2.A, G, c2.M, c2.S⟩ H' σ', bk := u D } σ1 H1)
    (hd : ∀ c1 H1 σ1, fam its.length c1 → Wd F ⟨c1.A, c.G, c1.M, c1.S⟩ H1 σ1 → u D σ1 H1) : tSeq (tFor wi g t) u D σ H := s_for (D := { D with nx := u D }) w hi fam h0 hs hd
/-- from a cell that no promise of the caller tells: a list of data -/
theorem Wd.outL {H0 : Hp} {c : Ct} {k : Nat} {p : Addr} {ds : List Dt} {A W : List Addr} (w : Wd ⟨W, H0⟩ c H σ) (hk : c.M[k]? = some (p, .lst (ds.map Sl.d))) (hp : p ∉ A) (hA : ∀ a ∈ A, a ∈ c.A) : Dq (Off A H) (.ref p) (.lst ds) := by
  obtain ⟨_, xs, e1, e2⟩ := w.cell hk
  exact Dq.lst (off_of hp e1) ((SlAll.dqL e2).mono (off_sub hA))
/-- x = list(e): a list that will change -/
theorem s_listC {A : List Addr} {G : List (V × Dt)} {M : List (Addr × Cell)} {S : List Sl} {i : Nat} {ds : List Dt} {tr : TA} (w : Wd F ⟨A, G, M, S⟩ H σ) (h : EvA F ⟨A, G, M, S⟩ tr [.d (.lst ds)]) (k : ∀ p H' σ', p ∉ A → F.H0 p = none → Wd F ⟨p :: A, G, M ++ [(p, .lst (ds.map Sl.d))], S.set i (.v (.ref p))⟩ H' σ' → D.nx σ' H') : tAsg (tCB (qList K) tr) (gName i) D σ H :=
  h _ (Xt.refl _) H σ w _ fun vs H1 w1 k1 h1 => by
    cases h1 with
    | cons e r =>
      cases r
      obtain ⟨p, xs, rfl, n, g1, g2⟩ := SlOk.lst e
      refine ⟨p, xs, rfl, .inl (SqL.of g1), fun l hl => ?_⟩
      obtain ⟨w2, k2⟩ := w1.newList hl g2.slAll
      exact k l _ _ (w1.free hl) (w1.free0 hl) (w2.set (s := .v (.ref l)) rfl i)
end
end DL
namespace DL
open PySem PySem.Spec PyProof.Rows L2
section
variable {F : Fx} {c c' : Ct} {H H' : Hp} {σ : St} {D : Ends} {te ta tb to ti : TE} {s : Sl} {K : PySem.W.Frag} {u : TS} {R : Sl → Prop}
/-- r, f = (list(e), []): two lists that will change -/
theorem q_parLL {A : List Addr} {G : List (V × Dt)} {M : List (Addr × Cell)} {S : List Sl} {i j : Nat} {ds : List Dt} {tr : TA} (w : Wd F ⟨A, G, M, S⟩ H σ) (h : EvA F ⟨A, G, M, S⟩ tr [.d (.lst ds)])
    (k : ∀ p q H' σ', p ∉ A → q ∉ A → F.H0 p = none → F.H0 q = none → Wd F ⟨q :: p :: A, G, M ++ [(p, .lst (ds.map Sl.d))] ++ [(q, .lst [])], (S.set i (.v (.ref p))).set j (.v (.ref q))⟩ H' σ' → u D σ' H') :
    tSeq (tPar i j (tCons (tCB (qList K) tr) (tCons (tLst tNil) tNil))) u D σ H :=
  h _ (Xt.refl _) H σ w _ fun vs H1 w1 k1 h1 => by
    cases h1 with
    | cons e r =>
      cases r
      obtain ⟨p, xs, rfl, n, g1, g2⟩ := SlOk.lst e
      refine ⟨p, xs, rfl, .inl (SqL.of g1), fun l hl => ⟨Nat.zero_le _, fun m hm => ?_⟩⟩
      obtain ⟨w2, k2⟩ := w1.newList hl g2.slAll
      obtain ⟨w3, k3⟩ := w2.newList (ss := []) (xs := []) hm .nil
      have nm : m ∉ A := fun h => (w2.free hm) (List.mem_cons_of_mem _ h)
      exact ⟨_, _, rfl, k l m _ _ (w1.free hl) nm (w1.free0 hl) (w2.free0 hm) ((w3.set (s := .v (.ref l)) rfl i).set (s := .v (.ref m)) rfl j)⟩
theorem ev_revL {ds : List Dt} (h : EvP F c te (.d (.lst ds))) : EvP F c (tRevL K te) (.d (.lst ds.reverse)) := fun c' x H σ w Q q =>
  h c' x H σ w _ fun v H1 w1 k1 h1 => by
    obtain ⟨p, xs, e1, n1, z1, z2⟩ := h1.lst
    refine ⟨p, xs, e1, SqL.of z1, fun r hr => ?_⟩
    obtain ⟨w4, k4⟩ := w1.new hr (.lst xs.reverse)
    obtain ⟨l, n⟩ := off_new w1 (o := .lst xs.reverse) hr
    exact q _ _ w4 (k1.trans k4) (Dq.lst n (z2.reverse.mono l))
theorem seqIx {r : Int} {n : Nat} (h0 : 0 ≤ r) (h1 : r < n) : seqIndex? r n = some r.toNat := by
  unfold seqIndex?
  simp only [if_neg (show ¬ r < 0 by omega)]
  rw [if_pos (by simp; omega)]
/-- f.append(r.pop(e)), e some place -/
theorem s_movR {A : List Addr} {G : List (V × Dt)} {M : List (Addr × Cell)} {S : List Sl} {a b : Nat} {p q : Addr} {ds es : List Dt} (w : Wd F ⟨A, G, M, S⟩ H σ) (hp : M[a]? = some (p, .lst (ds.map Sl.d))) (hq : M[b]? = some (q, .lst (es.map Sl.d))) (hab : a ≠ b)
    (hf : EvP F ⟨A, G, M, S⟩ ta (.v (.ref q))) (hr : EvP F ⟨A, G, M, S⟩ tb (.v (.ref p))) (he : EvR F ⟨A, G, M, S⟩ te (fun s => ∃ r : Int, 0 ≤ r ∧ r < ds.length ∧ s = .d (.int r))) (hz : es.length < 100000) (hz2 : ds.length ≤ 100000)
    (k : ∀ (i : Nat) d H', ds[i]? = some d → Wd F ⟨A, G, (M.set a (p, .lst ((ds.eraseIdx i).map Sl.d))).set b (q, .lst ((es ++ [d]).map Sl.d)), S⟩ H' σ → D.nx σ H') :
    tDrop (tBM K "list" rAppend ta (tCons (tBM K "list" rPopAt tb (tCons te tNil)) tNil)) D σ H :=
  hf.run w fun x H1 w1 k1 h1 => by
    obtain rfl : x = .ref q := h1
    refine ⟨tyL w1 hq, hr.run w1 fun y H2 w2 k2 h2 => ?_⟩
    obtain rfl : y = .ref p := h2
    refine ⟨tyL w2 hp, he.run w2 fun s hs v H3 w3 k3 h3 => ?_⟩
    obtain ⟨r, r0, r1, rfl⟩ := hs
    obtain ⟨_, xs, e1, e2⟩ := w3.cell hp
    have hn := e2.length
    rw [List.length_map] at hn
    have hlt : r.toNat < ds.length := by omega
    have hd : ds[r.toNat]? = some ds[r.toNat] := List.getElem?_eq_getElem hlt
    obtain ⟨z, hz1, hz3⟩ := e2.get (i := r.toNat) (s := .d ds[r.toNat]) (by rw [List.getElem?_map, hd]; rfl)
    refine ⟨p, xs, r, r.toNat, z, rfl, by rw [SlOk.int h3], e1, by omega, by omega, by rw [← hn]; exact seqIx r0 r1, hz1, ?_⟩
    obtain ⟨w4, k4⟩ := w3.writeL (ss' := (ds.eraseIdx r.toNat).map Sl.d) (xs' := xs.eraseIdx r.toNat) hp (DqL.slAll (DqL.eraseIdx _ (SlAll.dqL e2)))
    have hq' : (M.set a (p, Cell.lst ((ds.eraseIdx r.toNat).map Sl.d)))[b]? = some (q, .lst (es.map Sl.d)) := by rw [List.getElem?_set_ne hab]; exact hq
    obtain ⟨_, ys, e3, e4⟩ := w4.cell hq'
    refine ⟨q, ys, z, rfl, rfl, e3, ?_, ?_⟩
    · have := e4.length
      rw [List.length_map] at this
      rw [← this]
      exact Nat.lt_of_lt_of_le hz (by decide)
    · obtain ⟨w5, k5⟩ := w4.writeL (ss' := (es ++ [ds[r.toNat]]).map Sl.d) hq' (by rw [List.map_append]; exact Paired.snoc1 e4 (hz3.mono k4))
      exact k r.toNat _ _ hd w5
theorem atG {α : Type} {xs : List α} {z : Int} {j : Nat} {v : α} (e : z = (j : Int)) (h : xs[j]? = some v) : atI xs z = some v := by
  subst e
  unfold atI
  have hl := (List.getElem?_eq_some_iff.mp h).1
  unfold ixN
  rw [if_pos (by omega), if_pos (by omega)]
  exact h
end
end DL

set_option Elab.async false
set_option linter.all false
set_option maxRecDepth 100000
set_option maxHeartbeats 1000000
/-! own exceptions over an own class over ValueError, whose __init__ begins with super().__init__('..') and then sets one field -/
namespace DL
open PySem PySem.Spec PyProof.Rows L2 PySem.Calls
section
variable {prog : Program} {w : World} {A : Around} {E : Value → Shared → Prop} {h : Heap} {g : Array GenState} {d : Drawn} {t : Nat} {os : OsState}
/-- ValueError.__init__, bound to an exception, called -/
theorem mw_call {nm q : Str} {C N u e t0 : Addr} {bs bm : List Value} {hdct : Bool} {sn : List Str} {sub : List Value} {ab : Bool} {col : Option Bool} {dd : Option Addr} {k0 k1 k2 k3 k5 : Option Value} {rest : List Value} {Q : Value → Shared → Prop}
    (hC : h.get? C = some (excClassObj nm q C N bs bm hdct sn sub ab col dd k0 k1 k2 k3 k5 "ValueError.__new__")) (he : h.get? e = some (PySem.HandSPX.excO C t0)) (hu : h.get? u = some (PySem.W.kxs_mw "ValueError.__init__" e)) (hz : rest.length ≤ sizeLine)
    (hq : ∀ h' t1, (∀ b o, b ≠ e → h.get? b = some o → h'.get? b = some o) → h'.get? e = some (PySem.HandSPX.excO C t1) → Q .none ⟨h', g, d, t, os⟩) :
    wpAny (model prog w) A (call (.ref u) rest) Q E ⟨h, g, d, t, os⟩ := by
  apply wpAny_call; apply codeAny_of_tree
  show wpAny _ A.in1 (callAny (.ref u) ⟨rest, []⟩) _ _ _
  simp only [callAny]
  refine wpAny_bind (wpAny_load hu ?_)
  simp only [PySem.W.kxs_mw, show (Value.type "method-wrapper" == Value.type "method" || Value.type "method-wrapper" == Value.type "builtin_function_or_method" || Value.type "method-wrapper" == Value.type "method-wrapper") = true from by decide, if_true]
  refine PySem.W.KFB.if_so (by decide) ?_
  refine wpAny_bind (PySem.W.check_bound_init PySem.F.excBase_ValueError.toExcCallFacts hC he rfl (wpAny_bind (wpAny_pure (wpAny_pure ?_))))
  refine ⟨plainId_quiet PySem.F.excBase_ValueError.init.plain _, codeAny_builtin PySem.F.excBase_ValueError.initEntry ?_⟩
  exact PySem.W.exc_init_tree (cls := .ref C) (t0 := t0) (dv := none) (c2 := .none) (c3 := .none) (b4 := .bool false) he hz fun h' k' e' _ => hq h' _ k' e'
end

/-- what the written part says of such a class at C and of its __init__ at fI -/
structure SupC (P : Program) (K : PySem.W.Frag) (mg : Str → Option Value) (C fI : Addr) (fd : FuncData) (st : Stmt) (qual : Str) : Prop where
  fn : ∃ (oc : Value) (od : Option Addr) (dV kV doc pm : Value) (an : Option Addr) (cda : Addr) (ct : Value) (osl : Array (Option Value)) (cc : Addr) (ccl : Value) (cdd : Option Addr) (vs : Array Value) (ccs : Array (Option Value)) (file : Str) (tf : Tok) (cl : Value) (cld : Option Addr) (csl : Array (Option Value)),
    fd = PySem.W.ksFn "__init__" qual (defArgs st) (defBody st) (defScope st) dV kV doc pm an (.ref cda) ct cc ∧ K.lookup fI = some ⟨oc, od, .func fd, osl⟩ ∧ PySem.W.codeIn K (.ref cda) qual = true ∧ K.lookup cda = some ⟨ccl, cdd, .fields vs, ccs⟩ ∧ vs[2]? = some (.str file tf) ∧ ((P.main.file : Str) == file) = true ∧ K.lookup cc = some ⟨cl, cld, .cell (some (.ref C)), csl⟩
  cls : OexC K C
  slf : PySem.W.mroIn K C (.ref C) = some true
  sup : PySem.W.ks_superIn K C C "__init__" = some (some (.builtin "ValueError.__init__"))
  sub : PySem.W.subIn K (.ref C) (.type "ValueError") = some true
  any : PySem.W.nsIn K cStatics "thirdparty.any" = some none
  nsup : mg "super" = none
  top : (P.main.scope.names.lookup ("super" : Str)).isSome = false
/-- .. and what its text is -/
structure SupB (st : Stmt) (par fld : Str) : Prop where
  body : ∃ (msg : Str) (j : Nat) (p0 p1 p2 p3 p4 p5 q1 q2 q3 q4 : Pos), defBody st = [.Expr (.Call (.Attribute (.Call (.Name "super" p0) [] [] p1) "__init__" p2) [.Constant (.str msg) j p3] [] p4) p5, .Assign [.Attribute (.Name "self" q1) fld q2] (.Name par q3) q4] ∧
    ∀ env : Env, ∃ pl : Sem Bool, eval (.Call (.Attribute (.Call (.Name "super" p0) [] [] p1) "__init__" p2) [.Constant (.str msg) j p3] [] p4) env = (attributeBase (.Call (.Name "super" p0) [] [] p1) "__init__" env (eval (.Call (.Name "super" p0) [] [] p1) env) >>= fun ov => standAt p2.atName >>= fun _ => holding [ov] (getMethod ov "__init__" pl) >>= fun fx => callWith p4 fx.1 fx.2 (backTo p4 (starEach [.Constant (.str msg) j p3] env)) [])
  hd : ∃ ar, ((defArgs st).posonlyargs ++ (defArgs st).args).head? = some ar ∧ ar.arg = "self"
  kind : (defScope st).kind = .function
  co : (defScope st).isCoroutine = false
  gen : (defScope st).isGenerator = false
  cell : ∀ x ∈ (defScope st).names, x.2 ≠ .cell
  free : ∀ x ∈ (defScope st).names, x.2 = .free → x.1 = "__class__"
  l1 : (defScope st).names.lookup ("self" : Str) = some .local
  l2 : (defScope st).names.lookup par = some .local
  l3 : (defScope st).names.lookup ("super" : Str) = some .globalImplicit
  l4 : (defScope st).names.lookup ("__class__" : Str) = some .free
  ne : par ≠ "self"
  nd : (par == ("__debug__" : Str)) = false
  nc : (par == ("__classdict__" : Str)) = false
abbrev spIni (C : Addr) (fld : Str) : Sp := fun vs H Q _ => ∃ (x : Addr) (y : V), vs = [.ref x, y] ∧ H x = some (exo x C none) ∧ ∀ dx, H dx = none → dx ≠ x → Q .non (upd (upd H dx (exd dx [(fld, y)])) x (exo x C (some dx)))
section
variable {P : Program} {w : World} {K : PySem.W.Frag} {mg : Str → Option Value} {base : Heap} {C fI : Addr} {fd : FuncData} {st : Stmt} {qual par fld : Str}
/-- the context of its body -/
def cxSup (P : Program) (w : World) (K : PySem.W.Frag) (mg : Str → Option Value) (base : Heap) (N : List Str) (env : Env) (A : Around) (outer : List Env) (s : Shared) (H : Hp) (xe : Value → Shared → Prop) : Cx where
  prog := P
  w := w
  K := K
  mg := mg
  base := base
  A := A.deeper env
  N := N
  s_0 := s
  H_0 := H
  env := env
  outer := outer
  stack := env :: outer
  ex := []
  calm := true
  fn := fun _ => false
  pn := []
  xe := xe
theorem inv_sup {cda cc : Addr} {A : Around} {outer : List Env} {s : Shared} {H : Hp} {xe : Value → Shared → Prop} {x0 x1 : Value} {v0 v1 : V} {h0 : Heap} {tk : Nat} {cl : Value} {cld : Option Addr} {csl : Array (Option Value)} (B : SupB st par fld) (hd : A.handled = none) (e0 : Env0 P w K mg base A outer s H)
    (kc : K.lookup cc = some ⟨cl, cld, .cell (some (.ref C)), csl⟩) (r0 : RelV v0 x0) (r1 : RelV v1 x1)
    (hns : h0.Ns s.heap.objs.size (fun x => ([("self", x0), (par, x1)] : List (Str × Value)).reverse.lookup x)) (hk : ∀ b o, s.heap.get? b = some o → h0.get? b = some o) :
    Inv (cxSup P w K mg base ["self", par] (PySem.W.ksEnv qual (defScope st) s.heap.objs.size fI (.ref cda) cc) A outer s H xe) [] [some v0, some v1] H { s with heap := h0, toks := tk } := by
  have none_in : ∀ (b : Addr) {Q : Prop}, b ∈ ([] : List Addr) → Q := fun b Q z => absurd z (by simp)
  have kb : base.get? cc = some ⟨cl, cld, .cell (some (.ref C)), csl⟩ := e0.mod.kin _ _ kc
  have onl : ∀ (x : Str) (c : Addr), ([("__class__", cc)] : List (Str × Addr)).lookup x = some c → x = "__class__" ∧ c = cc := fun x c h => by
    rcases Decidable.em (x = "__class__") with hx | hx
    · subst hx
      have h' : some cc = some c := h
      exact ⟨rfl, (Option.some.inj h').symm⟩
    · have hb : (x == ("__class__" : Str)) = false := by simpa using hx
      simp [List.lookup, hb] at h
  refine ⟨⟨e0.mod, B.kind, rfl, rfl, Nat.le_refl _, fun x y c h1 h2 => ?_, fun x hx => ?_, fun x c h _ => absurd h (by simp [cxSup]), fun _ => hd, Around.frames_deeper e0.frames, .inr ⟨rfl, rfl⟩, fun b z => none_in b z, e0.bs, e0.bsz, fun b _ _ z => none_in b z, fun b z => none_in b z, e0.funs, e0.frf⟩,
    rfl, e0.bare, Un.kept hk, ⟨_, hns, fun i x v h1 h2 h3 => ?_⟩, fun x c h => ?_, e0.hok.fresh (Nat.le_refl _), fun x c h => ?_, fun p hp => absurd (show p ∈ ([] : List (Addr × Obj)) from hp) (by simp), e0.hok.kept hk, rfl⟩
  · rw [(onl x c h1).1, (onl y c h2).1]
  · have hx' : (defScope st).names.lookup x = some .cell ∨ (defScope st).names.lookup x = some .free := hx
    rcases hx' with hx' | hx'
    · exact absurd rfl (B.cell _ (PySem.mem_of_lookup hx'))
    · obtain rfl := B.free _ (PySem.mem_of_lookup hx') rfl
      exact ⟨cc, rfl⟩
  · match i, h1, h2 with
    | 0, h1, h2 =>
      obtain rfl : "self" = x := Option.some.inj h1
      obtain rfl : v0 = v := Option.some.inj (Option.some.inj h2)
      refine ⟨x0, r0, .inl ⟨B.l1, ?_⟩⟩
      have hb : (("self" : Str) == par) = false := by simpa using B.ne.symm
      show ([(par, x1), ("self", x0)] : List (Str × Value)).lookup ("self" : Str) = some x0
      simp [List.lookup, hb]
    | 1, h1, h2 =>
      obtain rfl : par = x := Option.some.inj h1
      obtain rfl : v1 = v := Option.some.inj (Option.some.inj h2)
      refine ⟨x1, r1, .inl ⟨B.l2, ?_⟩⟩
      show ([(par, x1), ("self", x0)] : List (Str × Value)).lookup par = some x1
      simp [List.lookup]
    | n + 2, h1, _ => exact absurd (show (["self", par] : List Str)[n + 2]? = some x from h1) (by simp)
  · obtain ⟨_, rfl⟩ := onl x c h
    exact ⟨_, _, hk _ _ (e0.bs _ _ kb).1, rfl⟩
  · obtain ⟨_, rfl⟩ := onl x c h
    exact (e0.bs _ _ kb).2

theorem ini_ok (T : SupC P K mg C fI fd st qual) (B : SupB st par fld) (no : PySem.W.findIn K (.ref C) fld = some none) : FnOk P w K mg base CX0 1 fI fd ["self", par] (spIni C fld) := by
  obtain ⟨oc, od, dV, kV, doc, pm, an, cda, ct, osl, cc, ccl, cdd, vs, ccs, file, tf, cl, cld, csl, rfl, lk, hcd, kcode, hvs, hfile, kc⟩ := T.fn
  obtain ⟨msg, j, p0, p1, p2, p3, p4, p5, q1, q2, q3, q4, hbody, heval⟩ := B.body
  obtain ⟨ar, har, hself⟩ := B.hd
  obtain ⟨nm, q', N, bs, bm, sn, sub, ab, col, dd, k0, k1, k2, k3, k5, hC, hbm⟩ := T.cls.cls
  refine ⟨fun vs H Q E h => ?_, fun A outer s H args us ws Q E hr e0 hb r hsp => ?_⟩
  · obtain ⟨x, y, rfl, _⟩ := h
    rfl
  obtain ⟨x, y, rfl, hx, q⟩ := hsp
  obtain ⟨u0, u1, rfl⟩ : ∃ u0 u1, us = [u0, u1] := by
    cases r with
    | cons _ r => cases r with
      | cons _ r => cases r; exact ⟨_, _, rfl⟩
  obtain rfl : u0 = .ref x := by cases r with | cons r0 _ => exact r0
  have ry : RelV y u1 := by cases r with | cons _ r => cases r with | cons r1 _ => exact r1
  have KX : K.In s.heap := e0.mod.kin.keeps fun b o e => (e0.bs b o e).1
  have lim : s.heap.NoLimit := e0.mod.nolimit.keeps fun b o e => (e0.bs b o e).1
  refine ks_codeAny_call_defAt (fd := PySem.W.ksFn "__init__" qual (defArgs st) (defBody st) (defScope st) dV kV doc pm an (.ref cda) ct cc) (body := defBody st) (binds := [("self", .ref x), (par, u1)]) hr.depth (KX _ _ lk) rfl lim (PySem.W.codeRec_of KX hcd) rfl hb B.cell (fun z hz => ?_) (fun h0 hns hk => ?_) B.co B.gen B.kind
  · rcases List.mem_cons.mp hz with rfl | hz
    · exact B.l1
    · rw [List.mem_singleton] at hz; subst hz; exact B.l2
  have I0 := inv_sup (P := P) (w := w) (K := K) (mg := mg) (base := base) (C := C) (fI := fI) (qual := qual) (tk := s.toks + 2) (cda := cda) (xe := fun e s' => wpAny (model P w) (A.deeper (PySem.W.ksEnv qual (defScope st) s.heap.objs.size fI (.ref cda) cc)) (leaving (PySem.W.ksEnv qual (defScope st) s.heap.objs.size fI (.ref cda) cc) e) (fun _ s'' => CX0 outer H s E e s'') (fun e' s'' => CX0 outer H s E e' s'') s') B hr.hd e0 kc (show RelV (.ref x) (.ref x) from rfl) ry hns hk
  rw [hbody]
  obtain ⟨pl, hev⟩ := heval (callEnv (PySem.W.ksFn "__init__" qual (defArgs st) [.Expr (.Call (.Attribute (.Call (.Name "super" p0) [] [] p1) "__init__" p2) [.Constant (.str msg) j p3] [] p4) p5, .Assign [.Attribute (.Name "self" q1) fld q2] (.Name par q3) q4] (defScope st) dV kV doc pm an (.ref cda) ct cc) s.heap.objs.size fI)
  obtain ⟨t1, ho⟩ := exo_at I0.hok hx
  have hint : interactive (callEnv (PySem.W.ksFn "__init__" qual (defArgs st) [.Expr (.Call (.Attribute (.Call (.Name "super" p0) [] [] p1) "__init__" p2) [.Constant (.str msg) j p3] [] p4) p5, .Assign [.Attribute (.Name "self" q1) fld q2] (.Name par q3) q4] (defScope st) dV kV doc pm an (.ref cda) ct cc) s.heap.objs.size fI) = false := by
    show ((defScope st).kind == _ && _) = false
    rw [B.kind]; rfl
  have K0 : K.In h0 := KX.keeps hk
  obtain ⟨mb, hblt, hboot⟩ := e0.mod.blt
  have kb0 : ∀ b o, base.get? b = some o → h0.get? b = some o := fun b o e => hk b o (e0.bs b o e).1
  have hD0 := K0 _ _ hC
  have hclD : PySem.W.clsIn K C = some { name := nm, bases := bs, mro := .ref C :: bm, ns := N, qualname := q', hasDict := true, slotNames := sn, subclasses := sub, abstract := ab, collection := col, hasDel := false } := by unfold PySem.W.clsIn; rw [hC] <;> rfl
  refine ks_wpAt_execs_cons (ks_wpAt_Expr_any (ks_wpAt_MethodCall (ks_wpAt_super_base (env := PySem.W.ksEnv qual (defScope st) s.heap.objs.size fI (.ref cda) cc) B.l3 B.l4 (by decide) rfl (K0 _ _ lk) rfl har rfl (K0 _ _ kcode) rfl hvs hfile T.top ?_) (pl := pl) (he := hev)) (hi := hint))
  refine PySem.W.ks_loadName_global B.kind B.l3 (loadGlobal_builtin (env := PySem.W.ksEnv qual (defScope st) s.heap.objs.size fI (.ref cda) cc) (e0.mod.glob.keeps kb0) T.nsup (hblt.keeps kb0) ((hboot ("super" : Str) (by decide +kernel)).trans (show bootBuiltins ("super" : Str) = some (.type "super") from by decide +kernel)) ⟨rfl, ?_⟩)
  refine wpAny_loadName_free B.kind B.l4 rfl ⟨_, K0 _ _ kc, rfl⟩ ?_
  rw [hself]
  refine wpAny_loadName_local (v := .ref x) B.kind B.l1 hns (by
    have hb : (("self" : Str) == par) = false := by simpa using B.ne.symm
    show ([(par, u1), ("self", .ref x)] : List (Str × Value)).lookup ("self" : Str) = some (.ref x)
    simp [List.lookup, hb]) ?_
  refine PySem.ks_wpAny_isType_cls hD0 rfl ⟨rfl, ?_⟩
  refine PySem.ks_wpAny_call_super hD0 rfl ho rfl (fun c z => by cases z) (PySem.W.looks_mroIn K0 T.slf) (fun h1 hso k1 => ?_)
  have K1 : K.In h1 := K0.keeps k1
  have hx1 := k1 _ _ ho
  have I1 : PySem.W.InstAt h1 x (PySem.HandSPX.excO C t1) C none := ⟨hx1, rfl, rfl, trivial⟩
  refine PySem.W.kxs_getMethod PySem.W.kxs_ValueError hso (PySem.W.looks_opaque K1 T.any) (l₀ := .ref C :: bm) ?_ rfl K1 (by have z := T.sup; unfold PySem.W.ks_superIn at z; rw [hclD] at z; exact z) (I1.type.andThen (PySem.W.looks_subIn K1 T.sub)) (PySem.W.ks_ne K1 I1 hclD) (by decide) ?_
  · exact fun A Q E s k q => wpAny_bind ((PySem.W.looks_clsIn K1 hclD) A _ E s k (wpAny_pure q))
  show wpAny _ _ (callWith p4 (.ref h1.objs.size) [] (backTo p4 (starEach [.Constant (.str msg) j p3] _)) []) _ _ _
  refine PySem.W.kxs_callWith (i := "ValueError.__init__") (x := x) rfl (evalArgs_plain (Calls.spliced_cons (Calls.Constant_str (k := j) (pos := p3) (Calls.spliced_nil ⟨?_, ?_⟩))))
  · exact Heap.get?_push_size _ rfl
  refine mw_call (t0 := t1) ((K1 _ _ hC) |> Heap.get?_push_of_some _) (Heap.get?_push_of_some _ hx1) (Heap.get?_push_size _ rfl) (by show 1 ≤ sizeLine; rw [sizeLine_eq]; decide) fun h3 t3 k3 hx3 => ?_
  have kall : ∀ b o, b ≠ x → h0.get? b = some o → h3.get? b = some o := fun b o hbx hbo => k3 b o hbx (Heap.get?_push_of_some _ (k1 b o hbo))
  have J := I0.write (t' := s.toks + 2 + 1 + 1) (x := x) (e := x) (o := exo x C none) (by rw [hx]; exact True.intro) (.inl rfl) kall ⟨_, hx3⟩ (exo_ok hx3)
  have eu : upd H x (exo x C none) = H := by
    funext b
    rcases Decidable.em (b = x) with hb | hb
    · rw [hb, upd_same, hx]
    · exact upd_ne hb
  rw [eu] at J
  have ht := pss_one (ps_ost (X := cxSup P w K mg base ["self", par] (PySem.W.ksEnv qual (defScope st) s.heap.objs.size fI (.ref cda) cc) A outer s H (fun e s' => wpAny (model P w) (A.deeper (PySem.W.ksEnv qual (defScope st) s.heap.objs.size fI (.ref cda) cc)) (leaving (PySem.W.ksEnv qual (defScope st) s.heap.objs.size fI (.ref cda) cc) e) (fun _ s'' => CX0 outer H s E e s'') (fun e' s'' => CX0 outer H s E e' s'') s')) (f := fld) (p' := q2) (pos := q4) (pv 0 (x := "self") (pos := q1) rfl (.inl B.l1) (by decide) (by decide)) (pv 1 (x := par) (pos := q3) rfl (.inl B.l2) B.nd B.nc) rfl)
  refine wpAt_of_wpAny (wpAny_mono (ht.run [] _ [some (.ref x), some y] H { nx := fun _ H' => Q .non H', rt := Q } J ?_) (fun fl s' hs => ?_) fun e s' hs => hs)
  · exact ⟨y, rfl, .ref x, rfl, x, C, rfl, T.cls, no, .inl ⟨hx, fun dx n ne => q dx n ne⟩⟩
  cases fl with
  | ret u =>
    obtain ⟨v, σ', H', J', rv, q'⟩ := hs
    exact ⟨v, H', J'.os, J'.bare, J'.base, J'.hok, rv, q'⟩
  | next =>
    obtain ⟨σ', H', J', q'⟩ := hs
    exact ⟨.non, H', J'.os, J'.bare, J'.base, J'.hok, rfl, q'⟩
  | brk => obtain ⟨_, _, _, z⟩ := hs; exact z.elim
  | cont => obtain ⟨_, _, _, z⟩ := hs; exact z.elim
end
end DL

set_option Elab.async false
set_option linter.all false
set_option maxRecDepth 100000
set_option maxHeartbeats 1000000
namespace DL
open PySem PySem.Spec PyProof.Rows L2
section
variable {F : Fx} {c c' : Ct} {H H' : Hp} {σ : St} {D : Ends} {te ta tb to ti : TE} {s : Sl} {K : PySem.W.Frag} {u : TS} {R R0 : Sl → Prop} {tl th : TO} {lo hi : Option Int}
/-- a slice of one of several lists -/
theorem r_slL (h : EvR F c te R0) (h1 : EvO F c tl lo) (h2 : EvO F c th hi) (hr : ∀ s, R0 s → ∃ ds, s = .d (.lst ds) ∧ R (.d (.lst (cutG ds lo hi)))) : EvR F c (tSl (rSlL K) te tl th) R := fun c' x H σ w Q q =>
  h c' x H σ w _ fun s hs v H1 w1 k1 g1 => h1 c' x H1 σ w1 _ fun H2 w2 k2 => h2 c' x H2 σ w2 _ fun H3 w3 k3 => by
    obtain ⟨ds, rfl, hR⟩ := hr s hs
    obtain ⟨p, xs, e1, n1, z1, z2⟩ := (g1.mono (k2.trans k3)).lst
    refine ⟨p, xs, e1, SqL.of z1, fun r hr => ?_⟩
    obtain ⟨w4, k4⟩ := w3.new hr (.lst (cutV xs lo hi))
    obtain ⟨l, n⟩ := off_new w3 (o := .lst (cutV xs lo hi)) hr
    exact q _ hR _ _ w4 ((k1.trans (k2.trans k3)).trans k4) (Dq.lst n ((z2.cut lo hi).mono l))
/-- the first so many, drawn how many -/
theorem r_slH {ds : List Dt} (h : EvP F c te (.d (.lst ds))) (h2 : EvR F c ti R0) (hr : ∀ s, R0 s → ∃ i, s = .d (.int i) ∧ R (.d (.lst (cutG ds none (some i))))) : EvR F c (tSl (rSlL K) te tNoPart (tPart ti)) R := fun c' x H σ w Q q =>
  h c' x H σ w _ fun v H1 w1 k1 g1 => h2 c' x H1 σ w1 _ fun s hs v2 H2 w2 k2 g2 => by
    obtain ⟨i, rfl, hR⟩ := hr s hs
    refine ⟨i, g2.int, ?_⟩
    obtain ⟨p, xs, e1, n1, z1, z2⟩ := (g1.mono k2).lst
    refine ⟨p, xs, e1, SqL.of z1, fun r hr => ?_⟩
    obtain ⟨w4, k4⟩ := w2.new hr (.lst (cutV xs none (some i)))
    obtain ⟨l, n⟩ := off_new w2 (o := .lst (cutV xs none (some i))) hr
    exact q _ hR _ _ w4 ((k1.trans k2).trans k4) (Dq.lst n ((z2.cut none (some i)).mono l))
/-- a slice of the script -/
theorem ev_slRaw {a : Addr} {ns : List Int} {H0 : Hp} (hS : SqL K H0 a (ns.map V.int)) (h : EvP ⟨[], H0⟩ c te (.v (.ref a))) (h1 : EvO ⟨[], H0⟩ c tl lo) (h2 : EvO ⟨[], H0⟩ c th hi) :
    EvP ⟨[], H0⟩ c (tSl (rSlL K) te tl th) (.d (.lst (dInts (cutG ns lo hi)))) := fun c' x H σ w Q q =>
  h c' x H σ w _ fun v H1 w1 k1 g1 => h1 c' x H1 σ w1 _ fun H2 w2 k2 => h2 c' x H2 σ w2 _ fun H3 w3 k3 => by
    obtain rfl : v = .ref a := g1
    refine ⟨a, _, rfl, (Same.seq (fun b o e => w3.fr b o (by simp) e) hS), fun r hr => ?_⟩
    obtain ⟨w4, k4⟩ := w3.new hr (.lst (cutV (ns.map V.int) lo hi))
    obtain ⟨l, n⟩ := off_new w3 (o := .lst (cutV (ns.map V.int) lo hi)) hr
    refine q _ _ w4 ((k1.trans (k2.trans k3)).trans k4) (Dq.lst n ?_)
    have e : cutV (ns.map V.int) lo hi = (cutG ns lo hi).map V.int := by
      unfold cutV cutG
      rw [List.length_map, ← List.map_drop, ← List.map_take]
    rw [e]
    exact dq_ints _
/-- the source of draws is made from the script -/
def spHeap (K : PySem.W.Frag) : Sp := fun vs H Q _ => ∃ (a : Addr) (ns : List Int), vs = [.ref a] ∧ SqL K H a (ns.map V.int) ∧ ns.length ≤ 63 ∧ ∀ hp lp H', H hp = none → H lp = none → hp ≠ lp → Le H H' → CellOk [] H' hp (.heap lp) → Q (.ref hp) H'
theorem s_retHeap {L : List Int} {z : Int} {H0 : Hp} {Q : VK} (w : Wd ⟨[], H0⟩ c H σ) (h1 : EvP ⟨[], H0⟩ c ta (.d (.lst (dInts L)))) (h2 : EvP ⟨[], H0⟩ c tb (.d (.int z))) (h3 : ∀ x ∈ L, 0 ≤ x) (h4 : 0 ≤ z) (h5 : L.length ≤ 100)
    (q : ∀ hp lp H', H0 hp = none → H0 lp = none → hp ≠ lp → Le H0 H' → CellOk [] H' hp (.heap lp) → Q (.ref hp) H') (hD : D.rt = Q := by rfl) : tRet (tLst (tCons (tRevL K ta) (tCons tb tNil))) D σ H := by
  subst hD
  refine h1.run w fun v H1 w1 k1 g1 => ?_
  obtain ⟨p, xs, e1, n1, z1, z2⟩ := g1.lst
  refine ⟨p, xs, e1, SqL.of z1, fun r hr => ?_⟩
  obtain ⟨w2, k2⟩ := w1.new hr (.lst xs.reverse)
  refine h2.run w2 fun v3 H3 w3 k3 g3 => ?_
  refine ⟨by show 2 ≤ sizeLine; decide, fun hp hh => ?_⟩
  have e3 : v3 = .int z := g3.int
  have hx : xs = L.map V.int := z2.ints
  have hr3 : H3 r = some (.lst xs.reverse) := (k3 r _ (w1.free hr) upd_same).2
  have hne : hp ≠ r := fun e => by rw [e, hr3] at hh; cases hh
  refine q hp r _ (w3.free0 hh) (w1.free0 hr) hne (fun b o e => ?_) ⟨L.reverse, z, ?_, ?_, fun x hx => h3 x (List.mem_reverse.mp hx), h4, by rw [List.length_reverse]; exact h5⟩
  · have hb := w3.fr b o (by simp) e
    rw [upd_ne (fun e2 => by rw [e2, hh] at hb; cases hb)]
    exact hb
  · rw [upd_same, e3]
  · rw [upd_ne hne.symm, hr3, hx, List.map_reverse]
theorem q_heap {S : List Sl} {i : Nat} {a : Addr} {ns : List Int} {H0 : Hp} {E : XK} (hS : SqL K H0 a (ns.map V.int)) (hl : ns.length ≤ 63) (w : Wd ⟨[], H0⟩ ⟨[], [], [], S⟩ H σ) (h : EvA ⟨[], H0⟩ ⟨[], [], [], S⟩ tr [.v (.ref a)])
    (k : ∀ hp lp H' σ', Wd ⟨[], H0⟩ ⟨[hp, lp], [], [(hp, .heap lp), (lp, .held hp)], S.set i (.v (.ref hp))⟩ H' σ' → u D σ' H') : tSeq (tAsg (tCall (spHeap K) [] E tr) (gName i)) u D σ H := by
  refine h _ (Xt.refl _) H σ w _ fun vs H1 w1 k1 h1 => ?_
  rw [List.append_nil]
  cases h1 with
  | cons e r =>
    cases r
    cases e
    refine ⟨a, ns, rfl, Same.seq (fun b o e => w1.fr b o (by simp) e) hS, hl, fun hp lp H2 n1 n2 ne le hc => ?_⟩
    refine k hp lp _ _ ?_
    have w2 : Wd ⟨[], H0⟩ ⟨[], [], [], S.set i (.v (.ref hp))⟩ H2 (σ.set i (some (.ref hp))) := (w1.le le).set (s := .v (.ref hp)) rfl i
    obtain ⟨L, z, c1, c2, c3⟩ := hc
    have kp : Kp [] [hp, lp] H1 H2 := by
      intro b o _ hb
      refine ⟨fun hm => ?_, le b o hb⟩
      rcases List.mem_cons.mp hm with e2 | hm
      · rw [e2, n1] at hb; cases hb
      · rw [List.mem_singleton] at hm
        rw [hm, n2] at hb; cases hb
    have sl := Paired.mapP w1.sl fun _ _ q => SlotOk.mono kp q
    have w3 : Wd ⟨[], H0⟩ ⟨[hp, lp], [], [(hp, .heap lp), (lp, .held hp)], S⟩ H2 σ := {
      fr := w2.fr
      av := fun b hb => by
        rcases List.mem_cons.mp hb with rfl | hb
        · exact ⟨_, c1⟩
        · rw [List.mem_singleton] at hb; subst hb; exact ⟨_, c2⟩
      wA := fun b hb => by simp at hb
      nA := by simp [ne]
      mA := fun e he => by
        rcases List.mem_cons.mp he with rfl | he
        · simp
        · rw [List.mem_singleton] at he; subst he; simp
      mO := fun e he => by
        rcases List.mem_cons.mp he with rfl | he
        · exact ⟨L, z, c1, c2, c3⟩
        · rw [List.mem_singleton] at he; subst he; trivial
      mW := fun e he => by
        rcases List.mem_cons.mp he with rfl | he
        · exact .inr (w1.free0 n1)
        · rw [List.mem_singleton] at he; subst he; exact .inr (w1.free0 n2)
      nd := by simp [ne]
      hl := fun e he p hp' => by
        rcases List.mem_cons.mp he with rfl | he
        · cases hp'; simp
        · rw [List.mem_singleton] at he; subst he; cases hp'
      gs := fun e he => by simp at he
      sl := sl }
    exact w3.set (s := .v (.ref hp)) rfl i
end
end DL
namespace DL
open PySem PySem.Spec PyProof.Rows L2
theorem wd_start0 {N : List Str} {vs : List V} {H : Hp} {S : List Sl} (hS : S = vs.map Sl.v ++ List.replicate (N.length - vs.length) Sl.u) : Wd ⟨[], H⟩ ⟨[], [], [], S⟩ H (L2.start N vs) where
  fr := fun b o _ h => h
  av := fun b hb => by simp at hb
  wA := fun b hb => by simp at hb
  nA := by simp
  mA := fun e he => by simp at he
  mO := fun e he => by simp at he
  mW := fun e he => by simp at he
  nd := by simp
  hl := fun e he => by simp at he
  gs := fun e he => by simp at he
  sl := by
    subst hS
    refine start_ok (N := N) (ss := vs.map Sl.v) (vs := vs) ?_ _
    induction vs with
    | nil => exact .nil
    | cons v vs ih => exact .cons rfl ih
theorem ev_iI {F : Fx} {c : Ct} {wi : TI} {ns : List Int} (h : EvI F c wi ((dInts ns).map Sl.d)) : EvI F c wi (ns.map fun k => Sl.d (.int k)) := by
  have e : (dInts ns).map Sl.d = ns.map fun k => Sl.d (.int k) := by simp [dInts]
  rw [← e]
  exact h
end DL
namespace DL
open PySem PySem.Spec PyProof.Rows L2
section
variable {F : Fx} {c c' : Ct} {H H' : Hp} {σ : L2.St} {D : Ends} {tt : TT} {t u v : TS} {RT : Bool → Prop}
/-- an if behind which both ways go on alike -/
theorem q_if1J (J : Ct → Prop) (w : Wd F c H σ) (h : EvRT F c tt RT) (h1 : RT true → ∀ H' (N : L2.St → Hp → Prop), Wd F c H' σ → (∀ c2 H2 σ2, J c2 → Wd F c2 H2 σ2 → N σ2 H2) → t { D with nx := N } σ H') (h2 : RT false → J c)
    (k : ∀ c2 H2 σ2, J c2 → Wd F c2 H2 σ2 → u D σ2 H2) : tSeq (tIfS tt t tNext) u D σ H :=
  s_ifR (D := { D with nx := u D }) w h (fun hb H1 w1 => h1 hb H1 (u D) w1 k) (fun hb H1 w1 => k c H1 σ (h2 hb) w1)
theorem q_ifJ (J : Ct → Prop) (w : Wd F c H σ) (h : EvRT F c tt RT) (h1 : RT true → ∀ H' (N : L2.St → Hp → Prop), Wd F c H' σ → (∀ c2 H2 σ2, J c2 → Wd F c2 H2 σ2 → N σ2 H2) → t { D with nx := N } σ H')
    (h2 : RT false → ∀ H' (N : L2.St → Hp → Prop), Wd F c H' σ → (∀ c2 H2 σ2, J c2 → Wd F c2 H2 σ2 → N σ2 H2) → v { D with nx := N } σ H') (k : ∀ c2 H2 σ2, J c2 → Wd F c2 H2 σ2 → u D σ2 H2) : tSeq (tIfS tt t v) u D σ H :=
  s_ifR (D := { D with nx := u D }) w h (fun hb H1 w1 => h1 hb H1 (u D) w1 k) (fun hb H1 w1 => h2 hb H1 (u D) w1 k)
/-- the last statement of a block, an if with an else -/
theorem s_ifJ (J : Ct → Prop) (w : Wd F c H σ) (h : EvRT F c tt RT) (h1 : RT true → ∀ H', Wd F c H' σ → t D σ H') (h2 : RT false → ∀ H', Wd F c H' σ → v D σ H') : tIfS tt t v D σ H := s_ifR w h h1 h2
theorem cut1 {α : Type} (xs : List α) (n : Nat) : cutG xs (some (n : Int)) none = xs.drop n := by
  unfold cutG HT.sIx
  have h1 : ¬ ((n : Int) < 0) := by omega
  simp only [if_neg h1, Int.toNat_natCast]
  rcases Nat.le_total n xs.length with h | h
  · rw [Nat.min_eq_left h, ← List.length_drop, List.take_length]
  · rw [Nat.min_eq_right h, List.drop_length, List.drop_of_length_le h]; simp
theorem cut0 {α : Type} (xs : List α) (n : Nat) : cutG xs none (some (n : Int)) = xs.take n := by
  unfold cutG HT.sIx
  have h1 : ¬ ((n : Int) < 0) := by omega
  simp only [if_neg h1, Int.toNat_natCast, List.drop_zero, Nat.sub_zero]
  rcases Nat.le_total n xs.length with h | h
  · rw [Nat.min_eq_left h]
  · rw [Nat.min_eq_right h, List.take_length, List.take_of_length_le h]
end
end DL
namespace DL
theorem ev_iL {F : Fx} {c : Ct} {wi : L2.TI} {ps : List (List PySem.Str)} (h : EvI F c wi ((ps.map fun p => Dt.lst (dStrs p)).map Sl.d)) : EvI F c wi (ps.map fun p => Sl.d (.lst (dStrs p))) := by
  have e : (ps.map fun p => Dt.lst (dStrs p)).map Sl.d = ps.map fun p => Sl.d (.lst (dStrs p)) := by rw [List.map_map]; rfl
  rw [← e]
  exact h
end DL
namespace DL
open PySem PySem.Spec PyProof.Rows L2
theorem q_parR {F : Fx} {A : List Addr} {G : List (V × Dt)} {M : List (Addr × Cell)} {S : List Sl} {H : Hp} {σ : L2.St} {D : Ends} {u : TS} {ta tb : TE} {i j : Nat} {RA : List Sl → Prop} {R2 : Sl → Sl → Prop} (w : Wd F ⟨A, G, M, S⟩ H σ) (h : EvRA F ⟨A, G, M, S⟩ (tCons ta (tCons tb tNil)) RA)
    (hr : ∀ ss, RA ss → ∃ s1 s2, ss = [s1, s2] ∧ R2 s1 s2) (k : ∀ s1 s2, R2 s1 s2 → ∀ H' σ', Wd F ⟨A, G, M, (S.set i s1).set j s2⟩ H' σ' → u D σ' H') : tSeq (tPar i j (tCons ta (tCons tb tNil))) u D σ H :=
  sq (h _ (Xt.refl _) H σ w _ fun ss hss vs H1 w1 k1 h1 => by
    obtain ⟨s1, s2, rfl, h2⟩ := hr ss hss
    cases h1 with
    | cons a r =>
      cases r with
      | cons b r =>
        cases r
        exact ⟨_, _, rfl, k s1 s2 h2 H1 _ ((w1.set a i).set (s := s2) b j)⟩)
end DL

set_option Elab.async false
set_option linter.all false
set_option maxRecDepth 100000
set_option maxHeartbeats 1000000
/-! formulas as the laws draw them -/
namespace DL
open PySem PySem.Spec PyProof.Rows L2
inductive Fm where
  | kind (z : Str)
  | many (n : Int) (f : Fm)
  | join (w : Str) (fs : List Fm)
mutual
def Fm.enc : Fm → Dt
  | .kind z => .tup [.str "kind", .str z]
  | .many n f => .tup [.str "many", .int n, f.enc]
  | .join w fs => .tup [.str w, .tup (Fm.encL fs)]
def Fm.encL : List Fm → List Dt
  | [] => []
  | f :: fs => f.enc :: Fm.encL fs
end
mutual
/-- the kinds, from left to right -/
def Fm.leaves : Fm → List Str
  | .kind z => [z]
  | .many _ f => f.leaves
  | .join _ fs => Fm.leavesL fs
def Fm.leavesL : List Fm → List Str
  | [] => []
  | f :: fs => f.leaves ++ Fm.leavesL fs
end
mutual
def Fm.nodes : Fm → Nat
  | .kind _ => 1
  | .many _ f => f.nodes + 1
  | .join _ fs => Fm.nodesL fs + 1
def Fm.nodesL : List Fm → Nat
  | [] => 0
  | f :: fs => f.nodes + Fm.nodesL fs
end
mutual
/-- as a law draws them: no path has more than m -/
def Fm.fits : Int → Fm → Prop
  | _, .kind _ => True
  | m, .many n f => 1 < n ∧ n ≤ m ∧ f.fits (m / n)
  | m, .join w fs => (w = "and" ∨ w = "or") ∧ 2 ≤ fs.length ∧ Fm.fitsL m fs
def Fm.fitsL : Int → List Fm → Prop
  | _, [] => True
  | m, f :: fs => f.fits m ∧ Fm.fitsL m fs
end
mutual
/-- how deep it is -/
def Fm.high : Fm → Nat
  | .kind _ => 1
  | .many _ f => f.high + 1
  | .join _ fs => Fm.highL fs + 1
def Fm.highL : List Fm → Nat
  | [] => 0
  | f :: fs => max f.high (Fm.highL fs)
end
theorem Fm.encL_map : ∀ fs : List Fm, Fm.encL fs = fs.map Fm.enc
  | [] => rfl
  | f :: fs => by rw [Fm.encL, Fm.encL_map fs]; rfl
theorem Fm.leavesL_flat : ∀ fs : List Fm, Fm.leavesL fs = (fs.map Fm.leaves).flatten
  | [] => rfl
  | f :: fs => by rw [Fm.leavesL, Fm.leavesL_flat fs]; rfl
theorem Fm.nodesL_sum : ∀ fs : List Fm, Fm.nodesL fs = (fs.map Fm.nodes).sum
  | [] => rfl
  | f :: fs => by rw [Fm.nodesL, Fm.nodesL_sum fs]; rfl
theorem Fm.fitsL_all {m : Int} : ∀ {fs : List Fm}, Fm.fitsL m fs ↔ ∀ f ∈ fs, f.fits m
  | [] => by simp [Fm.fitsL]
  | f :: fs => by rw [Fm.fitsL, Fm.fitsL_all (fs := fs)]; simp
mutual
theorem Fm.high_nodes : ∀ f : Fm, f.high ≤ f.nodes
  | .kind _ => Nat.le_refl _
  | .many _ f => Nat.succ_le_succ (Fm.high_nodes f)
  | .join _ fs => Nat.succ_le_succ (Fm.highL_nodes fs)
theorem Fm.highL_nodes : ∀ fs : List Fm, Fm.highL fs ≤ Fm.nodesL fs
  | [] => Nat.le_refl _
  | f :: fs => by
    have h1 := Fm.high_nodes f
    have h2 := Fm.highL_nodes fs
    rw [Fm.highL, Fm.nodesL]
    omega
end
/-- a law's formula of the kinds ys -/
structure FmOk (ys : List Str) (m d : Int) (f : Fm) : Prop where
  fit : f.fits m
  lv : f.leaves = ys
  sz : f.nodes ≤ (d.toNat + 2) * (2 * ys.length - 1)
/-- .. as a thing -/
def isFm (ys : List Str) (m d : Int) (x : Dt) : Prop := ∃ f, x = Fm.enc f ∧ FmOk ys m d f
def lotS (p : List Str) : Sl := .d (.lst (dStrs p))
/-- what comes of the lots -/
theorem lots_fm {m d : Int} : ∀ {ps : List (List Str)} {ds : List Dt}, LcR (fun p o => ∃ x, o = some x ∧ isFm p m d x) ps ds → ∃ fs : List Fm, ds = Fm.encL fs ∧ fs.length = ps.length ∧ (∀ f ∈ fs, f.fits m) ∧ Fm.leavesL fs = ps.flatten ∧ ((∀ p ∈ ps, p ≠ []) → Fm.nodesL fs + (d.toNat + 2) * ps.length ≤ (d.toNat + 2) * (2 * ps.flatten.length))
  | _, _, .nil => ⟨[], rfl, rfl, fun f hf => by simp at hf, rfl, fun _ => by simp [Fm.nodesL]⟩
  | _, _, .skip ⟨x, e, _⟩ _ => by cases e
  | _, _, @LcR.take _ _ p _ ps _ ⟨x, e, f, hx, ok⟩ r => by
    cases e
    obtain ⟨fs, h1, h2, h3, h4, h5⟩ := lots_fm r
    refine ⟨f :: fs, by rw [Fm.encL, h1, hx], by rw [List.length_cons, List.length_cons, h2], fun g hg => ?_, by rw [Fm.leavesL, h4, ok.lv]; rfl, fun hne => ?_⟩
    · rcases List.mem_cons.mp hg with rfl | hg
      · exact ok.fit
      · exact h3 g hg
    · have h6 := h5 fun q hq => hne q (List.mem_cons_of_mem _ hq)
      have h7 := ok.sz
      have h8 : 0 < p.length := List.length_pos_iff.mpr (hne p List.mem_cons_self)
      rw [Fm.nodesL, List.length_cons, List.flatten_cons, List.length_append]
      obtain ⟨j, hj⟩ : ∃ j, p.length = j + 1 := ⟨p.length - 1, by omega⟩
      rw [hj] at h7 ⊢
      have e1 : 2 * (j + 1) - 1 = 2 * j + 1 := by omega
      rw [e1] at h7
      generalize d.toNat + 2 = D at *
      have e2 : D * (2 * (j + 1 + ps.flatten.length)) = D * (2 * j + 1) + D * 1 + D * (2 * ps.flatten.length) := by rw [← Nat.mul_add, ← Nat.mul_add]; congr 1; omega
      have e3 : D * (ps.length + 1) = D * ps.length + D * 1 := Nat.mul_add _ _ _
      rw [e2, e3]
      omega
theorem fm_join {ys : List Str} {m d : Int} {w : Str} {ps : List (List Str)} {fs : List Fm} (hw : w = "and" ∨ w = "or") (h2 : 2 ≤ ps.length) (hf : ps.flatten = ys) (hne : ∀ p ∈ ps, p ≠ []) (hl : fs.length = ps.length) (h3 : ∀ f ∈ fs, f.fits m) (h4 : Fm.leavesL fs = ps.flatten)
    (h5 : Fm.nodesL fs + (d.toNat + 2) * ps.length ≤ (d.toNat + 2) * (2 * ps.flatten.length)) : FmOk ys m d (.join w fs) := by
  refine ⟨⟨hw, by omega, Fm.fitsL_all.mpr h3⟩, by rw [Fm.leaves, h4, hf], ?_⟩
  rw [Fm.nodes]
  rw [hf] at h5
  have hy : ys ≠ [] := by
    intro e
    match ps, h2, hne with
    | p :: q :: r, _, hne =>
      rw [e] at hf
      have := hne p List.mem_cons_self
      simp at hf
      exact this hf.1
  have hyl : 0 < ys.length := List.length_pos_iff.mpr hy
  obtain ⟨j, hj⟩ : ∃ j, ys.length = j + 1 := ⟨ys.length - 1, by omega⟩
  rw [hj] at h5 ⊢
  have e1 : 2 * (j + 1) - 1 = 2 * j + 1 := by omega
  rw [e1]
  have hD : 2 ≤ d.toNat + 2 := by omega
  generalize d.toNat + 2 = D at *
  have e2 : D * (2 * (j + 1)) = D * (2 * j + 1) + D := by rw [show 2 * (j + 1) = (2 * j + 1) + 1 by omega, Nat.mul_add, Nat.mul_one]
  have e3 : D * 2 ≤ D * ps.length := Nat.mul_le_mul_left _ h2
  omega
end DL
namespace DL
open PySem PySem.Spec PyProof.Rows L2
def Fm.tag : Fm → Str
  | .kind _ => "kind"
  | .many _ _ => "many"
  | .join w _ => w
def Fm.tail : Fm → List Dt
  | .kind z => [.str z]
  | .many n f => [.int n, f.enc]
  | .join _ fs => [.tup (Fm.encL fs)]
theorem Fm.enc_tag (f : Fm) : f.enc = .tup (.str f.tag :: f.tail) := by cases f <;> rfl
theorem Fm.tag_kind {m : Int} {f : Fm} (h : f.fits m) (e : f.tag = "kind") : ∃ z, f = .kind z := by
  cases f with
  | kind z => exact ⟨z, rfl⟩
  | many n f => exact absurd e (by simp only [Fm.tag]; decide)
  | join w fs =>
    have e' : w = "kind" := e
    rcases h.1 with h | h <;> rw [h] at e' <;> exact absurd e' (by decide)
theorem Fm.tag_many {m : Int} {f : Fm} (h : f.fits m) (e : f.tag = "many") : ∃ n g, f = .many n g := by
  cases f with
  | kind z => exact absurd e (by simp only [Fm.tag]; decide)
  | many n f => exact ⟨n, f, rfl⟩
  | join w fs =>
    have e' : w = "many" := e
    rcases h.1 with h | h <;> rw [h] at e' <;> exact absurd e' (by decide)
theorem Fm.tag_join {f : Fm} (h1 : f.tag ≠ "kind") (h2 : f.tag ≠ "many") : ∃ w fs, f = .join w fs := by
  cases f with
  | kind z => exact absurd rfl h1
  | many n f => exact absurd rfl h2
  | join w fs => exact ⟨w, fs, rfl⟩
theorem Fm.fits_le {m m' : Int} (h : m ≤ m') : ∀ {f : Fm}, f.fits m → f.fits m'
  | .kind _, _ => trivial
  | .many n f, ⟨h1, h2, h3⟩ => ⟨h1, Int.le_trans h2 h, Fm.fits_le (Int.ediv_le_ediv (by omega) h) h3⟩
  | .join w fs, ⟨h1, h2, h3⟩ => ⟨h1, h2, Fm.fitsL_all.mpr fun g hg => Fm.fits_le h (Fm.fitsL_all.mp h3 g hg)⟩
theorem Fm.highL_get : ∀ {fs : List Fm} {g : Fm}, g ∈ fs → g.high ≤ Fm.highL fs
  | f :: fs, g, h => by
    rw [Fm.highL]
    rcases List.mem_cons.mp h with rfl | h
    · omega
    · have := Fm.highL_get h
      omega
theorem Fm.nodesL_get : ∀ {fs : List Fm} {g : Fm}, g ∈ fs → g.nodes ≤ Fm.nodesL fs
  | f :: fs, g, h => by
    rw [Fm.nodesL]
    rcases List.mem_cons.mp h with rfl | h
    · omega
    · have := Fm.nodesL_get h
      omega
theorem Fm.nodesL_app : ∀ (fs gs : List Fm), Fm.nodesL (fs ++ gs) = Fm.nodesL fs + Fm.nodesL gs
  | [], gs => by simp [Fm.nodesL]
  | f :: fs, gs => by
    rw [List.cons_append, Fm.nodesL, Fm.nodesL, Fm.nodesL_app fs gs]
    omega
end DL
namespace DL
theorem ev_iF {F : Fx} {c : Ct} {wi : L2.TI} {fs : List Fm} (h : EvI F c wi ((Fm.encL fs).map Sl.d)) : EvI F c wi (fs.map fun g => Sl.d g.enc) := by
  have e : (Fm.encL fs).map Sl.d = fs.map fun g => Sl.d g.enc := by rw [Fm.encL_map, List.map_map]; rfl
  rw [← e]
  exact h
end DL
namespace DL
theorem Fm.nodesL_len : ∀ fs : List Fm, fs.length ≤ Fm.nodesL fs
  | [] => Nat.le_refl _
  | f :: fs => by
    have := Fm.nodesL_len fs
    have h : 1 ≤ f.nodes := by cases f <;> simp [Fm.nodes]
    rw [Fm.nodesL, List.length_cons]
    omega
end DL

set_option Elab.async false
set_option linter.all false
set_option maxRecDepth 100000
set_option maxHeartbeats 1000000
/-! the words that say a formula -/
namespace DL
open PySem PySem.Spec PyProof.Rows L2
abbrev lpS : Str := "("
abbrev rpS : Str := ")"
def par (k : Nat) (ws : List Str) : List Str := List.replicate k lpS ++ ws ++ List.replicate k rpS
def weave (w : Str) (wss : List (List Str)) : List Str := (wss.map fun x => w :: x).flatten.drop 1
mutual
/-- on: parentheses may stand where none are wanted -/
inductive Says (on : Bool) : Bool → Fm → List Str → Prop
  | kind {b : Bool} {z : Str} (k : Nat) : (on = false → k = 0) → Says on b (.kind z) (par k [z])
  | many {b : Bool} {n : Int} {f : Fm} {ws : List Str} (k : Nat) : (on = false → k = 0) → Says on true f ws → Says on b (.many n f) (par k ([((toString n : String) : Str), "of"] ++ ws))
  | join {b : Bool} {w : Str} {fs : List Fm} {wss : List (List Str)} (k : Nat) : (on = false → k = 0) → SaysL on fs wss → Says on b (.join w fs) (par k (if b then [lpS] ++ weave w wss ++ [rpS] else weave w wss))
inductive SaysL (on : Bool) : List Fm → List (List Str) → Prop
  | nil : SaysL on [] []
  | cons {f : Fm} {fs : List Fm} {ws : List Str} {wss : List (List Str)} : Says on true f ws → SaysL on fs wss → SaysL on (f :: fs) (ws :: wss)
end
mutual
theorem Says.mono {on on' : Bool} (h : on = false → on' = false) : ∀ {b : Bool} {f : Fm} {ws : List Str}, Says on' b f ws → Says on b f ws
  | _, _, _, .kind k hk => .kind k fun e => hk (h e)
  | _, _, _, .many k hk s => .many k (fun e => hk (h e)) (Says.mono h s)
  | _, _, _, .join k hk s => .join k (fun e => hk (h e)) (SaysL.mono h s)
theorem SaysL.mono {on on' : Bool} (h : on = false → on' = false) : ∀ {fs : List Fm} {wss : List (List Str)}, SaysL on' fs wss → SaysL on fs wss
  | _, _, .nil => .nil
  | _, _, .cons s r => .cons (Says.mono h s) (SaysL.mono h r)
end
theorem SaysL.snoc {on : Bool} {f : Fm} {ws : List Str} (s : Says on true f ws) : ∀ {fs : List Fm} {wss : List (List Str)}, SaysL on fs wss → SaysL on (fs ++ [f]) (wss ++ [ws])
  | _, _, .nil => .cons s .nil
  | _, _, .cons t r => .cons t (SaysL.snoc s r)
theorem par_len (k : Nat) (ws : List Str) : (par k ws).length = 2 * k + ws.length := by
  simp [par]; omega
theorem flat_snoc (w : Str) (wss : List (List Str)) (ws : List Str) : ((wss ++ [ws]).map fun x => w :: x).flatten = (wss.map fun x => w :: x).flatten ++ (w :: ws) := by simp
end DL

set_option Elab.async false
set_option linter.all false
set_option maxRecDepth 100000
set_option maxHeartbeats 1000000
/-! texts: replace, split, words -/
namespace DL
open PySem PySem.Builtin PySem.Builtin.Str PySem.StrLaws
theorem cps_app (a b : Str) : (a ++ b : Str).cps.toList = a.cps.toList ++ b.cps.toList := by
  show (a.cps ++ b.cps).toList = _
  simp
/-- y replaced by z, the first k signs skipped -/
def repL (y z : List Nat) : Nat → List Nat → List Nat
  | _, [] => []
  | k + 1, _ :: cs => repL y z k cs
  | 0, c :: cs => if y.isPrefixOf (c :: cs) then z ++ repL y z (y.length - 1) cs else c :: repL y z 0 cs
theorem repL_skip (y z : List Nat) : ∀ (cs : List Nat) (k : Nat), repL y z k cs = repL y z 0 (cs.drop k)
  | [], k => by rw [List.drop_nil]; cases k <;> rfl
  | c :: cs, 0 => by rw [List.drop_zero]
  | c :: cs, k + 1 => by rw [List.drop_succ_cons, ← repL_skip y z cs k]; rfl
theorem at_pre (x y : Str) (k : Nat) (hy : 1 ≤ y.length) : StrLaws.At x y x.length k ↔ y.cps.toList.isPrefixOf (x.cps.toList.drop k) = true := by
  rw [List.isPrefixOf_iff_prefix]
  unfold StrLaws.At subAt
  have hlen : x.length = x.cps.toList.length := by simp [Str.length]
  have hyl : y.length = y.cps.toList.length := by simp [Str.length]
  constructor
  · rintro ⟨h1, h2⟩
    have h3 : (x.cps.extract k (k + y.length)).toList = y.cps.toList := by rw [eq_of_beq h2]
    have h4 : (x.cps.extract k (k + y.length)).toList = (x.cps.toList.drop k).take y.length := by simp
    rw [← h3, h4]
    exact List.take_prefix _ _
  · intro h
    have hl := h.length_le
    rw [List.length_drop] at hl
    have h2 : (x.cps.toList.drop k).take y.length = y.cps.toList := by
      rw [hyl]
      exact (List.prefix_iff_eq_take.mp h).symm
    refine ⟨by rw [hlen]; omega, ?_⟩
    rw [beq_iff_eq]
    apply Array.toList_inj.mp
    rw [← h2]
    simp
section
variable {x y : Str} {z : List Nat}
theorem rep_step (hy : 1 ≤ y.length) {a : Nat} (ha : a < x.length) (hn : ¬ StrLaws.At x y x.length a) : ∃ c, x.cps.toList.drop a = c :: x.cps.toList.drop (a + 1) ∧ repL y.cps.toList z 0 (x.cps.toList.drop a) = c :: repL y.cps.toList z 0 (x.cps.toList.drop (a + 1)) := by
  have hlen : a < x.cps.toList.length := by simpa [Str.length] using ha
  refine ⟨x.cps.toList[a], List.drop_eq_getElem_cons hlen, ?_⟩
  have e := List.drop_eq_getElem_cons hlen
  rw [at_pre x y a hy] at hn
  rw [e] at hn ⊢
  rw [repL, if_neg hn]
theorem rep_run (hy : 1 ≤ y.length) : ∀ (d a : Nat), a + d ≤ x.length → (∀ k, a ≤ k → k < a + d → ¬ StrLaws.At x y x.length k) → repL y.cps.toList z 0 (x.cps.toList.drop a) = (x.cps.toList.drop a).take d ++ repL y.cps.toList z 0 (x.cps.toList.drop (a + d))
  | 0, a, _, _ => by simp
  | d + 1, a, h, hn => by
    obtain ⟨c, e1, e2⟩ := rep_step (z := z) hy (a := a) (by omega) (hn a (Nat.le_refl _) (by omega))
    have ih := rep_run hy d (a + 1) (by omega) fun k h1 h2 => hn k (by omega) (by omega)
    rw [e2, ih, e1, List.take_succ_cons, show a + 1 + d = a + (d + 1) by omega]
    rfl
theorem rep_at (hy : 1 ≤ y.length) {a : Nat} (h : StrLaws.At x y x.length a) : repL y.cps.toList z 0 (x.cps.toList.drop a) = z ++ repL y.cps.toList z 0 (x.cps.toList.drop (a + y.length)) := by
  have hl : a < x.cps.toList.length := by
    have := h.1
    simp [Str.length] at this hy ⊢
    omega
  have hp := (at_pre x y a hy).mp h
  have e := List.drop_eq_getElem_cons hl
  rw [e] at hp ⊢
  rw [repL, if_pos hp, repL_skip, List.drop_drop]
  have e2 : a + 1 + (y.cps.toList.length - 1) = a + y.length := by
    simp [Str.length] at hy ⊢
    omega
  rw [e2]
theorem cut_all (a : Nat) : (strSub x a x.length).cps.toList = x.cps.toList.drop a := by
  rw [strSub_toList, List.take_of_length_le]
  rw [List.length_drop]
  simp [Str.length]
theorem rep_parts {zS : Str} (hy : 1 ≤ y.length) : ∀ (cuts : List Nat) (a f : Nat), ChainG x y x.length a cuts f → (∀ k, f ≤ k → ¬ StrLaws.At x y x.length k) → (Str.join zS (partsFrom x y.length a cuts)).cps.toList = repL y.cps.toList zS.cps.toList 0 (x.cps.toList.drop a)
  | [], a, f, hG, hn => by
    obtain rfl : f = a := hG
    show (strSub x f x.length).cps.toList = _
    rw [cut_all]
    rcases Nat.le_total f x.length with h | h
    · have := rep_run (x := x) (y := y) (z := zS.cps.toList) hy (x.length - f) f (by omega) fun k h1 _ => hn k h1
      rw [this]
      have e : f + (x.length - f) = x.length := by omega
      have e2 : x.cps.toList.drop x.length = [] := List.drop_of_length_le (by simp [Str.length])
      rw [e, e2, repL, List.append_nil, List.take_of_length_le]
      rw [List.length_drop]
      simp [Str.length]
    · have e2 : x.cps.toList.drop f = [] := List.drop_of_length_le (by simpa [Str.length] using h)
      rw [e2]; rfl
  | c :: r, a, f, hG, hn => by
    obtain ⟨h1, h2, h3, h4⟩ := hG
    have hc : c + y.length ≤ x.length := h2.1
    obtain ⟨p, q, e⟩ := partsFrom_ne x y.length (c + y.length) r
    have ih := rep_parts (zS := zS) hy r (c + y.length) f h4 hn
    rw [partsFrom, e]
    show (strSub x a c ++ zS ++ Str.join zS (p :: q)).cps.toList = _
    rw [← e]
    have e3 := rep_run (x := x) (y := y) (z := zS.cps.toList) hy (c - a) a (by omega) fun k k1 k2 => h3 k k1 (by omega)
    rw [show a + (c - a) = c by omega, rep_at hy h2] at e3
    rw [e3, ← ih, ← strSub_toList]
    rw [cps_app, cps_app, List.append_assoc]
end
/-- str.replace, by its signs -/
theorem rep_cps (x y z : Str) (hy : 1 ≤ y.length) : (Txt.replace x y z).cps.toList = repL y.cps.toList z.cps.toList 0 x.cps.toList := by
  obtain ⟨f, hG, hn⟩ := occ_tight x y hy
  have h := rep_parts (zS := z) hy _ 0 f hG hn
  rw [List.drop_zero] at h
  unfold Txt.replace
  split
  · rename_i hc
    have h0 : (y.length == 0) = false := by
      rw [beq_eq_false_iff_ne]
      omega
    rw [h0, Bool.false_and, Bool.or_false] at hc
    rw [List.isEmpty_iff.mp hc] at h
    rw [← h]
    show _ = (strSub x 0 x.length).cps.toList
    rw [cut_all, List.drop_zero]
  · rw [glued_eq_join, partsBetween_eq]
    exact h
end DL

set_option Elab.async false
set_option linter.all false
set_option maxRecDepth 100000
set_option maxHeartbeats 1000000
/-! the words of a text -/
namespace DL
open PySem PySem.Builtin PySem.Builtin.Str PySem.StrLaws
theorem repL_one (c : Nat) (z : List Nat) : ∀ cs : List Nat, repL [c] z 0 cs = cs.flatMap fun k => if k = c then z else [k]
  | [] => rfl
  | k :: cs => by
    rw [repL, List.flatMap_cons, ← repL_one c z cs]
    by_cases h : k = c
    · subst h
      simp [List.isPrefixOf]
    · have h2 : (c == k) = false := by simpa using Ne.symm h
      simp [List.isPrefixOf, h, h2]
def fl (d : List (List Nat)) (cur : List Nat) : List (List Nat) := if cur = [] then d else d ++ [cur]
/-- words between blanks -/
def stepS : List (List Nat) × List Nat → Nat → List (List Nat) × List Nat := fun s c => if c = 32 then (fl s.1 s.2, []) else (s.1, s.2 ++ [c])
/-- .. where a parenthesis is a word -/
def stepT : List (List Nat) × List Nat → Nat → List (List Nat) × List Nat := fun s c => if c = 32 then (fl s.1 s.2, []) else if c = 40 ∨ c = 41 then (fl s.1 s.2 ++ [[c]], []) else (s.1, s.2 ++ [c])
def endT (s : List (List Nat) × List Nat) : List (List Nat) := fl s.1 s.2
def toksT (cs : List Nat) : List (List Nat) := endT (cs.foldl stepT ([], []))
theorem foldS_free : ∀ (p : List Nat) (d : List (List Nat)) (cur : List Nat), 32 ∉ p → p.foldl stepS (d, cur) = (d, cur ++ p)
  | [], d, cur, _ => by simp
  | c :: p, d, cur, h => by
    have h1 : c ≠ 32 := fun e => h (by simp [e])
    have h2 : 32 ∉ p := fun e => h (List.mem_cons_of_mem _ e)
    rw [List.foldl_cons, stepS, if_neg h1, foldS_free p d (cur ++ [c]) h2, List.append_assoc]
    rfl
def joinL (z : List Nat) : List (List Nat) → List Nat
  | [] => []
  | [x] => x
  | x :: r => x ++ z ++ joinL z r
theorem join_cps (z : Str) : ∀ L : List Str, (Str.join z L).cps.toList = joinL z.cps.toList (L.map (·.cps.toList))
  | [] => rfl
  | [x] => rfl
  | x :: y :: r => by
    show (x ++ z ++ Str.join z (y :: r)).cps.toList = _
    rw [cps_app, cps_app, join_cps z (y :: r)]
    rfl
theorem words_join : ∀ (L : List (List Nat)) (d : List (List Nat)), (∀ p ∈ L, 32 ∉ p) → endT ((joinL [32] L).foldl stepS (d, [])) = d ++ L.filter fun p => !decide (p = [])
  | [], d, _ => by simp [joinL, endT, fl]
  | [p], d, h => by
    have hp := h p (by simp)
    rw [joinL, foldS_free p d [] hp]
    by_cases e : p = [] <;> simp [endT, fl, e]
  | p :: q :: r, d, h => by
    have hp := h p (by simp)
    show endT ((p ++ [32] ++ joinL [32] (q :: r)).foldl stepS (d, [])) = _
    rw [List.foldl_append, List.foldl_append, foldS_free p d [] hp]
    show endT ((joinL [32] (q :: r)).foldl stepS (fl d ([] ++ p), [])) = _
    rw [words_join (q :: r) (fl d ([] ++ p)) fun x hx => h x (List.mem_cons_of_mem _ hx)]
    by_cases e : p = []
    · simp [fl, e]
    · simp [fl, e, List.filter_cons]
theorem step_pad (s : List (List Nat) × List Nat) (c : Nat) : (((if c = 40 then [32, 40, 32] else [c]).flatMap fun k => if k = 41 then [32, 41, 32] else [k]).foldl stepS s) = stepT s c := by
  obtain ⟨d, cur⟩ := s
  by_cases h1 : c = 40
  · subst h1
    simp [stepS, stepT, fl]
  · by_cases h2 : c = 41
    · subst h2
      simp [stepS, stepT, fl]
    · by_cases h3 : c = 32
      · subst h3
        simp [stepS, stepT, fl]
      · simp [stepS, stepT, h1, h2, h3]
theorem fold_pad : ∀ (cs : List Nat) (s : List (List Nat) × List Nat), (((cs.flatMap fun k => if k = 40 then [32, 40, 32] else [k]).flatMap fun k => if k = 41 then [32, 41, 32] else [k]).foldl stepS s) = cs.foldl stepT s
  | [], s => rfl
  | c :: cs, s => by
    rw [List.flatMap_cons, List.flatMap_append, List.foldl_append, step_pad, fold_pad cs, List.foldl_cons]
/-- the words that read_formula takes from a text -/
def tokens (z : Str) : List Str := (Txt.split (Txt.replace (Txt.replace z "(" " ( ") ")" " ) ") " ").filter fun y => !decide (y = ("" : Str))
theorem str_nil (y : Str) : y = ("" : Str) ↔ y.cps.toList = [] := by
  constructor
  · intro h; rw [h]; rfl
  · intro h
    obtain ⟨a⟩ := y
    have : a = #[] := Array.toList_eq_nil_iff.mp h
    rw [this]; rfl
theorem tokens_eq (z : Str) : (tokens z).map (·.cps.toList) = toksT z.cps.toList := by
  have hj := join_split (Txt.replace (Txt.replace z "(" " ( ") ")" " ) ") " "
  have hf := split_free (Txt.replace (Txt.replace z "(" " ( ") ")" " ) ") 32
  have e : (⟨#[32]⟩ : Str) = (" " : Str) := by decide
  rw [e] at hf
  unfold tokens
  generalize Txt.split (Txt.replace (Txt.replace z "(" " ( ") ")" " ) ") " " = L at hj hf
  have h1 : (Txt.replace (Txt.replace z "(" " ( ") ")" " ) ").cps.toList = (z.cps.toList.flatMap fun k => if k = 40 then [32, 40, 32] else [k]).flatMap fun k => if k = 41 then [32, 41, 32] else [k] := by
    rw [rep_cps _ _ _ (by decide), rep_cps _ _ _ (by decide)]
    rw [← repL_one, ← repL_one]
    rfl
  rw [← hj, join_cps] at h1
  have h2 := words_join (L.map (·.cps.toList)) [] fun p hp => by
    obtain ⟨y, hy, rfl⟩ := List.mem_map.mp hp
    exact hf y hy
  rw [List.nil_append, show [32] = (" " : Str).cps.toList from by decide, h1, fold_pad] at h2
  rw [toksT, h2, List.filter_map]
  congr 1
  refine List.filter_congr fun y _ => ?_
  show (!decide (y = ("" : Str))) = !decide (y.cps.toList = [])
  rw [decide_eq_decide.mpr (str_nil y)]
/-- a word that the laws write -/
def okW (w : List Nat) : Prop := w = [40] ∨ w = [41] ∨ (w ≠ [] ∧ ∀ c ∈ w, c ≠ 32 ∧ c ≠ 40 ∧ c ≠ 41)
def isP (w : List Nat) : Prop := w = [40] ∨ w = [41]
instance (w : List Nat) : Decidable (isP w) := inferInstanceAs (Decidable (_ ∨ _))
/-- a text so far: its words, and whether the last was a parenthesis (or none stands yet) -/
structure Sofar (cs : List Nat) (ws : List (List Nat)) (p : Prop) : Prop where
  toks : toksT cs = ws
  fresh : p → (cs.foldl stepT ([], [])).2 = []
theorem fold_blank : ∀ (n : Nat) (d : List (List Nat)) (cur : List Nat), 0 < n → (List.replicate n 32).foldl stepT (d, cur) = (fl d cur, [])
  | 1, d, cur, _ => rfl
  | n + 2, d, cur, _ => by
    rw [List.replicate_succ, List.foldl_cons]
    show (List.replicate (n + 1) 32).foldl stepT (fl d cur, []) = _
    rw [fold_blank (n + 1) _ _ (by omega)]
    rfl
theorem fold_word : ∀ (w : List Nat) (d : List (List Nat)) (cur : List Nat), (∀ c ∈ w, c ≠ 32 ∧ c ≠ 40 ∧ c ≠ 41) → w.foldl stepT (d, cur) = (d, cur ++ w)
  | [], d, cur, _ => by simp
  | c :: w, d, cur, h => by
    obtain ⟨h1, h2, h3⟩ := h c (by simp)
    rw [List.foldl_cons, stepT, if_neg h1, if_neg (by simp [h2, h3]), fold_word w d (cur ++ [c]) fun x hx => h x (List.mem_cons_of_mem _ hx), List.append_assoc]
    rfl
/-- blanks behind -/
theorem Sofar.blank {cs : List Nat} {ws : List (List Nat)} {p : Prop} (h : Sofar cs ws p) (n : Nat) : Sofar (cs ++ List.replicate n 32) ws p := by
  rcases Nat.eq_zero_or_pos n with rfl | hn
  · simpa using h
  · obtain ⟨h1, h2⟩ := h
    refine ⟨?_, fun _ => ?_⟩
    · rw [toksT, List.foldl_append]
      rw [toksT] at h1
      generalize cs.foldl stepT ([], []) = s at h1
      obtain ⟨d, cur⟩ := s
      rw [fold_blank n d cur hn]
      simpa [endT, fl] using h1
    · rw [List.foldl_append]
      generalize cs.foldl stepT ([], []) = s
      obtain ⟨d, cur⟩ := s
      rw [fold_blank n d cur hn]
/-- a word behind -/
theorem Sofar.word {cs : List Nat} {ws : List (List Nat)} {p : Prop} (h : Sofar cs ws p) {n : Nat} {w : List Nat} (hw : okW w) (hn : ¬ p → ¬ isP w → 0 < n) : Sofar (cs ++ List.replicate n 32 ++ w) (ws ++ [w]) (isP w) := by
  obtain ⟨h1, h2⟩ := h.blank n
  have h3 : ¬ isP w → ((cs ++ List.replicate n 32).foldl stepT ([], [])).2 = [] := fun hp => by
    rcases Classical.em p with hq | hq
    · exact h2 hq
    · have hn2 := hn hq hp
      rw [List.foldl_append]
      generalize cs.foldl stepT ([], []) = s
      obtain ⟨d, cur⟩ := s
      rw [fold_blank n d cur hn2]
  rw [toksT] at h1
  refine ⟨?_, fun hp => ?_⟩
  · rw [toksT, List.foldl_append]
    generalize (cs ++ List.replicate n 32).foldl stepT ([], []) = s at h1 h3
    obtain ⟨d, cur⟩ := s
    rcases Classical.em (isP w) with hp | hp
    · rcases hp with rfl | rfl <;> (rw [← h1]; simp [stepT, endT, fl])
    · have hc := h3 hp
      dsimp only at hc
      subst hc
      rcases hw with hw | hw | ⟨hw1, hw2⟩
      · exact absurd (.inl hw) hp
      · exact absurd (.inr hw) hp
      · rw [fold_word w d [] hw2, ← h1]
        simp [endT, fl, hw1]
  · rw [List.foldl_append]
    generalize (cs ++ List.replicate n 32).foldl stepT ([], []) = s
    obtain ⟨d, cur⟩ := s
    rcases hp with rfl | rfl <;> simp [stepT]
theorem Sofar.nil (n : Nat) : Sofar (List.replicate n 32) [] True := by
  have := (Sofar.mk (cs := []) (ws := []) (p := True) rfl fun _ => rfl).blank n
  simpa using this
end DL

set_option Elab.async false
set_option linter.all false
set_option maxRecDepth 100000
set_option maxHeartbeats 1000000
/-! how a formula is shown -/
namespace DL
open PySem PySem.Spec PyProof.Rows L2
def Fm.isJoin : Fm → Bool
  | .join _ _ => true
  | _ => false
/-- an f-text of these pieces -/
def ftext (ys : List Str) : Str := ys.foldl (· ++ ·) Str.empty
mutual
def showF : Fm → Str
  | .kind z => z
  | .many n f => ftext [((toString n : String) : Str), " of ", if f.isJoin then ftext ["(", showF f, ")"] else showF f]
  | .join w fs => Txt.join (ftext [" ", w, " "]) (showL fs)
def showL : List Fm → List Str
  | [] => []
  | f :: fs => (if f.isJoin then ftext ["(", showF f, ")"] else showF f) :: showL fs
end
def showP (f : Fm) : Str := if f.isJoin then ftext ["(", showF f, ")"] else showF f
theorem showL_map : ∀ fs : List Fm, showL fs = fs.map showP
  | [] => rfl
  | f :: fs => by rw [showL, showL_map fs]; rfl
theorem ftext_len (ys : List Str) : (ftext ys).length = (ys.map (·.length)).sum := by
  unfold ftext
  rw [js_len]
  show 0 + _ = _
  omega
theorem num_len : ∀ n : Fin 61, (((toString ((n.val : Nat) : Int) : String) : Str)).length ≤ 2 := by decide +kernel
theorem num_len' {n : Int} (h0 : 0 ≤ n) (h1 : n ≤ 60) : (((toString n : String) : Str)).length ≤ 2 := by
  have := num_len ⟨n.toNat, by omega⟩
  rwa [show ((n.toNat : Nat) : Int) = n by omega] at this
theorem join_len (z : Str) : ∀ L : List Str, (Str.join z L).length ≤ (L.map (·.length)).sum + (L.length - 1) * z.length
  | [] => Nat.zero_le _
  | [x] => by show x.length ≤ _; simp
  | x :: y :: r => by
    have h := join_len z (y :: r)
    show (x ++ z ++ Str.join z (y :: r)).length ≤ _
    rw [Str.length_append, Str.length_append, List.map_cons, List.sum_cons, List.length_cons]
    have e : (y :: r).length + 1 - 1 = ((y :: r).length - 1) + 1 := by simp
    rw [e, Nat.add_mul, Nat.one_mul]
    omega
mutual
theorem showP_len {m : Int} (hm : m ≤ 60) : ∀ {f : Fm}, f.fits m → (∀ z ∈ f.leaves, z.length ≤ 5) → (showP f).length + 5 ≤ 16 * f.nodes ∧ (showF f).length + 5 ≤ 16 * f.nodes
  | .kind z, _, hz => by
    have := hz z (by simp [Fm.leaves])
    have e : showP (.kind z) = z := rfl
    have e2 : showF (.kind z) = z := rfl
    rw [e, e2, Fm.nodes]
    omega
  | .many n f, h, hz => by
    have ih := (showP_len (m := m / n) (by
      have := Int.ediv_le_self (a := m) n (by have := h.1; have := h.2.1; omega)
      omega) h.2.2 hz).1
    have hn := num_len' (n := n) (by have := h.1; omega) (by have := h.2.1; omega)
    have e2 : showF (.many n f) = ftext [((toString n : String) : Str), " of ", showP f] := rfl
    have e : showP (.many n f) = showF (.many n f) := rfl
    rw [e, e2, Fm.nodes, ftext_len]
    have h4 : (" of " : Str).length = 4 := by decide
    simp only [List.map_cons, List.map_nil, List.sum_cons, List.sum_nil, h4]
    omega
  | .join w fs, h, hz => by
    have ih := showL_len hm (Fm.fitsL_all.mp h.2.2) hz
    have e2 : showF (.join w fs) = Txt.join (ftext [" ", w, " "]) (showL fs) := rfl
    have e : showP (.join w fs) = ftext ["(", showF (.join w fs), ")"] := rfl
    have hw : (ftext [" ", w, " "]).length ≤ 5 := by
      rw [ftext_len]
      have h1 : (" " : Str).length = 1 := by decide
      rcases h.1 with rfl | rfl <;> simp only [List.map_cons, List.map_nil, List.sum_cons, List.sum_nil, h1] <;> decide
    have hl : (showF (.join w fs)).length ≤ ((showL fs).map (·.length)).sum + fs.length * 5 - 5 := by
      rw [e2, Txt.join, StrLaws.glued_eq_join]
      have hlen : (showL fs).length = fs.length := by rw [showL_map]; simp
      have := join_len (ftext [" ", w, " "]) (showL fs)
      rw [hlen] at this
      have h2 := h.2.1
      obtain ⟨k, hk⟩ : ∃ k, fs.length = k + 1 := ⟨fs.length - 1, by omega⟩
      rw [hk] at this ⊢
      have h3 : k * (ftext [" ", w, " "]).length ≤ k * 5 := Nat.mul_le_mul_left _ hw
      simp only [Nat.add_sub_cancel] at this
      omega
    have h2 := h.2.1
    have h1 : ("(" : Str).length = 1 := by decide
    have h1' : (")" : Str).length = 1 := by decide
    rw [e, ftext_len, Fm.nodes]
    simp only [List.map_cons, List.map_nil, List.sum_cons, List.sum_nil, h1, h1']
    omega
theorem showL_len {m : Int} (hm : m ≤ 60) : ∀ {fs : List Fm}, (∀ f ∈ fs, f.fits m) → (∀ z ∈ Fm.leavesL fs, z.length ≤ 5) → ((showL fs).map (·.length)).sum + fs.length * 5 ≤ 16 * Fm.nodesL fs
  | [], _, _ => by simp [showL, Fm.nodesL]
  | f :: fs, h, hz => by
    have h1 := (showP_len hm (h f (by simp)) fun z hz2 => hz z (by rw [Fm.leavesL]; exact List.mem_append_left _ hz2)).1
    have h2 := showL_len hm (fun g hg => h g (List.mem_cons_of_mem _ hg)) fun z hz2 => hz z (by rw [Fm.leavesL]; exact List.mem_append_right _ hz2)
    rw [showL, Fm.nodesL, List.map_cons, List.sum_cons, List.length_cons]
    have e : (if f.isJoin then ftext ["(", showF f, ")"] else showF f) = showP f := rfl
    rw [e]
    omega
end
end DL

set_option Elab.async false
set_option linter.all false
set_option maxRecDepth 100000
set_option maxHeartbeats 1000000
/-! DL10: objects that change -/
namespace DL
open PySem PySem.Spec PyProof.Rows L2
mutual
/-- no list, no dict, no object within -/
def plainD : Dt → Bool
  | .lst _ => false
  | .dct _ _ => false
  | .obj _ _ _ => false
  | .tup xs => plainL xs
  | _ => true
def plainL : List Dt → Bool
  | [] => true
  | x :: xs => plainD x && plainL xs
end
mutual
theorem Dq.plain {A B : List Addr} {H : Hp} (ht : ∀ a ∈ A, a ∈ B ∨ ∀ xs, H a ≠ some (.tup xs)) : ∀ {v : V} {d : Dt}, plainD d = true → Dq (Off B H) v d → Dq (Off A H) v d
  | _, .non, _, .non => .non
  | _, .bl _, _, .bl b => .bl b
  | _, .int _, _, .int i => .int i
  | _, .str _, _, .str x => .str x
  | _, .lst ds, f, .lst h hs => by simp [plainD] at f
  | _, .tup ds, f, @Dq.tup _ a xs _ h hs => by
    obtain ⟨h1, h2⟩ := off_in h
    refine .tup (off_of (fun ha => ?_) h2) (DqL.plain ht (by simpa [plainD] using f) hs)
    rcases ht a ha with hb | hb
    · exact h1 hb
    · exact hb xs h2
  | _, .dct _ _, f, _ => by simp [plainD] at f
  | _, .obj _ _ _, f, _ => by simp [plainD] at f
theorem DqL.plain {A B : List Addr} {H : Hp} (ht : ∀ a ∈ A, a ∈ B ∨ ∀ xs, H a ≠ some (.tup xs)) : ∀ {vs : List V} {ds : List Dt}, plainL ds = true → DqL (Off B H) vs ds → DqL (Off A H) vs ds
  | _, [], _, .nil => .nil
  | _, d :: ds, f, .cons h t => by
    rw [plainL, Bool.and_eq_true] at f
    exact .cons (Dq.plain ht f.1 h) (DqL.plain ht f.2 t)
end
theorem plain_ints : ∀ L : List Int, plainL (dInts L) = true
  | [] => rfl
  | _ :: L => by show (true && plainL (dInts L)) = true; rw [plain_ints L]; rfl
mutual
theorem plain_fm : ∀ f : Fm, plainD f.enc = true
  | .kind z => rfl
  | .many n f => by show (true && (true && (plainD f.enc && true))) = true; rw [plain_fm f]; rfl
  | .join w fs => by show (true && (plainL (Fm.encL fs) && true)) = true; rw [plain_fms fs]; rfl
theorem plain_fms : ∀ fs : List Fm, plainL (Fm.encL fs) = true
  | [] => rfl
  | f :: fs => by rw [Fm.encL, plainL, plain_fm f, plain_fms fs]; rfl
end
def plainS : Sl → Bool
  | .d x => plainD x
  | _ => true
theorem SlAll.plain {A B : List Addr} {H : Hp} (ht : ∀ a ∈ A, a ∈ B ∨ ∀ xs, H a ≠ some (.tup xs)) : ∀ {ss : List Sl} {vs : List V}, ss.all plainS = true → SlAll B H ss vs → SlAll A H ss vs
  | _, _, _, .nil => .nil
  | s :: ss, _, f, .cons h t => by
    rw [List.all_cons, Bool.and_eq_true] at f
    refine .cons ?_ (SlAll.plain ht f.2 t)
    cases s with
    | d x => exact Dq.plain ht f.1 h
    | v x => exact h
    | u => trivial
def plainC : Cell → Bool
  | .lst ss => ss.all plainS
  | .ins _ _ _ ss => ss.all plainS
  | .dk _ ss => ss.all plainS
  | _ => false
theorem CellOk.plain {A B : List Addr} {H : Hp} (ht : ∀ a ∈ A, a ∈ B ∨ ∀ xs, H a ≠ some (.tup xs)) {p : Addr} {cl : Cell} (f : plainC cl = true) (h : CellOk B H p cl) : CellOk A H p cl := by
  cases cl with
  | lst ss => obtain ⟨xs, h1, h2⟩ := h; exact ⟨xs, h1, h2.plain ht f⟩
  | ins C dx ns ss => obtain ⟨xs, h1, h3, h2⟩ := h; exact ⟨xs, h1, h3, h2.plain ht f⟩
  | dk ks ss => obtain ⟨xs, h1, h3, h2⟩ := h; exact ⟨xs, h1, h3, h2.plain ht f⟩
  | heap lp => cases f
  | held q => cases f
/-- a cell is no tuple -/
theorem CellOk.notup {A : List Addr} {H : Hp} {p : Addr} {cl : Cell} (f : plainC cl = true) (h : CellOk A H p cl) : ∀ xs, H p ≠ some (.tup xs) := by
  intro ys e
  cases cl with
  | lst ss => obtain ⟨xs, h1, h2⟩ := h; rw [e] at h1; cases h1
  | ins C dx ns ss => obtain ⟨xs, h1, h3, h2⟩ := h; rw [e] at h1; cases h1
  | dk ks ss => obtain ⟨xs, h1, h3, h2⟩ := h; rw [e] at h1; cases h1
  | heap lp => cases f
  | held q => cases f
theorem CellOk.live {A : List Addr} {H : Hp} {p : Addr} {cl : Cell} (f : plainC cl = true) (h : CellOk A H p cl) : ∃ o, H p = some o := by
  cases cl with
  | lst ss => obtain ⟨xs, h1, h2⟩ := h; exact ⟨_, h1⟩
  | ins C dx ns ss => obtain ⟨xs, h1, h3, h2⟩ := h; exact ⟨_, h1⟩
  | dk ks ss => obtain ⟨xs, h1, h3, h2⟩ := h; exact ⟨_, h1⟩
  | heap lp => cases f
  | held q => cases f
theorem CellOk.keep {A A' : List Addr} {H H' : Hp} {p : Addr} {cl : Cell} (f : plainC cl = true) (k : Kp A A' H H') (hp : H p = H' p) (h : CellOk A H p cl) : CellOk A' H' p cl := by
  cases cl with
  | lst ss => obtain ⟨xs, h1, h2⟩ := h; exact ⟨xs, hp ▸ h1, h2.mono k⟩
  | ins C dx ns ss => obtain ⟨xs, h1, h3, h2⟩ := h; exact ⟨xs, hp ▸ h1, h3, h2.mono k⟩
  | dk ks ss => obtain ⟨xs, h1, h3, h2⟩ := h; exact ⟨xs, hp ▸ h1, h3, h2.mono k⟩
  | heap lp => cases f
  | held q => cases f
section
variable {F : Fx} {c c' : Ct} {H H' : Hp} {σ : L2.St} {D : Ends} {te ta tb to ti : TE} {s : Sl} {K : PySem.W.Frag} {u : TS}
/-- behind a call that wrote some of the cells -/
theorem Wd.redo (w : Wd F c H σ) {Wr A' : List Addr} {M' : List (Addr × Cell)} (hW : ∀ b ∈ Wr, b ∈ c.M.map (·.1)) (hk : ∀ b o, b ∉ Wr → H b = some o → H' b = some o)
    (hA : ∀ b ∈ c.A, b ∈ A') (hN : ∀ b ∈ A', b ∈ c.A ∨ H b = none) (hL : ∀ b ∈ A', ∃ o, H' b = some o) (nA : A'.Nodup)
    (hM : ∀ e ∈ M', (e ∈ c.M ∧ e.1 ∉ Wr ∧ plainC e.2 = true) ∨ (CellOk A' H' e.1 e.2 ∧ e.1 ∈ A' ∧ (e.1 ∈ c.M.map (·.1) ∨ H e.1 = none) ∧ plainC e.2 = true)) (nd : (M'.map (·.1)).Nodup) :
    Wd F ⟨A', c.G, M', c.S⟩ H' σ ∧ Kp c.A A' H H' := by
  have hWA : ∀ b ∈ Wr, b ∈ c.A := fun b hb => by
    obtain ⟨e, he, rfl⟩ := List.mem_map.mp (hW b hb)
    exact w.mA e he
  have k : Kp c.A A' H H' := by
    intro b o nb e
    refine ⟨fun hb => ?_, hk b o (fun hb => nb (hWA b hb)) e⟩
    rcases hN b hb with h | h
    · exact nb h
    · rw [h] at e; cases e
  have hWF : ∀ b ∈ Wr, b ∈ F.W ∨ F.H0 b = none := fun b hb => by
    obtain ⟨e, he, rfl⟩ := List.mem_map.mp (hW b hb)
    exact w.mW e he
  refine ⟨⟨fun b o nb e => ?_, hL, fun b hb => hA b (w.wA b hb), nA, fun e he => ?_, fun e he => ?_, fun e he => ?_, nd, fun e he lp hl => ?_, fun e he => Dq.mono k.off (w.gs e he), Paired.mapP w.sl fun _ _ q => SlotOk.mono k q⟩, k⟩
  · refine hk b o (fun hb => ?_) (w.fr b o nb e)
    rcases hWF b hb with h | h
    · exact nb h
    · rw [h] at e; cases e
  · rcases hM e he with ⟨h1, _⟩ | ⟨_, h2, _⟩
    · exact hA _ (w.mA e h1)
    · exact h2
  · rcases hM e he with ⟨h1, h2, h3⟩ | ⟨h1, _⟩
    · have q := w.mO e h1
      obtain ⟨o, ho⟩ := CellOk.live h3 q
      exact CellOk.keep h3 k (by rw [ho, hk _ _ h2 ho]) q
    · exact h1
  · rcases hM e he with ⟨h1, _⟩ | ⟨_, _, h3 | h3, _⟩
    · exact w.mW e h1
    · obtain ⟨e2, he2, h4⟩ := List.mem_map.mp h3
      rw [← h4]
      exact w.mW e2 he2
    · exact .inr (w.free0 h3)
  · have : plainC e.2 = true := by
      rcases hM e he with ⟨_, _, h⟩ | ⟨_, _, _, h⟩ <;> exact h
    rw [hl] at this
    cases this
/-- a field of an object -/
theorem look_at {A : List Addr} : ∀ {ns : List Str} {fs : List (Str × V)} {ss : List Sl} {j : Nat} {f : Str} {s : Sl}, fs.map (·.1) = ns → SlAll A H ss (fs.map (·.2)) → ns[j]? = some f → f ∉ ns.take j → ss[j]? = some s → ∃ v, fs.lookup f = some v ∧ SlOk A H s v
  | ns, [], ss, j, f, s, h1, h2, h3, h4, h5 => by
    subst h1
    simp at h3
  | ns, (g, v) :: fs, s0 :: ss, 0, f, s, h1, h2, h3, h4, h5 => by
    subst h1
    have e : g = f := by simpa using h3
    subst e
    have e2 : s0 = s := by simpa using h5
    subst e2
    cases h2 with
    | cons a r => exact ⟨v, by simp [List.lookup], a⟩
  | ns, (g, v) :: fs, s0 :: ss, j + 1, f, s, h1, h2, h3, h4, h5 => by
    subst h1
    cases h2 with
    | cons a r =>
      have hne : f ≠ g := fun e => h4 (by rw [e]; simp)
      obtain ⟨v2, e1, e2⟩ := look_at (ns := fs.map (·.1)) (j := j) rfl r (by simpa using h3) (fun h => h4 (by simp [h])) (by simpa using h5)
      exact ⟨v2, by rw [lookup_put, if_neg hne]; exact e1, e2⟩
  | ns, (g, v) :: fs, [], j, f, s, h1, h2, h3, h4, h5 => by cases h2
theorem put_at {A : List Addr} : ∀ {ns : List Str} {fs : List (Str × V)} {ss : List Sl} {j : Nat} {f : Str} {s : Sl} {y : V}, fs.map (·.1) = ns → SlAll A H ss (fs.map (·.2)) → ns[j]? = some f → f ∉ ns.take j → SlOk A H s y → (putF f y fs).map (·.1) = ns ∧ SlAll A H (ss.set j s) ((putF f y fs).map (·.2))
  | ns, [], ss, j, f, s, y, h1, h2, h3, h4, h5 => by
    subst h1
    simp at h3
  | ns, (g, v) :: fs, s0 :: ss, 0, f, s, y, h1, h2, h3, h4, h5 => by
    subst h1
    have e : g = f := by simpa using h3
    subst e
    cases h2 with
    | cons a r =>
      rw [putF, if_pos rfl]
      exact ⟨rfl, .cons h5 r⟩
  | ns, (g, v) :: fs, s0 :: ss, j + 1, f, s, y, h1, h2, h3, h4, h5 => by
    subst h1
    cases h2 with
    | cons a r =>
      have hne : g ≠ f := fun e => h4 (by rw [e]; simp)
      obtain ⟨e1, e2⟩ := put_at (ns := fs.map (·.1)) (j := j) (f := f) (s := s) (y := y) rfl r (by simpa using h3) (fun h => h4 (by simp [h])) h5
      rw [putF, if_neg hne]
      exact ⟨by simp [e1], .cons a e2⟩
  | ns, (g, v) :: fs, [], j, f, s, y, h1, h2, h3, h4, h5 => by cases h2
theorem ev_fldC {k j : Nat} {p C dx : Addr} {ns : List Str} {ss : List Sl} {f : Str} (ha : EvP F c ta (.v (.ref p))) (hk : c.M[k]? = some (p, .ins C dx ns ss)) (hc : Cls K C) (hn : NoAttr K C f) (h1 : ns[j]? = some f) (h2 : f ∉ ns.take j) (h3 : ss[j]? = some s) : EvP F c (tFld K ta f) s := fun c' x H σ w Q q =>
  ha c' x H σ w _ fun v H1 w1 k1 g1 => by
    obtain rfl : v = .ref p := g1
    obtain ⟨_, fs, e1, e2, e3⟩ := w1.cell (x.cell hk)
    obtain ⟨v, l1, l2⟩ := look_at e2 e3 h1 h2 h3
    exact ⟨p, C, dx, fs, v, rfl, e1, hc, hn, l1, q v H1 w1 k1 l2⟩
theorem s_fldC {A : List Addr} {G : List (V × Dt)} {M : List (Addr × Cell)} {S : List Sl} {k j : Nat} {p C dx : Addr} {ns : List Str} {ss : List Sl} {f : Str} (w : Wd F ⟨A, G, M, S⟩ H σ) (hk : M[k]? = some (p, .ins C dx ns ss)) (ha : EvP F ⟨A, G, M, S⟩ ta (.v (.ref p))) (hv : EvP F ⟨A, G, M, S⟩ te s) (hc : Cls K C) (hn : NoAttr K C f) (h1 : ns[j]? = some f) (h2 : f ∉ ns.take j) (hz : ns.length < 1000)
    (q : ∀ H', Wd F ⟨A, G, M.set k (p, .ins C dx ns (ss.set j s)), S⟩ H' σ → D.nx σ H') : sFld K ta te f D σ H :=
  hv.run w fun y H1 w1 k1 g1 => ha.run w1 fun x H2 w2 k2 g2 => by
    obtain rfl : x = .ref p := g2
    obtain ⟨hA, fs, e1, e2, e3⟩ := w2.cell (c := ⟨A, G, M, S⟩) hk
    have k0 : Kp A A H2 (upd H2 p (.ins C dx (putF f y fs))) := fun b u nb e => ⟨nb, by rw [upd_ne (fun z => nb (by rw [z]; exact hA))]; exact e⟩
    obtain ⟨e4, e5⟩ := put_at (f := f) (s := s) (y := y) e2 (SlAll.mono k0 e3) h1 h2 (SlOk.mono (k2.trans k0) g1)
    refine ⟨p, C, dx, fs, rfl, e1, hc, hn, ?_, ?_⟩
    · have := congrArg List.length e2
      rw [List.length_map] at this
      omega
    · have := (w2.write (c := ⟨A, G, M, S⟩) (cl' := .ins C dx ns (ss.set j s)) hk (fun _ z => by cases z) (fun _ z => by cases z) (fun _ z => by cases z) ⟨_, upd_same, e4, e5⟩).1
      exact q _ this
/-- self.f = [] : a new list that will change -/
theorem s_fldNew {A : List Addr} {G : List (V × Dt)} {M : List (Addr × Cell)} {S : List Sl} {k j : Nat} {p C dx : Addr} {ns : List Str} {ss : List Sl} {f : Str} (w : Wd F ⟨A, G, M, S⟩ H σ) (hk : M[k]? = some (p, .ins C dx ns ss)) (ha : EvP F ⟨A, G, M, S⟩ ta (.v (.ref p))) (hc : Cls K C) (hn : NoAttr K C f) (h1 : ns[j]? = some f) (h2 : f ∉ ns.take j) (hz : ns.length < 1000)
    (q : ∀ p2 H', H p2 = none → Wd F ⟨p2 :: A, G, M.set k (p, .ins C dx ns (ss.set j (.v (.ref p2)))) ++ [(p2, .lst [])], S⟩ H' σ → D.nx σ H') : sFld K ta (tLst tNil) f D σ H := by
  refine ⟨by decide, fun p2 hp2 => ?_⟩
  obtain ⟨w1, k1⟩ := w.newList (c := ⟨A, G, M, S⟩) (ss := []) hp2 .nil
  have hx : Xt ⟨A, G, M, S⟩ ⟨p2 :: A, G, M ++ [(p2, .lst [])], S⟩ := ⟨rfl, ⟨[(p2, .lst [])], rfl⟩, fun b hb => List.mem_cons_of_mem _ hb⟩
  have hk2 : (M ++ [(p2, Cell.lst [])])[k]? = some (p, .ins C dx ns ss) := hx.cell (c := ⟨A, G, M, S⟩) hk
  have hkl : k < M.length := (List.getElem?_eq_some_iff.mp hk).1
  refine ha _ hx _ σ w1 _ fun x H2 w2 k2 g2 => ?_
  obtain rfl : x = .ref p := g2
  obtain ⟨hA, fs, e1, e2, e3⟩ := w2.cell hk2
  have k0 : Kp (p2 :: A) (p2 :: A) H2 (upd H2 p (.ins C dx (putF f (.ref p2) fs))) := fun b u nb e => ⟨nb, by rw [upd_ne (fun z => nb (by rw [z]; exact hA))]; exact e⟩
  obtain ⟨e4, e5⟩ := put_at (f := f) (s := .v (.ref p2)) (y := .ref p2) e2 (SlAll.mono k0 e3) h1 h2 rfl
  refine ⟨p, C, dx, fs, rfl, e1, hc, hn, ?_, ?_⟩
  · have := congrArg List.length e2
    rw [List.length_map] at this
    omega
  · have := (w2.write (cl' := .ins C dx ns (ss.set j (.v (.ref p2)))) hk2 (fun _ z => by cases z) (fun _ z => by cases z) (fun _ z => by cases z) ⟨_, upd_same, e4, e5⟩).1
    rw [List.set_append_left _ _ hkl] at this
    exact q p2 _ hp2 this
/-- a field of an object that is told as data -/
theorem ev_fldD {j : Nat} {C : Addr} {ns : List Str} {ds : List Dt} {f : Str} {d : Dt} (ha : EvP F c ta (.d (.obj C ns ds))) (hc : Cls K C) (hn : NoAttr K C f) (h1 : ns[j]? = some f) (h2 : f ∉ ns.take j) (h3 : ds[j]? = some d) : EvP F c (tFld K ta f) (.d d) := fun c' x H σ w Q q =>
  ha c' x H σ w _ fun v H1 w1 k1 g1 => by
    cases g1 with
    | @obj a _ dx fs _ e hs =>
      obtain ⟨v, l1, l2⟩ := look_at (A := c'.A) (ss := ds.map Sl.d) rfl (DqL.slAll hs) h1 h2 (by rw [List.getElem?_map, h3]; rfl)
      exact ⟨a, C, dx, fs, v, rfl, (off_in e).2, hc, hn, l1, q v H1 w1 k1 l2⟩
end
end DL
namespace DL
open PySem PySem.Spec PyProof.Rows L2
section
variable {X : Cx} {F : Fx} {H H' : Hp} {σ : L2.St} {D : Ends} {te ta tb to ti : TE} {s : Sl} {K : PySem.W.Frag} {u : TS}
theorem ip_mul : PIp X .Mult (rI CMul fun i j => .int (i * j)) := fun pins s σ H x y v u Q I r1 r2 h => iop_mul pins s σ H x y v u Q I r1 r2 h
theorem s_augM {A : List Addr} {G : List (V × Dt)} {M : List (Addr × Cell)} {S : List Sl} {i : Nat} {a b : Int} (w : Wd F ⟨A, G, M, S⟩ H σ) (hx : S[i]? = some (.d (.int a))) (h : EvP F ⟨A, G, M, S⟩ te (.d (.int b))) (hc : CMul a b)
    (k : ∀ H' σ', Wd F ⟨A, G, M, S.set i (.d (.int (a * b)))⟩ H' σ' → D.nx σ' H') : tAug i te (rI CMul fun i j => .int (i * j)) D σ H := by
  obtain ⟨v, e, hv⟩ := w.slot hx rfl
  exact ⟨v, e, h.run w fun u H1 w1 k1 h1 => ⟨a, b, hv.int, h1.int, hc, k H1 _ (w1.set (s := .d (.int (a * b))) (Dq.int _) i)⟩⟩
theorem rev_ints {F : Fx} {c : Ct} {wi : TI} {ns : List Int} (h : EvI F c wi ((dInts ns).reverse.map Sl.d)) : EvI F c wi (ns.reverse.map fun k => Sl.d (.int k)) := by
  have e : (dInts ns).reverse.map Sl.d = ns.reverse.map fun k => Sl.d (.int k) := by simp [dInts]
  rw [← e]
  exact h
end
end DL

set_option Elab.async false
set_option linter.all false
set_option maxRecDepth 100000
set_option maxHeartbeats 1000000
/-! the parser's levels -/
namespace DL
open PySem PySem.Spec PyProof.Rows L2
structure Lev where
  above : Int
  word : Str
  parts : List Fm
  nums : List Int
def Lev.new (n : Int) : Lev := ⟨n, "", [], []⟩
def Lev.weight (l : Lev) : Int := l.nums.foldl (· * ·) l.above
def wrap (ns : List Int) (f : Fm) : Fm := ns.foldr Fm.many f
def Lev.put (l : Lev) (f : Fm) : Lev := ⟨l.above, l.word, l.parts ++ [wrap l.nums f], []⟩
def Lev.whole (l : Lev) : Fm := if l.word = "" then l.parts.headD (.kind "") else .join l.word l.parts
abbrev levNs : List Str := ["above", "word", "parts", "numbers"]
def levObj (C : Addr) (l : Lev) : Dt := .obj C levNs [.int l.above, .str l.word, .lst (Fm.encL l.parts), .lst (dInts l.nums)]
/-- a level at p, its lists at pp and pn -/
def levIns (C dx : Addr) (l : Lev) (pp pn : Addr) : Cell := .ins C dx levNs [.d (.int l.above), .d (.str l.word), .v (.ref pp), .v (.ref pn)]
def partsC (l : Lev) : Cell := .lst ((Fm.encL l.parts).map Sl.d)
def numsC (l : Lev) : Cell := .lst ((dInts l.nums).map Sl.d)
theorem plain_partsC (l : Lev) : plainC (partsC l) = true := by
  have h := plain_fms l.parts
  show ((Fm.encL l.parts).map Sl.d).all plainS = true
  generalize Fm.encL l.parts = ds at h
  induction ds with
  | nil => rfl
  | cons d ds ih =>
    rw [plainL, Bool.and_eq_true] at h
    rw [List.map_cons, List.all_cons, ih h.2]
    simp [plainS, h.1]
theorem plain_numsC (l : Lev) : plainC (numsC l) = true := by
  show ((dInts l.nums).map Sl.d).all plainS = true
  induction l.nums with
  | nil => rfl
  | cons d ds ih =>
    show (true && ((dInts ds).map Sl.d).all plainS) = true
    rw [ih]; rfl
/-- the level as data -/
theorem lev_data {A B : List Addr} {H : Hp} {C dx p pp pn : Addr} {l : Lev} (h0 : CellOk A H p (levIns C dx l pp pn)) (h1 : CellOk A H pp (partsC l)) (h2 : CellOk A H pn (numsC l)) (hB : ∀ b ∈ B, b ∈ A) (n0 : p ∉ B) (n1 : pp ∉ B) (n2 : pn ∉ B) : Dq (Off B H) (.ref p) (levObj C l) := by
  obtain ⟨fs, e1, e2, e3⟩ := h0
  obtain ⟨xs, e4, e5⟩ := h1
  obtain ⟨zs, e6, e7⟩ := h2
  have hpar : Dq (Off B H) (.ref pp) (.lst (Fm.encL l.parts)) := .lst (off_of n1 e4) (DqL.mono (off_sub hB) (SlAll.dqL e5))
  have hnum : Dq (Off B H) (.ref pn) (.lst (dInts l.nums)) := .lst (off_of n2 e6) (DqL.mono (off_sub hB) (SlAll.dqL e7))
  have key : ∀ {vs : List V}, SlAll A H [.d (.int l.above), .d (.str l.word), .v (.ref pp), .v (.ref pn)] vs → DqL (Off B H) vs [.int l.above, .str l.word, .lst (Fm.encL l.parts), .lst (dInts l.nums)] := fun {vs} h => by
    cases h with
    | cons a h => cases h with
      | cons b h => cases h with
        | cons c h => cases h with
          | cons d h =>
            cases h
            obtain rfl := c
            obtain rfl := d
            exact .cons (Dq.mono (off_sub hB) a) (.cons (Dq.mono (off_sub hB) b) (.cons hpar (.cons hnum .nil)))
  have := Dq.obj (off_of n0 e1) (key e3)
  rw [e2] at this
  exact this
end DL

set_option Elab.async false
set_option linter.all false
set_option maxRecDepth 100000
set_option maxHeartbeats 1000000
/-! the parser's whole state, and worlds that hold it -/
namespace DL
open PySem PySem.Spec PyProof.Rows L2
/-- a level with its places -/
structure LA where
  p : Addr
  pp : Addr
  pn : Addr
  dx : Addr
  l : Lev
def lcells (C : Addr) (x : LA) : List (Addr × Cell) := [(x.p, levIns C x.dx x.l x.pp x.pn), (x.pp, partsC x.l), (x.pn, numsC x.l)]
/-- the state with its places, the innermost level first -/
structure RG where
  r : Addr
  dr : Addr
  lv : Addr
  nm : Addr
  due : Str
  names : List Str
  st : List LA
abbrev rdNs : List Str := ["levels", "names", "due"]
def rdIns (C : Addr) (g : RG) : Cell := .ins C g.dr rdNs [.v (.ref g.lv), .v (.ref g.nm), .d (.str g.due)]
def lvC (st : List LA) : Cell := .lst (st.reverse.map fun x => .v (.ref x.p))
def nmC (ns : List Str) : Cell := .dk (ns.map .inr) (ns.map fun _ => .d (.bl true))
def RG.cells (Cr Cl : Addr) (g : RG) : List (Addr × Cell) := (g.r, rdIns Cr g) :: (g.lv, lvC g.st) :: (g.nm, nmC g.names) :: g.st.flatMap (lcells Cl)
theorem plain_lvC (st : List LA) : plainC (lvC st) = true := by
  show (st.reverse.map fun x => Sl.v (.ref x.p)).all plainS = true
  rw [List.all_map]
  exact List.all_eq_true.mpr fun _ _ => rfl
theorem plain_nmC (ns : List Str) : plainC (nmC ns) = true := by
  show (ns.map fun _ => Sl.d (.bl true)).all plainS = true
  rw [List.all_map]
  exact List.all_eq_true.mpr fun _ _ => rfl
theorem plain_lcells {C : Addr} {x : LA} : ∀ e ∈ lcells C x, plainC e.2 = true := fun e he => by
  simp only [lcells, List.mem_cons, List.not_mem_nil, or_false] at he
  rcases he with rfl | rfl | rfl
  · rfl
  · exact plain_partsC _
  · exact plain_numsC _
theorem plain_cells {Cr Cl : Addr} {g : RG} : ∀ e ∈ g.cells Cr Cl, plainC e.2 = true := fun e he => by
  simp only [RG.cells, List.mem_cons, List.mem_flatMap] at he
  rcases he with rfl | rfl | rfl | ⟨x, _, he⟩
  · rfl
  · exact plain_lvC _
  · exact plain_nmC _
  · exact plain_lcells e he
structure RdAt (Cr Cl : Addr) (H : Hp) (g : RG) : Prop where
  nd : ((g.cells Cr Cl).map (·.1)).Nodup
  ok : ∀ e ∈ g.cells Cr Cl, CellOk [] H e.1 e.2
def RG.addrs (Cr Cl : Addr) (g : RG) : List Addr := (g.cells Cr Cl).map (·.1)
theorem off_nil (H : Hp) : Off [] H = H := by funext b; simp [Off]
/-- a def begins that writes some cells -/
theorem wd_startM {M : List (Addr × Cell)} {N : List Str} {vs : List V} {ss : List Sl} {H : Hp} (nd : (M.map (·.1)).Nodup) (hM : ∀ e ∈ M, CellOk [] H e.1 e.2) (hp : ∀ e ∈ M, plainC e.2 = true) (hs : SlAll [] H ss vs) (hps : ss.all plainS = true) (n : Nat) (hn : N.length - vs.length = n) :
    Wd ⟨M.map (·.1), H⟩ ⟨M.map (·.1), [], M, ss ++ List.replicate n .u⟩ H (L2.start N vs) := by
  have nt : ∀ b ∈ M.map (·.1), b ∈ ([] : List Addr) ∨ ∀ xs, H b ≠ some (.tup xs) := fun b hb => by
    obtain ⟨e, he, rfl⟩ := List.mem_map.mp hb
    exact .inr (CellOk.notup (hp e he) (hM e he))
  refine ⟨fun b o _ h => h, fun b hb => ?_, fun b hb => hb, nd, fun e he => List.mem_map_of_mem he, fun e he => CellOk.plain nt (hp e he) (hM e he), fun e he => .inl (List.mem_map_of_mem he), nd, fun e he lp hl => ?_, fun e he => by simp at he, ?_⟩
  · obtain ⟨e, he, rfl⟩ := List.mem_map.mp hb
    exact CellOk.live (hp e he) (hM e he)
  · have := hp e he
    rw [hl] at this
    cases this
  · subst hn
    exact start_ok (N := N) (hs.plain nt hps) _
/-- a cell at the end -/
theorem Wd.cellE {F : Fx} {c : Ct} {H : Hp} {σ : L2.St} (w : Wd F c H σ) {e : Addr × Cell} (he : e ∈ c.M) (hp : plainC e.2 = true) : CellOk [] H e.1 e.2 := CellOk.plain (B := c.A) (fun b hb => by simp at hb) hp (w.mO e he)
section
variable {F : Fx} {c c' : Ct} {H H' : Hp} {σ : L2.St} {D : Ends} {te ta tb to ti : TE} {s : Sl} {K : PySem.W.Frag} {u : TS} {tr : TA}
/-- z in d -/
theorem ev_inDK {k : Nat} {p : Addr} {ns : List Str} {ss : List Sl} {z : Str} (hy : EvP F c ta (.d (.str z))) (ho : EvP F c tb (.v (.ref p))) (hk : c.M[k]? = some (p, .dk (ns.map .inr) ss)) : EvP F c (tDIn ta tb) (.d (.bl (decide (z ∈ ns)))) := fun c' x H σ w Q q =>
  hy c' x H σ w _ fun v H1 w1 k1 g1 => ho c' x H1 σ w1 _ fun v2 H2 w2 k2 g2 => by
    obtain rfl : v2 = .ref p := g2
    have e0 : v = .str z := g1.str
    subst e0
    obtain ⟨_, kvs, e1, e2, e3⟩ := w2.cell (x.cell hk)
    refine ⟨p, valV kvs (.inr z), rfl, DGet.k (k := .inr z) e1, ?_⟩
    have e : (valV kvs (Sum.inr z : Key)).isSome = decide (z ∈ ns) := by
      rw [← valV_any]
      have e4 : (kvs.any fun kv => decide (kv.1 = Sum.inr z)) = (kvs.map (·.1)).any fun y => decide (y = Sum.inr z) := by rw [List.any_map]; rfl
      rw [e4, e2, List.any_map]
      rw [Bool.eq_iff_iff]
      simp only [List.any_eq_true, Function.comp_apply, decide_eq_true_eq, Sum.inr.injEq]
      exact ⟨fun ⟨y, h1, h2⟩ => h2 ▸ h1, fun h => ⟨z, h, rfl⟩⟩
    rw [e]
    exact q _ H2 w2 (k1.trans k2) (Dq.bl _)
def qLenD : List V → Hp → VK → Prop := fun xs H Q => ∃ a kvs, xs = [V.ref a] ∧ H a = some (.dK kvs) ∧ Q (.int kvs.length) H
theorem dc_lenD {X : Cx} : CallR X (.builtin "len") qLenD := call_lenD
theorem ev_lenDK {k : Nat} {p : Addr} {ks : List Key} {ss : List Sl} (h : EvA F c tr [.v (.ref p)]) (hk : c.M[k]? = some (p, .dk ks ss)) : EvP F c (tCB qLenD tr) (.d (.int (ks.length : Nat))) := ev_cb h fun c' x H σ vs w hv Q q => by
  cases hv with
  | cons e r =>
    cases r
    obtain rfl := e
    obtain ⟨_, kvs, e1, e2, e3⟩ := w.cell (x.cell hk)
    refine ⟨p, kvs, rfl, e1, ?_⟩
    rw [show kvs.length = ks.length by rw [← e2, List.length_map]]
    exact q _ H w (Kp.refl _ _) (Dq.int _)
/-- d[z] = e, z not there yet -/
theorem s_putDK {A : List Addr} {G : List (V × Dt)} {M : List (Addr × Cell)} {S : List Sl} {k : Nat} {p : Addr} {ns : List Str} {ss : List Sl} {z : Str} (w : Wd F ⟨A, G, M, S⟩ H σ) (hk : M[k]? = some (p, .dk (ns.map .inr) ss)) (ho : EvP F ⟨A, G, M, S⟩ to (.v (.ref p))) (hi : EvP F ⟨A, G, M, S⟩ ti (.d (.str z))) (hv : EvP F ⟨A, G, M, S⟩ te s) (hz : z ∉ ns) (hl : ns.length < 1000)
    (q : ∀ H', Wd F ⟨A, G, M.set k (p, .dk ((ns ++ [z]).map .inr) (ss ++ [s])), S⟩ H' σ → D.nx σ H') : sDPut to ti te D σ H :=
  hv.run w fun v H1 w1 k1 g1 => ho.run w1 fun x H2 w2 k2 g2 => hi.run w2 fun y H3 w3 k3 g3 => by
    obtain rfl : x = .ref p := g2
    have e0 : y = .str z := g3.str
    subst e0
    obtain ⟨hA, kvs, e1, e2, e3⟩ := w3.cell (c := ⟨A, G, M, S⟩) hk
    have hlen : kvs.length = ns.length := by rw [← List.length_map (f := (·.1)), e2, List.length_map]
    refine ⟨p, _, rfl, DPut.k (k := .inr z) (v := v) e1 (by rw [hlen]; exact Nat.lt_of_lt_of_le hl (by decide)), ?_⟩
    have e4 : putK kvs (Sum.inr z : Key) v = kvs ++ [(.inr z, v)] := by
      unfold putK
      rw [if_neg]
      intro h
      obtain ⟨kv, h1, h2⟩ := List.any_eq_true.mp h
      have h3 : Sum.inr z ∈ kvs.map (·.1) := List.mem_map.mpr ⟨kv, h1, of_decide_eq_true h2⟩
      rw [e2] at h3
      obtain ⟨y, h4, h5⟩ := List.mem_map.mp h3
      cases h5
      exact hz h4
    rw [e4]
    have k0 : Kp A A H3 (upd H3 p (.dK (kvs ++ [(.inr z, v)]))) := fun b u nb e => ⟨nb, by rw [upd_ne (fun z => nb (by rw [z]; exact hA))]; exact e⟩
    have := (w3.write (c := ⟨A, G, M, S⟩) (cl' := .dk ((ns ++ [z]).map .inr) (ss ++ [s])) hk (fun _ z => by cases z) (fun _ z => by cases z) (fun _ z => by cases z) ⟨kvs ++ [(.inr z, v)], upd_same, by rw [List.map_append, List.map_append, e2]; rfl, by
      rw [List.map_append]
      exact Paired.snoc1 (SlAll.mono k0 e3) (SlOk.mono ((k2.trans k3).trans k0) g1)⟩).1
    exact q _ this
/-- o.m(), o a level, m changes nothing -/
theorem ev_lev0 {C p pp pn dx : Addr} {l : Lev} {i0 i1 i2 : Nat} {pre : Lev → Prop} {f : Lev → Dt} {m : Str} {E : XK} (h0 : c.M[i0]? = some (p, levIns C dx l pp pn)) (h1 : c.M[i1]? = some (pp, partsC l)) (h2 : c.M[i2]? = some (pn, numsC l)) (ha : EvP F c ta (.v (.ref p))) (hp : pre l) (hm : m ∉ levNs) (hf : plainD (f l) = true) :
    EvP F c (tMeth C m (SpP (fun l : Lev => [levObj C l]) pre fun l d => d = f l) [] E ta tNil) (.d (f l)) := fun c' x H σ w Q q =>
  ha c' x H σ w _ fun v H1 w1 k1 g1 => by
    obtain rfl : v = .ref p := g1
    have a0 := w1.cell (x.cell h0)
    have a1 := w1.cell (x.cell h1)
    have a2 := w1.cell (x.cell h2)
    obtain ⟨fs, e1, e2, e3⟩ := a0.2
    have hlk : fs.lookup m = none := by
      cases e : fs.lookup m with
      | none => rfl
      | some v =>
        have : m ∈ fs.map (·.1) := by
          clear e1 e2 e3
          induction fs with
          | nil => simp [List.lookup] at e
          | cons g r ih =>
            obtain ⟨g, y⟩ := g
            rw [lookup_put] at e
            by_cases h : m = g
            · rw [h]; simp
            · rw [if_neg h] at e; simp [ih e]
        rw [e2] at this
        exact absurd this hm
    refine ⟨p, dx, fs, rfl, e1, hlk, ?_⟩
    let B := c'.A.filter fun b => !(b == p || b == pp || b == pn)
    have hB : ∀ b ∈ B, b ∈ c'.A := fun b hb => (List.mem_filter.mp hb).1
    have hn : ∀ b, b = p ∨ b = pp ∨ b = pn → b ∉ B := fun b hb hm => by
      have := (List.mem_filter.mp hm).2
      rcases hb with rfl | rfl | rfl <;> simp at this
    refine ⟨B, l, w1.nA.filter _, fun b hb => w1.av b (hB b hb), .cons (lev_data a0.2 a1.2 a2.2 hB (hn _ (.inl rfl)) (hn _ (.inr (.inl rfl))) (hn _ (.inr (.inr rfl)))) .nil, hp, fun v2 H2 d hd le hq => ?_⟩
    subst hd
    refine q v2 H2 (w1.le le) (k1.trans (Kp.le le)) (Dq.plain (fun b hb => ?_) hf hq)
    by_cases e : b = p ∨ b = pp ∨ b = pn
    · right
      intro xs e5
      rcases e with rfl | rfl | rfl
      · have := CellOk.notup (cl := levIns C dx l pp pn) rfl ((w1.le le).cell (x.cell h0)).2
        exact this xs e5
      · exact CellOk.notup (plain_partsC l) ((w1.le le).cell (x.cell h1)).2 xs e5
      · exact CellOk.notup (plain_numsC l) ((w1.le le).cell (x.cell h2)).2 xs e5
    · left
      refine List.mem_filter.mpr ⟨hb, ?_⟩
      simp only [not_or] at e
      simp [e]
end
end DL

set_option Elab.async false
set_option linter.all false
set_option maxRecDepth 100000
set_option maxHeartbeats 1000000
namespace DL
open PySem PySem.Spec PyProof.Rows L2
/-- the promise of Level.put, of Level.__init__ -/
def spPutL (C : Addr) : Sp := fun vs H Q _ => ∃ (p pp pn dx : Addr) (v : V) (l : Lev) (f : Fm), vs = [.ref p, v] ∧ p ≠ pp ∧ p ≠ pn ∧ pp ≠ pn ∧ CellOk [] H p (levIns C dx l pp pn) ∧ CellOk [] H pp (partsC l) ∧ CellOk [] H pn (numsC l) ∧ l.parts.length < 1000 ∧ Dq H v f.enc ∧
  ∀ H' pn', H pn' = none → (∀ b o, b ≠ p → b ≠ pp → H b = some o → H' b = some o) → CellOk [] H' p (levIns C dx (l.put f) pp pn') → CellOk [] H' pp (partsC (l.put f)) → CellOk [] H' pn' (numsC (l.put f)) → Q .non H'
def spIniL (C : Addr) : Sp := fun vs H Q _ => ∃ (x dx : Addr) (n : Int), vs = [.ref x, .int n] ∧ H x = some (.ins C dx []) ∧
  ∀ H' pp pn, H pp = none → H pn = none → pp ≠ pn → (∀ b o, b ≠ x → H b = some o → H' b = some o) → H' x = some (.ins C dx [("above", .int n), ("word", .str ""), ("parts", .ref pp), ("numbers", .ref pn)]) → H' pp = some (.lst []) → H' pn = some (.lst []) → Q .non H'
section
variable {F : Fx} {H H' : Hp} {σ : L2.St} {D : Ends} {te ta tb to ti : TE} {s : Sl} {K : PySem.W.Frag} {u : TS} {tr : TA} {A : List Addr} {G : List (V × Dt)} {M : List (Addr × Cell)} {S : List Sl}
theorem set_mem {α : Type} {l : List α} {i : Nat} {x e : α} (h : e ∈ l.set i x) : e = x ∨ ∃ j, j ≠ i ∧ l[j]? = some e := by
  obtain ⟨j, hj⟩ := List.mem_iff_getElem?.mp h
  by_cases hij : i = j
  · subst hij
    rw [List.getElem?_set] at hj
    split at hj
    · split at hj
      · exact .inl (Option.some.inj hj).symm
      · cases hj
    · rename_i h2; exact absurd rfl h2
  · rw [List.getElem?_set_ne hij] at hj
    exact .inr ⟨j, fun e => hij e.symm, hj⟩
theorem set_fst {i : Nat} {p : Addr} {a b : Cell} (h : M[i]? = some (p, a)) : (M.set i (p, b)).map (·.1) = M.map (·.1) := by
  rw [List.map_set]
  apply List.ext_getElem?
  intro j
  by_cases hj : i = j
  · subst hj
    have hl := (List.getElem?_eq_some_iff.mp h).1
    rw [List.getElem?_set_self (by simpa using hl), List.getElem?_map, h]
    rfl
  · rw [List.getElem?_set_ne hj]
theorem set2_mem {α : Type} {l : List α} {i j : Nat} {x y e : α} (h : e ∈ (l.set i x).set j y) : e = y ∨ e = x ∨ ∃ t, t ≠ i ∧ t ≠ j ∧ l[t]? = some e := by
  rcases set_mem h with h | ⟨t, ht, h⟩
  · exact .inl h
  · by_cases hi : i = t
    · subst hi
      rw [List.getElem?_set] at h
      split at h
      · split at h
        · exact .inr (.inl (Option.some.inj h).symm)
        · cases h
      · rename_i h2; exact absurd rfl h2
    · rw [List.getElem?_set_ne hi] at h
      exact .inr (.inr ⟨t, fun e => hi e.symm, ht, h⟩)
theorem no_look {m : Str} : ∀ {fs : List (Str × V)}, m ∉ fs.map (·.1) → fs.lookup m = none
  | [], _ => rfl
  | (g, y) :: r, h => by
    rw [lookup_put, if_neg (fun e => h (by rw [e]; simp))]
    exact no_look fun h2 => h (by simp [h2])
/-- p.put(e) -/
theorem s_levPut {C p pp pn dx : Addr} {l : Lev} {f : Fm} {i0 i1 i2 : Nat} {E : XK} (w : Wd F ⟨A, G, M, S⟩ H σ) (h0 : M[i0]? = some (p, levIns C dx l pp pn)) (h1 : M[i1]? = some (pp, partsC l)) (h2 : M[i2]? = some (pn, numsC l)) (n01 : i0 ≠ i1) (n02 : i0 ≠ i2) (n12 : i1 ≠ i2)
    (hA : ∀ b ∈ A, b ∈ M.map (·.1)) (hpl : ∀ e ∈ M, plainC e.2 = true) (ha : EvP F ⟨A, G, M, S⟩ ta (.v (.ref p))) (he : EvP F ⟨A, G, M, S⟩ te (.d f.enc)) (hz : l.parts.length < 1000)
    (k : ∀ pn' H', H pn' = none → Wd F ⟨pn' :: A, G, ((M.set i0 (p, levIns C dx (l.put f) pp pn')).set i1 (pp, partsC (l.put f))) ++ [(pn', numsC (l.put f))], S⟩ H' σ → D.nx σ H') : tDrop (tMeth C "put" (spPutL C) [] E ta (tCons te tNil)) D σ H :=
  ha.run w fun v H1 w1 k1 g1 => by
    obtain rfl : v = .ref p := g1
    obtain ⟨fs, e1, e2, e3⟩ := (w1.cell (c := ⟨A, G, M, S⟩) h0).2
    have hlk := no_look (m := "put") (fs := fs) (by rw [e2]; decide)
    refine ⟨p, dx, fs, rfl, e1, hlk, he.run w1 fun v H2 w2 k2 g2 => ?_⟩
    have np : ∀ {i j : Nat} {x y : Addr} {a b : Cell}, M[i]? = some (x, a) → M[j]? = some (y, b) → i ≠ j → x ≠ y := fun ha hb hij e => by
      subst e
      exact hij (nodup_at w2.nd ha hb)
    refine ⟨p, pp, pn, dx, v, l, f, rfl, np h0 h1 n01, np h0 h2 n02, np h1 h2 n12, w2.cellE (List.mem_of_getElem? h0) rfl, w2.cellE (List.mem_of_getElem? h1) (plain_partsC l), w2.cellE (List.mem_of_getElem? h2) (plain_numsC l), hz, Dq.mono off_le g2, fun H3 pn' hn fr c0 c1 c2 => ?_⟩
    have hpA : ∀ b ∈ A, b ∈ M.map (·.1) := hA
    have hn0 : H pn' = none := by
      cases e : H pn' with
      | none => rfl
      | some o =>
        rcases Classical.em (pn' ∈ A) with hb | hb
        · obtain ⟨o2, h⟩ := w2.av pn' hb
          rw [hn] at h; cases h
        · have := ((k1.trans k2) pn' o hb e).2
          rw [hn] at this; cases this
    have hnA : pn' ∉ A := w2.free hn
    have nt : ∀ b ∈ pn' :: A, b ∈ ([] : List Addr) ∨ ∀ xs, H3 b ≠ some (.tup xs) := fun b hb => .inr (by
      rcases List.mem_cons.mp hb with rfl | hb
      · exact CellOk.notup (plain_numsC _) c2
      · obtain ⟨⟨q, cl⟩, he, rfl⟩ := List.mem_map.mp (hA b hb)
        intro xs
        by_cases hp : q = p
        · subst hp; exact CellOk.notup (cl := levIns C dx (l.put f) pp pn') rfl c0 xs
        · by_cases hpp : q = pp
          · subst hpp; exact CellOk.notup (plain_partsC _) c1 xs
          · have hc := w2.mO (q, cl) he
            obtain ⟨o, ho⟩ := CellOk.live (hpl _ he) hc
            intro e
            have := fr q o hp hpp ho
            rw [e] at this
            cases this
            exact CellOk.notup (hpl _ he) hc xs ho)
    have hset : (M.set i0 (p, levIns C dx (l.put f) pp pn'))[i1]? = some (pp, partsC l) := by rw [List.getElem?_set_ne n01]; exact h1
    have hfst : (((M.set i0 (p, levIns C dx (l.put f) pp pn')).set i1 (pp, partsC (l.put f))) ++ [(pn', numsC (l.put f))]).map (·.1) = M.map (·.1) ++ [pn'] := by
      rw [List.map_append, set_fst hset, set_fst h0]
      rfl
    refine k pn' H3 hn0 (w2.redo (Wr := [p, pp]) ?_ (fun b o hb e => fr b o (by simp at hb; exact hb.1) (by simp at hb; exact hb.2) e) (fun b hb => List.mem_cons_of_mem _ hb) (fun b hb => ?_) (fun b hb => ?_) (List.nodup_cons.mpr ⟨hnA, w2.nA⟩) (fun e he => ?_) ?_).1
    · intro b hb
      rcases List.mem_cons.mp hb with rfl | hb
      · exact List.mem_map.mpr ⟨_, List.mem_of_getElem? h0, rfl⟩
      · rw [List.mem_singleton] at hb; subst hb; exact List.mem_map.mpr ⟨_, List.mem_of_getElem? h1, rfl⟩
    · rcases List.mem_cons.mp hb with rfl | hb
      · exact .inr hn
      · exact .inl hb
    · rcases List.mem_cons.mp hb with rfl | hb
      · exact CellOk.live (plain_numsC _) c2
      · rcases Classical.em (b = p) with rfl | hp
        · exact CellOk.live (cl := levIns C dx (l.put f) pp pn') rfl c0
        · rcases Classical.em (b = pp) with rfl | hpp
          · exact CellOk.live (plain_partsC _) c1
          · obtain ⟨o, ho⟩ := w2.av b hb
            exact ⟨o, fr b o hp hpp ho⟩
    · rcases List.mem_append.mp he with he | he
      · rcases set2_mem he with rfl | rfl | ⟨t, ht0, ht1, hte⟩
        · exact .inr ⟨CellOk.plain nt (plain_partsC _) c1, List.mem_cons_of_mem _ (w2.mA (pp, partsC l) (List.mem_of_getElem? h1)), .inl (List.mem_map.mpr ⟨_, List.mem_of_getElem? h1, rfl⟩), plain_partsC _⟩
        · exact .inr ⟨CellOk.plain nt rfl c0, List.mem_cons_of_mem _ (w2.mA (p, levIns C dx l pp pn) (List.mem_of_getElem? h0)), .inl (List.mem_map.mpr ⟨_, List.mem_of_getElem? h0, rfl⟩), rfl⟩
        · have hem := List.mem_of_getElem? hte
          refine .inl ⟨hem, ?_, hpl _ hem⟩
          obtain ⟨q, cl⟩ := e
          simp only [List.mem_cons, List.not_mem_nil, or_false, not_or]
          exact ⟨np hte h0 ht0, np hte h1 ht1⟩
      · rw [List.mem_singleton] at he
        subst he
        exact .inr ⟨CellOk.plain nt (plain_numsC _) c2, List.mem_cons_self, .inr hn, plain_numsC _⟩
    · rw [hfst, List.nodup_append]
      refine ⟨w2.nd, by simp, fun b hb c hc => ?_⟩
      rw [List.mem_singleton] at hc
      subst hc
      intro e
      subst e
      obtain ⟨e, he, he2⟩ := List.mem_map.mp hb
      exact hnA (he2 ▸ w2.mA e he)
/-- ls.append(Level(n)) -/
theorem s_levNew {C lv : Addr} {n : Int} {ss : List Sl} {k : Nat} {E : XK} (w : Wd F ⟨A, G, M, S⟩ H σ) (hk : M[k]? = some (lv, .lst ss)) (hA : ∀ b ∈ A, b ∈ M.map (·.1)) (hpl : ∀ e ∈ M, plainC e.2 = true) (ho : EvP F ⟨A, G, M, S⟩ to (.v (.ref lv))) (hn : EvP F ⟨A, G, M, S⟩ te (.d (.int n))) (hz : ss.length < 100000)
    (q : ∀ x H', H x.p = none → H x.pp = none → H x.pn = none → x.l = Lev.new n → Wd F ⟨x.p :: x.pp :: x.pn :: A, G, (M.set k (lv, .lst (ss ++ [.v (.ref x.p)]))) ++ lcells C x, S⟩ H' σ → D.nx σ H') : tDrop (tBM K "list" rAppend to (tCons (tMake C (spIniL C) [] E (tCons te tNil)) tNil)) D σ H :=
  ho.run w fun v H1 w1 k1 g1 => by
    obtain rfl : v = .ref lv := g1
    refine ⟨tyL w1 hk, hn.run w1 fun v H2 w2 k2 g2 x dx hx hdx hne => ?_⟩
    have ev : v = .int n := g2.int
    subst ev
    refine ⟨x, dx, n, rfl, upd_same, fun H3 pp pn hpp hpn hne2 fr hX hP hN => ⟨rfl, ?_⟩⟩
    have m1 : pp ≠ x := fun e => by rw [e, upd_same] at hpp; cases hpp
    have m2 : pn ≠ x := fun e => by rw [e, upd_same] at hpn; cases hpn
    have m3 : pp ≠ dx := fun e => by rw [e, upd_ne hne, upd_same] at hpp; cases hpp
    have m4 : pn ≠ dx := fun e => by rw [e, upd_ne hne, upd_same] at hpn; cases hpn
    rw [upd_ne m1, upd_ne m3] at hpp
    rw [upd_ne m2, upd_ne m4] at hpn
    have kp : ∀ b o, H2 b = some o → H3 b = some o := fun b o e => by
      have b1 : b ≠ x := fun z => by rw [z, hx] at e; cases e
      have b2 : b ≠ dx := fun z => by rw [z, hdx] at e; cases e
      exact fr b o b1 (by rw [upd_ne b1, upd_ne b2]; exact e)
    let X : LA := ⟨x, pp, pn, dx, Lev.new n⟩
    have c0 : CellOk [] H3 x (levIns C dx (Lev.new n) pp pn) := ⟨_, hX, rfl, .cons (Dq.int _) (.cons (Dq.str _) (.cons rfl (.cons rfl .nil)))⟩
    have c1 : CellOk [] H3 pp (partsC (Lev.new n)) := ⟨_, hP, .nil⟩
    have c2 : CellOk [] H3 pn (numsC (Lev.new n)) := ⟨_, hN, .nil⟩
    have nA : x ∉ A ∧ pp ∉ A ∧ pn ∉ A := ⟨w2.free hx, w2.free hpp, w2.free hpn⟩
    have lw : ∀ e ∈ M, CellOk [] H3 e.1 e.2 := fun e he => by
      have hc := w2.cellE he (hpl e he)
      obtain ⟨o, ho⟩ := CellOk.live (hpl e he) hc
      exact CellOk.keep (hpl e he) (fun b o nb e => ⟨nb, kp b o e⟩) (by rw [ho, kp _ _ ho]) hc
    have nt : ∀ b ∈ x :: pp :: pn :: A, b ∈ ([] : List Addr) ∨ ∀ xs, H3 b ≠ some (.tup xs) := fun b hb => .inr (by
      rcases List.mem_cons.mp hb with rfl | hb
      · exact CellOk.notup rfl c0
      · rcases List.mem_cons.mp hb with rfl | hb
        · exact CellOk.notup (plain_partsC _) c1
        · rcases List.mem_cons.mp hb with rfl | hb
          · exact CellOk.notup (plain_numsC _) c2
          · obtain ⟨e, he, rfl⟩ := List.mem_map.mp (hA b hb)
            exact CellOk.notup (hpl e he) (lw e he))
    have w3 := (w2.redo (Wr := []) (A' := x :: pp :: pn :: A) (M' := M ++ lcells C X) (by simp) (fun b o _ e => kp b o e) (fun b hb => by simp [hb]) (fun b hb => by
      rcases List.mem_cons.mp hb with rfl | hb
      · exact .inr hx
      · rcases List.mem_cons.mp hb with rfl | hb
        · exact .inr hpp
        · rcases List.mem_cons.mp hb with rfl | hb
          · exact .inr hpn
          · exact .inl hb) (fun b hb => by
      rcases List.mem_cons.mp hb with rfl | hb
      · exact ⟨_, hX⟩
      · rcases List.mem_cons.mp hb with rfl | hb
        · exact ⟨_, hP⟩
        · rcases List.mem_cons.mp hb with rfl | hb
          · exact ⟨_, hN⟩
          · obtain ⟨o, ho⟩ := w2.av b hb
            exact ⟨o, kp _ _ ho⟩) (by
      simp only [List.nodup_cons, List.mem_cons, not_or]
      exact ⟨⟨m1.symm, m2.symm, nA.1⟩, ⟨hne2, nA.2.1⟩, nA.2.2, w2.nA⟩) (fun e he => by
      rcases List.mem_append.mp he with he | he
      · exact .inl ⟨he, by simp, hpl e he⟩
      · simp only [lcells, List.mem_cons, List.not_mem_nil, or_false] at he
        rcases he with rfl | rfl | rfl
        · exact .inr ⟨CellOk.plain nt rfl c0, by simp [X], .inr hx, rfl⟩
        · exact .inr ⟨CellOk.plain nt (plain_partsC _) c1, by simp [X], .inr hpp, plain_partsC _⟩
        · exact .inr ⟨CellOk.plain nt (plain_numsC _) c2, by simp [X], .inr hpn, plain_numsC _⟩) (by
      have hM : ∀ {b : Addr}, b ∉ A → b ∉ M.map (·.1) := fun hb h => by
        obtain ⟨e, he, rfl⟩ := List.mem_map.mp h
        exact hb (w2.mA e he)
      rw [List.map_append, List.nodup_append]
      refine ⟨w2.nd, ?_, fun a ha b hb e => ?_⟩
      · show [x, pp, pn].Nodup
        simp [m1.symm, m2.symm, hne2]
      · subst e
        have hb : a ∈ [x, pp, pn] := hb
        simp only [List.mem_cons, List.not_mem_nil, or_false] at hb
        rcases hb with rfl | rfl | rfl
        · exact hM nA.1 ha
        · exact hM nA.2.1 ha
        · exact hM nA.2.2 ha)).1
    have hkl := (List.getElem?_eq_some_iff.mp hk).1
    have hk3 : (M ++ lcells C X)[k]? = some (lv, .lst ss) := by rw [List.getElem?_append_left hkl]; exact hk
    obtain ⟨_, xs, e1, e2⟩ := w3.cell hk3
    obtain ⟨w4, _⟩ := w3.writeL (ss' := ss ++ [.v (.ref x)]) (xs' := xs ++ [.ref x]) hk3 (Paired.snoc1 e2 (show SlOk _ H3 (.v (.ref x)) (.ref x) from rfl))
    have none0 : ∀ {b : Addr}, H2 b = none → H b = none := fun {b} hb => by
      cases e : H b with
      | none => rfl
      | some o =>
        rcases Classical.em (b ∈ A) with hm | hm
        · obtain ⟨o2, h⟩ := w2.av b hm
          rw [hb] at h; cases h
        · have := ((k1.trans k2) b o hm e).2
          rw [hb] at this; cases this
    refine ⟨lv, xs, .ref x, rfl, rfl, e1, ?_, ?_⟩
    · have := e2.length
      rw [← this]
      exact Nat.lt_of_lt_of_le hz (by decide)
    · refine q X _ (none0 hx) (none0 hpp) (none0 hpn) rfl ?_
      rw [← List.set_append_left _ _ hkl]
      exact w4
/-- the parser's state at the end of a def -/
theorem rd_end {W : List Addr} {H0 : Hp} {c : Ct} {Cr Cl : Addr} {g : RG} {J : List (Addr × Cell)} (w : Wd ⟨W, H0⟩ c H' σ) (hp : c.M.Perm (g.cells Cr Cl ++ J)) : RdAt Cr Cl H' g ∧ ∀ b ∈ g.addrs Cr Cl, b ∈ W ∨ H0 b = none := by
  have hm : ∀ e ∈ g.cells Cr Cl, e ∈ c.M := fun e he => hp.mem_iff.mpr (List.mem_append_left _ he)
  refine ⟨⟨?_, fun e he => w.cellE (hm e he) (plain_cells e he)⟩, fun b hb => ?_⟩
  · have := (hp.map (·.1)).nodup_iff.mp w.nd
    rw [List.map_append, List.nodup_append] at this
    exact this.1
  · obtain ⟨e, he, rfl⟩ := List.mem_map.mp hb
    exact w.mW e (hm e he)
end
structure RM where
  due : Str
  names : List Str
  levs : List Lev
def RG.m (g : RG) : RM := ⟨g.due, g.names, g.st.map (·.l)⟩
/-- what holds of the state between two words -/
structure RmOk (m : RM) : Prop where
  nums : ∀ l ∈ m.levs, ∀ n ∈ l.nums, 0 ≤ n ∧ n ≤ 60
  count : ∀ l ∈ m.levs, l.nums.length ≤ 80000
  parts : (m.levs.map (·.parts.length)).sum ≤ m.names.length
  few : m.names.length ≤ 8
  top : m.due = "joint" → ∀ t b, m.levs = t :: b → t.parts ≠ []
end DL

set_option Elab.async false
set_option linter.all false
set_option maxRecDepth 100000
set_option maxHeartbeats 1000000
/-! a list by a comprehension whose row of items wants a token that is out (str.replace of written texts) -/
namespace DL
open PySem PySem.Spec PyProof.Rows L2
section
variable {Y : Cx} {tg elt iter : Expr} {ifs : List Expr} {scope : Scope} {pos : Pos} {it D : Addr} {fp : List Addr} {tn : Nat → Heap → Prop} {J : It} {g : TG} {tt : TT} {te : TE} {τ : L2.St} {vs : List Nat} {W : Nat → Nat → Hp → Prop} {Q : VK} {R : Result → Shared → Prop}
/-- the iterator's own places, within the block that walks it -/
theorem own_places (hx : Y.ex = fp) (hp : Y.pn = []) {σ : L2.St} {H : Hp} {s : Shared} (B : Inv Y [] σ H s) (z : ∀ b ∈ fp, H b = none) : ∀ b ∈ fp, FpOk Y [] H b := fun b hb => by
  subst hx
  exact ⟨z b hb, (B.ok.exf b hb).1, B.ok.exfs b hb, .inl hb, (B.ok.exf b hb).2, fun p hq => by rw [hp] at hq; cases hq⟩
/-- the walk, from any turn on -/
theorem walk_on (T : Turn Y.prog Y.w Y.K tg J fp it tn) (hcalm : Y.calm = true) (hx : Y.ex = fp) (hp : Y.pn = []) (hxe : Y.xe = fun _ _ => False) (pg : PG Y tg g) (pt : PTs Y ifs tt) (pe : PE Y elt te)
    (lap : ∀ i m H, W i m H → (J.stop i H ∧ Q (.ref D) H) ∨ (J.go i H ∧ ∃ Nx : Hp → Prop, (∀ H', Nx H' → ∃ m', m' < m ∧ W (i + 1) m' H') ∧ ∀ x H', J.yld i H x H' → g x (wipe τ vs) H' fun σ2 H2 => wipe σ2 vs = wipe τ vs ∧ tt σ2 H2 fun b H3 =>
      if b = true then te σ2 H3 fun y H4 => ∃ acc, H4 D = some (.lst acc) ∧ acc.length < sizeLine ∧ Nx (upd H4 D (.lst (acc ++ [y]))) else Nx H3))
    (fin : ∀ H s, Inv Y [] (wipe τ vs) H s → Q (.ref D) H → R (.ok .next) s) {m : Nat} {H : Hp} {s : Shared} (h0 : W 0 m H) (B : Inv Y [] (wipe τ vs) H s) (ht : tn 0 s.heap) (hz : ∀ b ∈ fp, H b = none) :
    codeAny (model Y.prog Y.w) Y.A (.compLoop (.ListComp elt [⟨tg, iter, ifs, 0⟩] scope pos) 0 (.ref it) (.ref D) Y.env) R s := by
  let Here : Nat → Shared → Prop := fun n u => ∃ i K, W i n K ∧ Inv Y [] (wipe τ vs) K u ∧ tn i u.heap ∧ ∀ b ∈ fp, K b = none
  refine compLoop_any Here (fun n u hu => ?_) m ⟨0, H, h0, B, ht, hz⟩
  obtain ⟨i, K, hW, BK, tK, zK⟩ := hu
  have places := own_places hx hp BK zK
  rcases lap i n K hW with ⟨hs, hq⟩ | ⟨hg, Nx, shorter, turn⟩
  · -- no item is left
    refine thnF (T.done Y rfl rfl rfl hcalm i [] u _ K _ BK places tK hs) fun r u1 hr => ?_
    obtain ⟨rfl, B1⟩ := hr
    exact fin K u1 B1 hq
  refine thnF (T.item Y rfl rfl rfl hcalm i [] u _ K _ BK places tK hg) fun r u1 hr => ?_
  obtain ⟨val, rfl, hgo⟩ := hr
  refine thnF hgo fun _ u2 h2 => ?_
  obtain ⟨x, K2, B2, rx, hy, t2, z2⟩ := h2
  have B2p := B2.pinned (own_places hx hp B2 z2) (T.obj _ _ t2)
  -- behind the turn, whatever its end
  have next : ∀ {σ3 : L2.St} {K3 : Hp} {u3 : Shared}, wipe σ3 vs = wipe τ vs → Inv Y ([] ++ pinsAt fp u2.heap) σ3 K3 u3 → Nx K3 → ∃ m', m' < n ∧ Here m' u3 := by
    intro σ3 K3 u3 hw B3 nx
    obtain ⟨m', hlt, hW'⟩ := shorter K3 nx
    have stays : ∀ b ∈ fp, ∀ o, u2.heap.get? b = some o → u3.heap.get? b = some o ∧ K3 b = none := fun b hb o e => by
      have := B3.pin (b, o) (List.mem_append_right _ (List.mem_append_right _ (mem_pinsAt hb e)))
      exact ⟨this.1, this.2.1⟩
    refine ⟨m', hlt, i + 1, K3, hW', ?_, T.keep _ _ _ t2 fun b hb o e => (stays b hb o e).1, fun b hb => ?_⟩
    · refine (B3.unpinned (pins := [])).weak (by rw [← hw, wipe_length]) fun j v e => ?_
      rw [← hw] at e
      exact (wipe_some e).1
    · obtain ⟨o, e, _⟩ := T.obj _ _ t2 b hb
      exact (stays b hb o e).2
  have pg2 := pg.run _ u2 _ K2 x val _ B2p rx (turn x K2 hy)
  rw [hxe] at pg2
  refine thnF pg2 fun _ u3 h3 => ?_
  obtain ⟨σ3, K3, B3, hw, q3⟩ := h3
  have pt2 := pt.run _ u3 σ3 K3 _ B3 q3
  rw [hxe] at pt2
  refine thnF pt2 fun yes u4 h4 => ?_
  obtain ⟨K4, B4, q4⟩ := h4
  cases yes with
  | false =>
    rw [if_neg Bool.false_ne_true] at q4 ⊢
    exact next hw B4 q4
  | true =>
    rw [if_pos rfl] at q4 ⊢
    have pe2 := pe.run _ u4 σ3 K4 _ B4 q4
    rw [hxe] at pe2
    refine thnF pe2 fun y u5 h5 => ?_
    obtain ⟨yv, K5, B5, ry, acc, hacc, hlen, nx⟩ := h5
    exact app_ok (X := Y) B5 hacc hlen ry fun u6 B6 => next hw B6 nx
end
section
variable {X : Cx} {i : Nat} {y : Str} {py pos spos : Pos} {elt tg iter : Expr} {ifs : List Expr} {scope : Scope} {own : List (Str × Nat)} {wi : TI} {g : TG} {tt : TT} {te : TE}
/-- y = [.. for .. in iter if ..], one token out -/
theorem pst_setLcT (hc : X.calm = true) (hN : X.N.Nodup) (hy : X.N[i]? = some y) (hyl : X.env.scope.names.lookup y = some .local) (hsw : swapsWith (.ListComp elt [⟨tg, iter, ifs, 0⟩] scope pos) (some (.Name y py)) spos.line X.env = pure true)
    (hi : PIT X tg iter wi) (ok : BlkOk X.N X.env.scope scope own)
    (hg : ∀ (u : Shared) (K : Hp) (C : Addr) (cl : List (Str × Addr)) (fp : List Addr), PG (X.blk u K scope (compEnvC scope cl C X.env) fp) tg g)
    (ht : ∀ (u : Shared) (K : Hp) (C : Addr) (cl : List (Str × Addr)) (fp : List Addr), PTs (X.blk u K scope (compEnvC scope cl C X.env) fp) ifs tt)
    (he : ∀ (u : Shared) (K : Hp) (C : Addr) (cl : List (Str × Addr)) (fp : List Addr), PE (X.blk u K scope (compEnvC scope cl C X.env) fp) elt te) (hs : ∀ x, foldedSetIterable iter X.env x = pure x := by intro _; rfl) :
    PST X (.Assign [.Name y py] (.ListComp elt [⟨tg, iter, ifs, 0⟩] scope pos) spos) (tAsg (tLc wi g tt te (own.map (·.2))) (gName i)) := by
  intro pins s σ H Dn tok I h
  have h : tLc wi g tt te (own.map (·.2)) σ H (fun x H1 => gName i x σ H1 Dn.nx) := h
  have clo : ∀ z ∈ scope.names, z.2 = .free → ∃ c, X.env.cells.lookup z.1 = some c := fun z hz e => (ok.free z hz e).elim (fun k => I.ok.has _ (.inl k)) fun k => I.ok.has _ (.inr k)
  rw [exec_Assign_Name_used _ _ _ _ hsw]
  refine wpAny_bind (wpAny_standAt (wpAny_bind (?_ : wpAny _ X.A (do let _ ← comprehension (.ListComp elt [⟨tg, iter, ifs, 0⟩] scope pos) scope X.env (firstIterPos [⟨tg, iter, ifs, 0⟩] pos) (newList []) false (eval iter X.env) (some (assign (.Name y py) X.env))) _ _ s)))
  refine wpAny_bind (wpAny_comprehension_free (Q := fun _ s' => wpAny _ X.A (pure ()) (fun _ s2 => wpAny _ X.A (pure Flow.next) (SP X pins Dn) X.xe s2) X.xe s') rfl hs (closure_ok clo) ok.kind (fun z hz e => by rw [ok.uniq z hz, e]) (thn (hi pins s σ H _ tok I h) fun xv s1 h1 => thn h1 fun itv s2 h2 => ?_))
  obtain ⟨it, fp, tn, J, K2, rfl, I2, T, t2, pl, q⟩ := h2
  refine wpAny_newObj_type (newEnv_comp ?_) (by show 0 ≤ sizeLine; decide)
  obtain ⟨W, ⟨m, hW⟩, lap⟩ := q s2.heap.objs.size (I2.hok.fresh (Nat.le_refl _))
  have hlist : (s2.heap.push { cls := .type "list", data := .seq ([] : List Value).toArray }).get? s2.heap.objs.size = some { cls := .type "list", data := .seq ([] : List Value).toArray } := Heap.get?_push_size _ rfl
  have I3 : Inv X pins σ (upd K2 s2.heap.objs.size (.lst [])) { s2 with heap := s2.heap.push { cls := .type "list", data := .seq ([] : List Value).toArray } } :=
    I2.laid (t' := s2.toks) (fun b o e => Heap.get?_push_of_some _ e) (Nat.le_refl _) ⟨Nat.zero_le _, [], 0, .nil, hlist⟩
  have below : ∀ b ∈ fp, b < s2.heap.objs.size := fun b hb => by
    obtain ⟨o, e, _⟩ := T.obj _ _ t2 b hb
    exact Heap.lt_size e
  have pl3 : ∀ b ∈ fp, FpOk X pins (upd K2 s2.heap.objs.size (.lst [])) b ∧ b < (s2.heap.push { cls := .type "list", data := .seq ([] : List Value).toArray }).objs.size := fun b hb =>
    ⟨⟨by rw [upd_ne (Nat.ne_of_lt (below b hb))]; exact (pl b hb).1, (pl b hb).2⟩, by rw [Heap.size_push]; exact Nat.lt_succ_of_lt (below b hb)⟩
  have t3 : tn 0 (s2.heap.push { cls := .type "list", data := .seq ([] : List Value).toArray }) := T.keep _ _ _ t2 fun b _ o e => Heap.get?_push_of_some _ e
  have B := block_start I3 ok hN pl3
  generalize hu3 : ({ s2 with heap := s2.heap.push { cls := .type "list", data := .seq ([] : List Value).toArray } } : Shared) = u3 at I3 B
  have h3 : u3.heap = s2.heap.push { cls := .type "list", data := .seq ([] : List Value).toArray } := by rw [← hu3]
  have keeps4 : ∀ b o, u3.heap.get? b = some o → (pushCells (u3.heap.push { cls := .type "dict", data := .dict #[] }) scope.names).get? b = some o := fun b o e => pushCells_keeps _ _ _ _ (Heap.get?_push_of_some _ e)
  have t4 : tn 0 (pushCells (u3.heap.push { cls := .type "dict", data := .dict #[] }) scope.names) := T.keep _ _ _ t3 fun b _ o e => keeps4 b o (by rw [h3]; exact e)
  have pl4 : ∀ b ∈ fp, upd K2 s2.heap.objs.size (.lst []) b = none := fun b hb => (pl3 b hb).1.1
  have done := walk_on (Y := X.blk u3 (upd K2 s2.heap.objs.size (.lst [])) scope (compEnvC scope (cellsFrom (u3.heap.objs.size + 1) scope.names (cloFrom X.env.cells scope.names [])) u3.heap.objs.size X.env) fp) (R := compPost (model X.prog X.w) X.A X.xe (some (assign (.Name y py) X.env)) (fun _ s' => wpAny (model X.prog X.w) X.A (pure ()) (fun _ s2 => wpAny (model X.prog X.w) X.A (pure Flow.next) (SP X pins Dn) X.xe s2) X.xe s') (.ref s2.heap.objs.size) u3.heap.objs.size)
    (D := s2.heap.objs.size) (Q := fun x H1 => gName i x σ H1 Dn.nx) (elt := elt) (iter := iter) (scope := scope) (pos := pos) (τ := σ) (vs := own.map (·.2)) T hc rfl rfl rfl (hg _ _ _ _ _) (ht _ _ _ _ _) (he _ _ _ _ _) lap (fun K u BK qK => ?_) hW B t4 pl4
  · show codeAny _ _ (.compStart (.ListComp elt [⟨tg, iter, ifs, 0⟩] scope pos) 0 (.ref it) (.ref s2.heap.objs.size) (compEnvC scope (cellsFrom (_ + 1) scope.names (cloFrom X.env.cells scope.names [])) _ X.env)) (compPost _ _ _ _ _ _ _) _
    rw [h3] at done t4
    subst hu3
    exact codeAny_compStart_list done (T.self X.A 0 _ _ _ t4 done)
  · -- the walk is over: the list is stored under its name
    have back : Inv X pins σ K u := I3.call' (ch := fp) BK.os BK.base BK.hok BK.bare fun b hb => ⟨(pl3 b hb).1.2.2.2.1, (pl3 b hb).1.2.1, (pl3 b hb).1.2.2.2.2.1, (pl3 b hb).1.2.2.2.2.2⟩
    have zC : K u3.heap.objs.size = none := BK.free
    obtain ⟨mC, hmC, _⟩ := BK.loc
    obtain ⟨f0, f1, f2, f3, f4, f5⟩ := I3.fpOk (H' := K) (Nat.le_refl u3.heap.objs.size) zC
    refine wpAny_assign_Name (store_ok2 (v := V.ref s2.heap.objs.size) back hN hy (.inl hyl) rfl (fun u5 I5 hu5 => ?_) (.inr hyl))
    obtain ⟨a, same, ha⟩ := hu5
    have ne : u3.heap.objs.size ≠ a := ha.elim (fun z => by rw [z]; exact f1) fun z e => f4 y a z e.symm
    refine ⟨mC, Heap.Ns.sameBut hmC same ne, fun h6 same6 => wpAny_pure (wpAny_pure ⟨_, K, ?_, qK⟩)⟩
    exact I5.turned (t' := u5.toks) (fun b o hb e => (same6.2 b hb).trans e) f0 f1 f3 f4 f5
end
end DL
namespace DL
open PySem PySem.Spec PyProof.Rows L2
section
variable {X : Cx} {o e : Expr} {to te : TE}
theorem pet_split {apos pos : Pos} (ho : PET X o to) (he : PE X e te) (hs : starEach [e] X.env = [(false, eval e X.env)] := by rfl) (hbase : attributeBase o "split" X.env (eval o X.env) = eval o X.env := by rfl) (hline : (apos.endLine == pos.line) = true := by rfl) :
    PET X (.Call (.Attribute o "split" apos) [e] [] pos) (tM1 qSplit to te) := by
  intro pins s σ H Q tok I h
  refine PySem.Call_method1 hbase hs hline (thn (ho pins s σ H _ tok I h) fun v s1 hv => ?_)
  obtain ⟨x, H1, I1, r1, ⟨a, rfl⟩, q1⟩ := hv
  have r1' := r1
  obtain ⟨t, rfl⟩ := _root_.id r1
  refine ⟨"str", _, PySem.F.plainAttrs_str, PySem.F.slot_str_split, PySem.F.type_str_split, typeIs_str _ _ _, (fun _ e => nomatch e), Calls.callWith_builtin rfl (Calls.evalArgs_plain (Calls.spliced_cons (thn (he.run pins s1 σ H1 _ I1 q1) fun u s2 hu => ?_)))⟩
  obtain ⟨y, H2, I2, r2, q2⟩ := hu
  exact Calls.spliced_nil (mt_split pins s2 σ H2 _ [y] _ [u] Q I2 r1' (.cons r2 .nil) q2)
end
end DL

set_option Elab.async false
set_option linter.all false
set_option maxRecDepth 100000
set_option maxHeartbeats 1000000
namespace DL
open PySem PySem.Spec PyProof.Rows L2
section
variable {H H' H0 : Hp} {σ : L2.St} {D : Ends} {te ta tb to ti : TE} {s : Sl} {K : PySem.W.Frag} {u : TS} {tr : TA}
/-- a world whose own cells are the parser's state -/
theorem Wd.toRd {c : Ct} {Cr Cl : Addr} {g : RG} (w : Wd ⟨[], H0⟩ c H σ) (hcm : ∀ b ∈ c.A, b ∈ c.M.map (·.1)) (hR : RdAt Cr Cl H' g) (fr : ∀ b o, b ∉ c.A → H b = some o → H' b = some o) (fresh : ∀ b ∈ g.addrs Cr Cl, b ∈ c.A ∨ H b = none) :
    Wd ⟨[], H0⟩ ⟨g.addrs Cr Cl, c.G, g.cells Cr Cl, c.S⟩ H' σ := by
  have k : Kp c.A (g.addrs Cr Cl) H H' := by
    intro b o nb e
    refine ⟨fun hb => ?_, fr b o nb e⟩
    rcases fresh b hb with h | h
    · exact nb h
    · rw [h] at e; cases e
  have new0 : ∀ b ∈ c.A, H0 b = none := fun b hb => by
    obtain ⟨e, he, rfl⟩ := List.mem_map.mp (hcm b hb)
    rcases w.mW e he with h | h
    · simp at h
    · exact h
  have nt : ∀ b ∈ g.addrs Cr Cl, b ∈ ([] : List Addr) ∨ ∀ xs, H' b ≠ some (.tup xs) := fun b hb => by
    obtain ⟨e, he, rfl⟩ := List.mem_map.mp hb
    exact .inr (CellOk.notup (plain_cells e he) (hR.ok e he))
  refine ⟨fun b o nb e => ?_, fun b hb => ?_, fun b hb => by simp at hb, hR.nd, fun e he => List.mem_map_of_mem he, fun e he => CellOk.plain nt (plain_cells e he) (hR.ok e he), fun e he => .inr ?_, hR.nd, fun e he lp hl => ?_, fun e he => Dq.mono k.off (w.gs e he), Paired.mapP w.sl fun _ _ q => SlotOk.mono k q⟩
  · refine fr b o (fun hb => ?_) (w.fr b o nb e)
    cases e.symm.trans (new0 b hb)
  · obtain ⟨e, he, rfl⟩ := List.mem_map.mp hb
    exact CellOk.live (plain_cells e he) (hR.ok e he)
  · rcases fresh e.1 (List.mem_map_of_mem he) with h | h
    · exact new0 _ h
    · exact w.free0 h
  · have := plain_cells e he
    rw [hl] at this
    cases this
theorem Wd.rdAt {G : List (V × Dt)} {S : List Sl} {Cr Cl : Addr} {g : RG} (w : Wd ⟨[], H0⟩ ⟨g.addrs Cr Cl, G, g.cells Cr Cl, S⟩ H σ) : RdAt Cr Cl H g := ⟨w.nd, fun e he => w.cellE he (plain_cells e he)⟩
/-- an own exception is made and thrown: its one field -/
theorem mk_at {C : Addr} {fld : Str} {n : Int} {E : XK} (ht : ∀ Q : List V → Hp → Prop, (∀ H1, (∀ b o, H0 b = some o → H1 b = some o) → Q [.int n] H1) → tr σ H Q)
    (q : ∀ dd Hf, Le H0 Hf → H0 dd = none → Hf dd = some (.xd [(fld, .int n)]) → E (.ref C) (some dd) Hf) : tMkO C (spIni C fld) [] tr σ H (fun cls d H' => E cls d H') := by
  refine ht _ fun H1 l1 => ⟨by simp, fun a ha => ⟨a, .int n, rfl, upd_same, fun dx hdx hne => ⟨rfl, dx, [(fld, .int n)], upd_same, ?_, ?_, ?_⟩⟩⟩
  · rw [upd_ne hne, upd_same]
  · rw [upd_ne hne] at hdx
    exact hdx
  · rw [upd_ne hne] at hdx
    have h0 : H0 dx = none := by
      cases e : H0 dx with
      | none => rfl
      | some o => rw [l1 _ _ e] at hdx; cases hdx
    refine q dx _ (fun b o e => ?_) h0 upd_same
    have e1 := l1 b o e
    have b1 : b ≠ a := fun z => by rw [z, ha] at e1; cases e1
    have b2 : b ≠ dx := fun z => by rw [z, hdx] at e1; cases e1
    rw [upd_ne b2, del_ne b1, upd_ne b1, upd_ne b2, upd_ne b1]
    exact e1
theorem ev_iS {F : Fx} {c : Ct} {wi : TI} {ys : List Str} (h : EvI F c wi ((dStrs ys).map Sl.d)) : EvI F c wi (ys.map fun y => Sl.d (.str y)) := by
  have e : (dStrs ys).map Sl.d = ys.map fun y => Sl.d (.str y) := by rw [dStrs, List.map_map]; rfl
  rw [← e]
  exact h
end
end DL

set_option Elab.async false
set_option linter.all false
set_option maxRecDepth 100000
set_option maxHeartbeats 1000000
namespace K77
open PySem PySem.Spec PyProof.Rows L2 DL
def top (i : Nat) : Stmt := PySem.Challenge.pw_asmany_k77_whole_texts_with_fifty_parent.main.body.getD i (.Pass ⟨0, 0, 0, 0⟩)
/-! InvalidText.__init__: 0 self, 1 at -/
abbrev s_InvalidText_init : Stmt := inClass (top 2) 0
abbrev N_InvalidText_init : List Str := ["self", "at"]
abbrev P_InvalidText_init : List Str := ["self", "at"]
/-! is_name: 0 value, 1 sign -/
abbrev s_is_name : Stmt := top 7
abbrev N_is_name : List Str := ["value", "sign"]
abbrev P_is_name : List Str := ["value"]
theorem sc_is_name : FnScope N_is_name P_is_name (defScope s_is_name) := ⟨rfl, rfl, rfl, by decide +kernel, rfl, by decide +kernel, by decide +kernel⟩
/-! read_amount: 0 word, 1 sign -/
abbrev s_read_amount : Stmt := top 11
abbrev N_read_amount : List Str := ["word", "sign"]
abbrev P_read_amount : List Str := ["word"]
theorem sc_read_amount : FnScope N_read_amount P_read_amount (defScope s_read_amount) := ⟨rfl, rfl, rfl, by decide +kernel, rfl, by decide +kernel, by decide +kernel⟩
/-! show_part: 0 formula, 1 text -/
abbrev s_show_part : Stmt := top 13
abbrev N_show_part : List Str := ["formula", "text"]
abbrev P_show_part : List Str := ["formula"]
theorem sc_show_part : FnScope N_show_part P_show_part (defScope s_show_part) := ⟨rfl, rfl, rfl, by decide +kernel, rfl, by decide +kernel, by decide +kernel⟩
/-! show_formula: 0 formula, 1 part -/
abbrev s_show_formula : Stmt := top 14
abbrev N_show_formula : List Str := ["formula", "part"]
abbrev P_show_formula : List Str := ["formula"]
theorem sc_show_formula : FnScope N_show_formula P_show_formula (defScope s_show_formula) := ⟨rfl, rfl, rfl, by decide +kernel, rfl, by decide +kernel, by decide +kernel⟩
/-! Level.__init__: 0 self, 1 above -/
abbrev s_Level_init : Stmt := inClass (top 15) 0
abbrev N_Level_init : List Str := ["self", "above"]
abbrev P_Level_init : List Str := ["self", "above"]
theorem sc_Level_init : FnScope N_Level_init P_Level_init (defScope s_Level_init) := ⟨rfl, rfl, rfl, by decide +kernel, rfl, by decide +kernel, by decide +kernel⟩
/-! Level.weight: 0 self, 1 found, 2 number -/
abbrev s_Level_weight : Stmt := inClass (top 15) 1
abbrev N_Level_weight : List Str := ["self", "found", "number"]
abbrev P_Level_weight : List Str := ["self"]
theorem sc_Level_weight : FnScope N_Level_weight P_Level_weight (defScope s_Level_weight) := ⟨rfl, rfl, rfl, by decide +kernel, rfl, by decide +kernel, by decide +kernel⟩
/-! Level.put: 0 self, 1 part, 2 number -/
abbrev s_Level_put : Stmt := inClass (top 15) 2
abbrev N_Level_put : List Str := ["self", "part", "number"]
abbrev P_Level_put : List Str := ["self", "part"]
theorem sc_Level_put : FnScope N_Level_put P_Level_put (defScope s_Level_put) := ⟨rfl, rfl, rfl, by decide +kernel, rfl, by decide +kernel, by decide +kernel⟩
/-! Level.whole_part: 0 self -/
abbrev s_Level_whole_part : Stmt := inClass (top 15) 3
abbrev N_Level_whole_part : List Str := ["self"]
abbrev P_Level_whole_part : List Str := ["self"]
theorem sc_Level_whole_part : FnScope N_Level_whole_part P_Level_whole_part (defScope s_Level_whole_part) := ⟨rfl, rfl, rfl, by decide +kernel, rfl, by decide +kernel, by decide +kernel⟩
/-! Reading.__init__: 0 self -/
abbrev s_Reading_init : Stmt := inClass (top 16) 0
abbrev N_Reading_init : List Str := ["self"]
abbrev P_Reading_init : List Str := ["self"]
theorem sc_Reading_init : FnScope N_Reading_init P_Reading_init (defScope s_Reading_init) := ⟨rfl, rfl, rfl, by decide +kernel, rfl, by decide +kernel, by decide +kernel⟩
/-! Reading.take: 0 self, 1 word -/
abbrev s_Reading_take : Stmt := inClass (top 16) 1
abbrev N_Reading_take : List Str := ["self", "word"]
abbrev P_Reading_take : List Str := ["self", "word"]
theorem sc_Reading_take : FnScope N_Reading_take P_Reading_take (defScope s_Reading_take) := ⟨rfl, rfl, rfl, by decide +kernel, rfl, by decide +kernel, by decide +kernel⟩
/-! Reading.begin: 0 self, 1 level, 2 word -/
abbrev s_Reading_begin : Stmt := inClass (top 16) 2
abbrev N_Reading_begin : List Str := ["self", "level", "word"]
abbrev P_Reading_begin : List Str := ["self", "level", "word"]
theorem sc_Reading_begin : FnScope N_Reading_begin P_Reading_begin (defScope s_Reading_begin) := ⟨rfl, rfl, rfl, by decide +kernel, rfl, by decide +kernel, by decide +kernel⟩
/-! Reading.go_on: 0 self, 1 level, 2 word -/
abbrev s_Reading_go_on : Stmt := inClass (top 16) 3
abbrev N_Reading_go_on : List Str := ["self", "level", "word"]
abbrev P_Reading_go_on : List Str := ["self", "level", "word"]
theorem sc_Reading_go_on : FnScope N_Reading_go_on P_Reading_go_on (defScope s_Reading_go_on) := ⟨rfl, rfl, rfl, by decide +kernel, rfl, by decide +kernel, by decide +kernel⟩
/-! read_formula: 0 text, 1 words, 2 reading, 3 at, 4 word -/
abbrev s_read_formula : Stmt := top 17
abbrev N_read_formula : List Str := ["text", "words", "reading", "at", "word"]
abbrev P_read_formula : List Str := ["text"]
theorem sc_read_formula : FnScope N_read_formula P_read_formula (defScope s_read_formula) := ⟨rfl, rfl, rfl, by decide +kernel, rfl, by decide +kernel, by decide +kernel⟩
/-! _law_heap: 0 script, 1 cells, 2 stir, 3 cell -/
abbrev s_heap : Stmt := top 19
abbrev N_heap : List Str := ["script", "cells", "stir", "cell"]
abbrev P_heap : List Str := ["script"]
theorem sc_heap : FnScope N_heap P_heap (defScope s_heap) := ⟨rfl, rfl, rfl, by decide +kernel, rfl, by decide +kernel, by decide +kernel⟩
/-! _law_draw: 0 heap, 1 many, 2 rest -/
abbrev s_draw : Stmt := top 20
abbrev N_draw : List Str := ["heap", "many", "rest"]
abbrev P_draw : List Str := ["heap", "many"]
theorem sc_draw : FnScope N_draw P_draw (defScope s_draw) := ⟨rfl, rfl, rfl, by decide +kernel, rfl, by decide +kernel, by decide +kernel⟩
/-! _law_pick: 0 heap, 1 some -/
abbrev s_pick : Stmt := top 21
abbrev N_pick : List Str := ["heap", "some"]
abbrev P_pick : List Str := ["heap", "some"]
theorem sc_pick : FnScope N_pick P_pick (defScope s_pick) := ⟨rfl, rfl, rfl, by decide +kernel, rfl, by decide +kernel, by decide +kernel⟩
/-! _law_shuffled: 0 heap, 1 some, 2 rest, 3 found, 4 turn -/
abbrev s_shuffled : Stmt := top 22
abbrev N_shuffled : List Str := ["heap", "some", "rest", "found", "turn"]
abbrev P_shuffled : List Str := ["heap", "some"]
theorem sc_shuffled : FnScope N_shuffled P_shuffled (defScope s_shuffled) := ⟨rfl, rfl, rfl, by decide +kernel, rfl, by decide +kernel, by decide +kernel⟩
/-! _law_formula: 0 heap, 1 names, 2 most, 3 deep, 4 number, 5 first, 6 lots, 7 second, 8 lot -/
abbrev s_formula : Stmt := top 23
abbrev N_formula : List Str := ["heap", "names", "most", "deep", "number", "first", "lots", "second", "lot"]
abbrev P_formula : List Str := ["heap", "names", "most", "deep"]
theorem sc_formula : FnScope N_formula P_formula (defScope s_formula) := ⟨rfl, rfl, rfl, by decide +kernel, rfl, by decide +kernel, by decide +kernel⟩
/-! _law_names: 0 heap, 1 many -/
abbrev s_names : Stmt := top 24
abbrev N_names : List Str := ["heap", "many"]
abbrev P_names : List Str := ["heap", "many"]
theorem sc_names : FnScope N_names P_names (defScope s_names) := ⟨rfl, rfl, rfl, by decide +kernel, rfl, by decide +kernel, by decide +kernel⟩
/-! _law_kinds: 0 formula, 1 found, 2 part -/
abbrev s_kinds : Stmt := top 25
abbrev N_kinds : List Str := ["formula", "found", "part"]
abbrev P_kinds : List Str := ["formula"]
theorem sc_kinds : FnScope N_kinds P_kinds (defScope s_kinds) := ⟨rfl, rfl, rfl, by decide +kernel, rfl, by decide +kernel, by decide +kernel⟩
/-! _law_words: 0 heap, 1 formula, 2 inner, 3 deep, 4 words, 5 part, 6 more -/
abbrev s_words : Stmt := top 26
abbrev N_words : List Str := ["heap", "formula", "inner", "deep", "words", "part", "more"]
abbrev P_words : List Str := ["heap", "formula", "inner", "deep"]
theorem sc_words : FnScope N_words P_words (defScope s_words) := ⟨rfl, rfl, rfl, by decide +kernel, rfl, by decide +kernel, by decide +kernel⟩
/-! _law_text: 0 heap, 1 words, 2 text, 3 last, 4 word, 5 wanted -/
abbrev s_text : Stmt := top 27
abbrev N_text : List Str := ["heap", "words", "text", "last", "word", "wanted"]
abbrev P_text : List Str := ["heap", "words"]
theorem sc_text : FnScope N_text P_text (defScope s_text) := ⟨rfl, rfl, rfl, by decide +kernel, rfl, by decide +kernel, by decide +kernel⟩
/-! _law_wrong: 0 text, 1 error -/
abbrev s_wrong : Stmt := top 28
abbrev N_wrong : List Str := ["text", "error"]
abbrev P_wrong : List Str := ["text"]
theorem sc_wrong : FnScope N_wrong P_wrong (defScope s_wrong) := ⟨rfl, rfl, rfl, by decide +kernel, rfl, by decide +kernel, by decide +kernel⟩
/-! law: 0 script, 1 heap, 2 turn, 3 names, 4 formula, 5 words, 6 shown, 7 due, 8 many, 9 great, 10 cut, 11 twice -/
abbrev s_law : Stmt := top 29
abbrev N_law : List Str := ["script", "heap", "turn", "names", "formula", "words", "shown", "due", "many", "great", "cut", "twice"]
abbrev P_law : List Str := ["script"]
theorem sc_law : FnScope N_law P_law (defScope s_law) := ⟨rfl, rfl, rfl, by decide +kernel, rfl, by decide +kernel, by decide +kernel⟩
structure Ads where
  InvalidText_init : Addr
  is_name : Addr
  d_is_name : FuncData
  read_amount : Addr
  d_read_amount : FuncData
  show_part : Addr
  d_show_part : FuncData
  show_formula : Addr
  d_show_formula : FuncData
  Level_init : Addr
  d_Level_init : FuncData
  Level_weight : Addr
  d_Level_weight : FuncData
  Level_put : Addr
  d_Level_put : FuncData
  Level_whole_part : Addr
  d_Level_whole_part : FuncData
  Reading_init : Addr
  d_Reading_init : FuncData
  Reading_take : Addr
  d_Reading_take : FuncData
  Reading_begin : Addr
  d_Reading_begin : FuncData
  Reading_go_on : Addr
  d_Reading_go_on : FuncData
  read_formula : Addr
  d_read_formula : FuncData
  heap : Addr
  d_heap : FuncData
  draw : Addr
  d_draw : FuncData
  pick : Addr
  d_pick : FuncData
  shuffled : Addr
  d_shuffled : FuncData
  formula : Addr
  d_formula : FuncData
  names : Addr
  d_names : FuncData
  words : Addr
  d_words : FuncData
  text : Addr
  d_text : FuncData
  wrong : Addr
  d_wrong : FuncData
  law : Addr
  d_law : FuncData
  c_Level : Addr
  c_Reading : Addr
  c_InvalidText : Addr
structure Txt (K : PySem.W.Frag) (mg : Str → Option Value) (a : Ads) : Prop where
  is_name : At K mg "is_name" s_is_name P_is_name a.is_name a.d_is_name
  read_amount : At K mg "read_amount" s_read_amount P_read_amount a.read_amount a.d_read_amount
  show_part : At K mg "show_part" s_show_part P_show_part a.show_part a.d_show_part
  show_formula : At K mg "show_formula" s_show_formula P_show_formula a.show_formula a.d_show_formula
  Level_init : Fun K "__init__" "Level.__init__" s_Level_init a.Level_init a.d_Level_init
  b_Level_init : Binds K a.d_Level_init P_Level_init []
  Level_weight : AtM K a.c_Level "weight" "Level.weight" s_Level_weight P_Level_weight a.Level_weight a.d_Level_weight
  Level_put : AtM K a.c_Level "put" "Level.put" s_Level_put P_Level_put a.Level_put a.d_Level_put
  Level_whole_part : AtM K a.c_Level "whole_part" "Level.whole_part" s_Level_whole_part P_Level_whole_part a.Level_whole_part a.d_Level_whole_part
  Reading_init : Fun K "__init__" "Reading.__init__" s_Reading_init a.Reading_init a.d_Reading_init
  b_Reading_init : Binds K a.d_Reading_init P_Reading_init []
  Reading_take : AtM K a.c_Reading "take" "Reading.take" s_Reading_take P_Reading_take a.Reading_take a.d_Reading_take
  Reading_begin : AtM K a.c_Reading "begin" "Reading.begin" s_Reading_begin P_Reading_begin a.Reading_begin a.d_Reading_begin
  Reading_go_on : AtM K a.c_Reading "go_on" "Reading.go_on" s_Reading_go_on P_Reading_go_on a.Reading_go_on a.d_Reading_go_on
  read_formula : At K mg "read_formula" s_read_formula P_read_formula a.read_formula a.d_read_formula
  heap : At K mg "_law_heap" s_heap P_heap a.heap a.d_heap
  draw : At K mg "_law_draw" s_draw P_draw a.draw a.d_draw
  pick : At K mg "_law_pick" s_pick P_pick a.pick a.d_pick
  shuffled : At K mg "_law_shuffled" s_shuffled P_shuffled a.shuffled a.d_shuffled
  formula : At K mg "_law_formula" s_formula P_formula a.formula a.d_formula
  names : At K mg "_law_names" s_names P_names a.names a.d_names
  words : At K mg "_law_words" s_words P_words a.words a.d_words
  text : At K mg "_law_text" s_text P_text a.text a.d_text
  wrong : At K mg "_law_wrong" s_wrong P_wrong a.wrong a.d_wrong
  law : At K mg "law" s_law P_law a.law a.d_law
  cl_Level : Cls K a.c_Level
  mk_Level : Mk K a.c_Level a.Level_init
  mg_Level : mg "Level" = some (.ref a.c_Level)
  no_Level_above : NoAttr K a.c_Level "above"
  no_Level_word : NoAttr K a.c_Level "word"
  no_Level_parts : NoAttr K a.c_Level "parts"
  no_Level_numbers : NoAttr K a.c_Level "numbers"
  cl_Reading : Cls K a.c_Reading
  mk_Reading : Mk K a.c_Reading a.Reading_init
  mg_Reading : mg "Reading" = some (.ref a.c_Reading)
  no_Reading_levels : NoAttr K a.c_Reading "levels"
  no_Reading_names : NoAttr K a.c_Reading "names"
  no_Reading_due : NoAttr K a.c_Reading "due"
  ex_InvalidText : OexC K a.c_InvalidText
  ei_InvalidText : PySem.W.findIn K (.ref a.c_InvalidText) "__init__" = some (some (.ref a.InvalidText_init))
  et_InvalidText : PySem.W.typeIn K (.ref a.InvalidText_init) = some (.type "function")
  eg_InvalidText : mg "InvalidText" = some (.ref a.c_InvalidText)
  eo_InvalidText : PySem.W.exmOne K (.ref a.c_InvalidText) (.ref a.c_InvalidText) = some true
  n_len : mg "len" = none
  n_str : mg "str" = none
  n_int : mg "int" = none
  n_abs : mg "abs" = none
  n_list : mg "list" = none
  n_tuple : mg "tuple" = none
  n_all : mg "all" = none
  n_isinstance : mg "isinstance" = none
  n_range : mg "range" = none
  n_enumerate : mg "enumerate" = none
  n_reversed : mg "reversed" = none
  n_super : mg "super" = none
  cLETTERS : ∃ t, mg "LETTERS" = some (.str "abcdefghijklmnopqrstuvwxyz" t)
  cLONGEST_NAME : ∃ t, mg "LONGEST_NAME" = some (.int 5 t)
  cMOST_AMOUNT : ∃ t, mg "MOST_AMOUNT" = some (.int 60 t)
  cMOST_KINDS : ∃ t, mg "MOST_KINDS" = some (.int 8 t)
  cFIGURES : ∃ t, mg "FIGURES" = some (.str "0123456789" t)
end K77

set_option Elab.async false
set_option linter.all false
set_option maxRecDepth 100000
set_option maxHeartbeats 1000000
namespace K77
open PySem PySem.Spec PyProof.Rows L2 DL
local macro_rules | `(tactic| walk_at "dl.1") => `(tactic| first
  | with_reducible exact ev_int
  | with_reducible exact ev_str
  | with_reducible exact ev_bl
  | with_reducible exact ev_non
  | with_reducible exact ea_nil
  | with_reducible exact eo_none
  | ((with_reducible refine' ev_var ?_ ?_) <;> rfl)
  | with_reducible refine' ea_cons ?_ ?_
  | with_reducible refine' eo_some ?_
  | with_reducible refine' ev_I0 ?_ ?_
  | with_reducible refine' ev_B0 ?_ ?_
  | with_reducible refine' ev_I ?_ ?_ ?_
  | with_reducible refine' ev_qEqI ?_ ?_
  | with_reducible refine' ev_qNeI ?_ ?_
  | with_reducible refine' ev_qEqS ?_ ?_
  | with_reducible refine' ev_qNeS ?_ ?_
  | with_reducible refine' ev_neg ?_
  | with_reducible refine' ev_addT ?_ ?_ ?_
  | with_reducible refine' ev_sign ?_ ?_
  | with_reducible refine' ev_chI ?_ ?_ (fun _ => ?_)
  | with_reducible refine' et_test ?_
  | with_reducible refine' et_B ?_
  | with_reducible refine' et_and ?_ (fun _ => ?_)
  | with_reducible refine' et_or ?_ (fun _ => ?_)
  | with_reducible refine' et_not ?_
  | with_reducible refine' ev_andV ?_ (fun _ => ?_)
  | with_reducible refine' ev_orV ?_ (fun _ => ?_)
  | with_reducible refine' ev_notV ?_
  | with_reducible refine' ev_abs ?_
  | with_reducible refine' ev_strI ?_ ?_
  | with_reducible refine' ev_lenS ?_ ?_
  | with_reducible refine' ev_isS (ea_cons ?_ (ea_cons ev_raw ea_nil)))
local macro_rules | `(tactic| walk_at "dl") => `(tactic| (repeat' walk_at "dl.1"))
local macro_rules | `(tactic| walk_at "dl.s") => `(tactic| first | assumption | omega | decide | exact trivial)
local macro_rules | `(tactic| walk_at "dls") => `(tactic| (walk_at "dl") <;> (walk_at "dl.s"))
local macro_rules | `(tactic| walk_at "dl.n") => `(tactic| (refine nxt ?_; dsimp only))

/-! ### names, amounts -/
abbrev LET : Str := "abcdefghijklmnopqrstuvwxyz"
def isName (z : Str) : Bool := (decide ((1 : Int) ≤ (z.length : Nat)) && decide (((z.length : Nat) : Int) ≤ 5)) && (z.cps.toList.map fun k => decide (k ∈ LET.cps.toList)).all id
section
variable {P : Program} {w : World} {K : PySem.W.Frag} {mg : Str → Option Value} {base : Heap} {a : Ads}
abbrev spIsName : Sp := SpP (fun z : Str => [Dt.str z]) (fun z => z.length ≤ 100000) (fun z d => d = .bl (isName z))
theorem ok_is_name (T : Txt K mg a) : FnOk P w K mg base CX0 1 a.is_name a.d_is_name P_is_name spIsName := by
  refine T.is_name.F.ok sc_is_name (fun vs H Q E h => ?_) (fun cdv A outer s H vs Q E hr h => ?_)
  · obtain ⟨A, z, _, _, hd, _⟩ := h
    exact hd.length
  · obtain ⟨A', z, nA, lv, hd, hz, q⟩ := h
    have w0 : Wd ⟨[], H⟩ ⟨A', [], [], [.d (.str z), .u]⟩ H (L2.start N_is_name vs) := wd_start (N := N_is_name) nA lv hd
    refine ⟨_, (pss_cons (ps_if (PW.pt (pw_or (pt_not (pt_val (pe_callB call_isi (by rfl) T.n_isinstance (by decide +kernel) (pa_cons (pv 0) (pa_cons (pe_bltn (v := .ty "str") (by rfl) T.n_str (by decide +kernel) rfl) pa_nil))))) (pw_or1 (pt_not (pt_chain op_le op_le pe_int (pe_callB dc_lenT (by rfl) T.n_len PySem.boot_len (pa_cons (pv 0) pa_nil)) (pe_gi T.cLONGEST_NAME)))))) (pss_one (ps_ret pe_bl)) pss_nil)
      (pss_one (ps_ret (pe_callB (cr_all rfl) (by rfl) T.n_all (by decide +kernel) (pa_cons (pe_lc (own := [("sign", 1)]) (g := gName 1) (tt := tYes) (by rfl) sc_is_name.nd (pi_str (pv 0)) (blkOk_by (own := [("sign", 1)]) (N := N_is_name) (sc := defScope s_is_name) (by decide +kernel)) (fun _ _ _ _ _ => (pg_name (i := 1) sc_is_name.nd rfl (by first | exact Or.inl rfl | exact Or.inr rfl))) (fun _ _ _ _ _ => pts_nil) (fun _ _ _ _ _ => (pe_cmpR do_sign (pv 1) (pe_gs T.cLETTERS) rfl))) pa_nil))))), ?_⟩
    refine sq (s_if w0 (by walk_at "dls") ?_ ?_)
    · intro hb H1 w1
      refine s_retQ w1 q (fun _ h => h) ev_bl ?_
      simp only [Bool.not_true, Bool.false_or, Bool.not_eq_true', Bool.and_eq_false_iff] at hb
      simp only [isName, Dt.bl.injEq]
      rcases hb with h | h <;> simp [h]
    · intro hb H1 w1
      walk_at "dl.n"
      refine s_retQ w1 q (fun _ h => h) (d := .bl ((z.cps.toList.map fun k => decide (k ∈ LET.cps.toList)).all id)) ?_ ?_
      · refine ev_all (ea_cons (ev_is (ev_lcm (xs := z.cps.toList) (enc := fun k => Sl.d (.str ⟨#[k]⟩)) (f := fun k => Dt.bl (decide (k ∈ LET.cps.toList))) (ei_str (z := z) (by walk_at "dls")) hz (fun k _ => egc_name (by simp)) (fun k _ => ?_)) ?_) ea_nil)
        · walk_at "dls"
        · simp [dBls, List.map_map]
      · simp only [Bool.not_true, Bool.false_or, Bool.not_eq_false', Bool.and_eq_true] at hb
        simp only [isName, hb.1, hb.2, Bool.and_self, Bool.true_and]
end
end K77

set_option Elab.async false
set_option linter.all false
set_option maxRecDepth 100000
set_option maxHeartbeats 1000000
namespace K77
open PySem PySem.Spec PyProof.Rows L2 DL
local macro_rules | `(tactic| walk_at "dl.1") => `(tactic| first
  | with_reducible exact ev_int
  | with_reducible exact ev_str
  | with_reducible exact ev_bl
  | with_reducible exact ev_non
  | with_reducible exact ea_nil
  | with_reducible exact eo_none
  | ((with_reducible refine' ev_var ?_ ?_) <;> rfl)
  | with_reducible refine' ea_cons ?_ ?_
  | with_reducible refine' eo_some ?_
  | with_reducible refine' ev_I0 ?_ ?_
  | with_reducible refine' ev_B0 ?_ ?_
  | with_reducible refine' ev_I ?_ ?_ ?_
  | with_reducible refine' ev_qEqI ?_ ?_
  | with_reducible refine' ev_qNeI ?_ ?_
  | with_reducible refine' ev_qEqS ?_ ?_
  | with_reducible refine' ev_qNeS ?_ ?_
  | with_reducible refine' ev_neg ?_
  | with_reducible refine' ev_addT ?_ ?_ ?_
  | with_reducible refine' ev_sign ?_ ?_
  | with_reducible refine' ev_chI ?_ ?_ (fun _ => ?_)
  | with_reducible refine' et_test ?_
  | with_reducible refine' et_B ?_
  | with_reducible refine' et_and ?_ (fun _ => ?_)
  | with_reducible refine' et_or ?_ (fun _ => ?_)
  | with_reducible refine' et_not ?_
  | with_reducible refine' ev_andV ?_ (fun _ => ?_)
  | with_reducible refine' ev_orV ?_ (fun _ => ?_)
  | with_reducible refine' ev_notV ?_
  | with_reducible refine' ev_abs ?_
  | with_reducible refine' ev_strI ?_ ?_
  | with_reducible refine' ev_lenS ?_ ?_
  | with_reducible refine' ev_isS (ea_cons ?_ (ea_cons ev_raw ea_nil)))
local macro_rules | `(tactic| walk_at "dl") => `(tactic| (repeat' walk_at "dl.1"))
local macro_rules | `(tactic| walk_at "dl.s") => `(tactic| first | assumption | omega | decide | exact trivial)
local macro_rules | `(tactic| walk_at "dls") => `(tactic| (walk_at "dl") <;> (walk_at "dl.s"))
local macro_rules | `(tactic| walk_at "dl.n") => `(tactic| (refine nxt ?_; dsimp only))

/-! ### draws -/
section
variable {P : Program} {w : World} {K : PySem.W.Frag} {mg : Str → Option Value} {base : Heap} {a : Ads}
abbrev spDraw : Sp := SpH (fun n : Int => [Dt.int n]) (fun n => 0 < n ∧ n < 1000000) (fun n d => ∃ r, 0 ≤ r ∧ r < n ∧ d = .int r)
theorem ok_draw (T : Txt K mg a) : FnOk P w K mg base CX0 1 a.draw a.d_draw P_draw spDraw := by
  refine T.draw.F.ok sc_draw (fun vs H Q E h => ?_) (fun cdv A outer s H vs Q E hr h => ?_)
  · obtain ⟨A, hp, lp, ws, n, rfl, _, _, _, _, _, _, hd, _⟩ := h
    exact congrArg (· + 1) hd.length
  · obtain ⟨A', hp, lp, ws, n, rfl, nA, lv, a1, a2, hne, hc, hd, ⟨n1, n2⟩, q⟩ := h
    have w0 : Wd ⟨[hp, lp], H⟩ ⟨A', [], [(hp, .heap lp), (lp, .held hp)], [.v (.ref hp), .d (.int n), .u]⟩ H (L2.start N_draw (.ref hp :: ws)) := wd_startH (N := N_draw) nA lv a1 a2 hne hc hd
    obtain ⟨L, z, h3, h4, h5, w0⟩ := w0.opened
    refine ⟨_, (pss_cons (ps_while PassesOwn.never (PW.pt (pw_and (pt_cmpR (op_neD hr.units) (pe_ix ix_list (pv 0) pe_int (fun _ _ => rfl)) (pe_lst pa_nil) (nomark _)) (pw_and1 (pt_cmpR do_eqI (pe_ix ix_list (pe_ix ix_list (pv 0) pe_int (fun _ _ => rfl)) (pe_un un_neg pe_int) (fun _ _ => rfl)) pe_int (nomark _))))) (pss_one (ps_expr (pe_bm0 PySem.F.plainAttrs_list PySem.F.slot_list_pop PySem.F.type_list_pop mt_pop (pe_ix ix_list (pv 0) pe_int (fun _ _ => rfl))))))
      (pss_cons (ps_if (pt_cmpR (op_neD hr.units) (pe_ix ix_list (pv 0) pe_int (fun _ _ => rfl)) (pe_lst pa_nil) (nomark _)) (pss_cons (ps_set (i := 2) sc_draw.nd rfl (by first | exact Or.inl rfl | exact Or.inr rfl) (pe_bm0 PySem.F.plainAttrs_list PySem.F.slot_list_pop PySem.F.type_list_pop mt_pop (pe_ix ix_list (pv 0) pe_int (fun _ _ => rfl))))
      (pss_cons (ps_expr (pe_bm PySem.F.plainAttrs_list PySem.F.slot_list_append PySem.F.type_list_append mt_append (pe_ix ix_list (pv 0) pe_int (fun _ _ => rfl)) (pa_cons (pe_op op_fdiv (pv 2) (pv 1)) pa_nil)))
      (pss_one (ps_ret (pe_op op_mod (pe_callTy dc_int1 (by rfl) T.n_int (by decide +kernel) (pa_cons (pv 2) pa_nil)) (pv 1)))))) pss_nil)
      (pss_cons (ps_asg (pe_op op_mod (pe_callTy dc_int1 (by rfl) T.n_int (by decide +kernel) (pa_cons (pe_op op_add (pe_op op_mul (pe_ix ix_list (pv 0) pe_int (fun _ _ => rfl)) pe_int) pe_int) pa_nil)) pe_int) (pg_sub (pv 0) pe_int set_list))
      (pss_one (ps_ret (pe_op op_mod (pe_callTy dc_int1 (by rfl) T.n_int (by decide +kernel) (pa_cons (pe_op op_fdiv (pe_ix ix_list (pv 0) pe_int (fun _ _ => rfl)) pe_int) pa_nil)) (pv 1))))))), ?_⟩
    -- the noughts at the end are thrown away
    refine sq (s_while w0 (fun k c1 => ∃ L : List Int, k = L.length ∧ (∀ x ∈ L, 0 ≤ x) ∧ L.length ≤ 100 ∧ c1 = ⟨A', [], [(hp, .lst [.v (.ref lp), .d (.int z)]), (lp, .lst ((dInts L).map Sl.d))], [.v (.ref hp), .d (.int n), .u]⟩) ⟨L, rfl, h3, h5, rfl⟩ ?_)
    rintro k c1 ⟨L, rfl, h3, h5, rfl⟩
    have e0 : ∀ (L : List Int) (m : Sl), EvP ⟨[hp, lp], H⟩ ⟨A', [], [(hp, .lst [.v (.ref lp), .d (.int z)]), (lp, .lst ((dInts L).map Sl.d))], [.v (.ref hp), .d (.int n), m]⟩ (tOp (rIxL K) (tVar 0) (tC (.int 0))) (.v (.ref lp)) := fun L m => ev_ixC (k := 0) (ss := [.v (.ref lp), .d (.int z)]) (ev_var rfl) ev_int rfl rfl
    have e1 : ∀ (L : List Int) (m : Sl), EvP ⟨[hp, lp], H⟩ ⟨A', [], [(hp, .lst [.v (.ref lp), .d (.int z)]), (lp, .lst ((dInts L).map Sl.d))], [.v (.ref hp), .d (.int n), m]⟩ (tOp (rIxL K) (tVar 0) (tC (.int 1))) (.d (.int z)) := fun L m => ev_ixC (k := 0) (ss := [.v (.ref lp), .d (.int z)]) (ev_var rfl) ev_int rfl rfl
    have snoc : ∀ (M : List Int) (x : Int), (dInts (M ++ [x])).map Sl.d = (dInts M).map Sl.d ++ [Sl.d (.int x)] := fun M x => by simp [dInts]
    have hlast : ∀ (M : List Int) (x : Int), atI ((dInts (M ++ [x])).map Sl.d) (-1) = some (Sl.d (.int x)) := fun M x => by rw [snoc]; exact atI_last _ _
    refine ⟨decide (L ≠ []) && decide (L.getLast? = some 0), ?_, fun hb H1 σ1 w1 => ?_, fun hb H1 σ1 w1 => ?_⟩
    · rcases List.eq_nil_or_concat L with rfl | ⟨M, x, rfl⟩
      · exact et_and (et_test (ev_neC (k := 1) (L := []) (e0 [] .u) (ev_lst ea_nil) rfl)) (fun h => absurd h (by decide))
      · rw [List.concat_eq_append] at *
        refine et_is (et_and (et_test (ev_neC (k := 1) (L := M ++ [x]) (e0 _ .u) (ev_lst ea_nil) rfl)) (fun _ => et_test (ev_qEqI (ev_ixC (k := 1) (e0 _ .u) (ev_neg ev_int) rfl (hlast M x)) ev_int))) ?_
        simp
    · have hne : L ≠ [] := by
        intro e
        subst e
        simp at hb
      refine s_popE (k := 1) w1 rfl (e0 _ .u) (by rw [List.length_map]; cases L; exact absurd rfl hne; simp [dInts]) fun H2 w2 => ?_
      have w3 : Wd ⟨[hp, lp], H⟩ ⟨A', [], [(hp, .lst [.v (.ref lp), .d (.int z)]), (lp, .lst ((dInts L.dropLast).map Sl.d))], [.v (.ref hp), .d (.int n), .u]⟩ H2 σ1 := by
        rw [show (dInts L.dropLast).map Sl.d = ((dInts L).map Sl.d).dropLast by simp [dInts, List.map_dropLast]]
        exact w2
      refine ⟨L.dropLast.length, _, ?_, ⟨L.dropLast, rfl, fun x hx => h3 x (List.dropLast_subset _ hx), by rw [List.length_dropLast]; omega, rfl⟩, w3⟩
      cases L
      · exact absurd rfl hne
      · simp
    · -- a number is left, or none
      refine sq (s_if w1 (et_test (ev_neC (k := 1) (e0 L .u) (ev_lst ea_nil) rfl)) (fun hb2 H2 w2 => ?_) (fun hb2 H2 w2 => ?_))
      · obtain ⟨M, x, rfl⟩ : ∃ M x, L = M ++ [x] := by
          rcases List.eq_nil_or_concat L with rfl | ⟨M, x, rfl⟩
          · simp at hb2
          · exact ⟨M, x, List.concat_eq_append⟩
        have hx : 0 ≤ x := h3 x (by simp)
        refine sq (s_popA (k := 1) w2 rfl (e0 _ .u) (s := .d (.int x)) (by simp [dInts]) fun H3 σ3 w3 => ?_)
        have em : ((dInts (M ++ [x])).map Sl.d).dropLast = (dInts M).map Sl.d := by rw [snoc, List.dropLast_concat]
        simp only [em, List.set_cons_succ, List.set_cons_zero] at w3
        refine sq (s_append (k := 1) w3 rfl (e0 _ _) (ev_I (ev_var rfl) (ev_var rfl) ⟨n1, by omega⟩) (by simp [dInts] at h5 ⊢; omega) fun H4 w4 => ?_)
        have w5 : Wd ⟨[hp, lp], H⟩ ⟨A', [], [(hp, .lst [.v (.ref lp), .d (.int z)]), (lp, .lst ((dInts (M ++ [x / n])).map Sl.d))], [.v (.ref hp), .d (.int n), .d (.int x)]⟩ H4 σ3 := by rw [snoc]; exact w4
        dsimp only
        refine s_retH (d := .int (x % n)) w5 q (fun _ h => h) (fun H' w' => w'.closed (fun y hy => ?_) h4 ?_) ?_ ⟨x % n, Int.emod_nonneg _ (by omega), Int.emod_lt_of_pos _ n1, rfl⟩
        · rcases List.mem_append.mp hy with hy | hy
          · exact h3 y (List.mem_append_left _ hy)
          · rw [List.mem_singleton] at hy
            subst hy
            exact Int.ediv_nonneg hx (by omega)
        · simpa using h5
        · exact ev_I (ev_int1 (ea_cons (ev_var rfl) ea_nil)) (ev_var rfl) n1
      · obtain rfl : L = [] := by simpa using hb2
        walk_at "dl.n"
        refine sq (s_setC (k := 0) (j := 1) w2 rfl (ev_I (ev_int1 (ea_cons (ev_I0 (ev_I (e1 [] .u) ev_int (.inr (by decide))) ev_int) ea_nil)) ev_int (by decide)) (ev_var rfl) ev_int (by show 1 < 2; decide) fun H3 w3 => ?_)
        dsimp only
        refine s_retH (d := .int ((z * 48271 + 17) % 2147483647 / 32 % n)) w3 q (fun _ h => h) (fun H' w' => w'.closed (L := []) (fun y hy => by cases hy) (Int.emod_nonneg _ (by decide)) (by decide)) ?_ ⟨_, Int.emod_nonneg _ (by omega), Int.emod_lt_of_pos _ n1, rfl⟩
        exact ev_I (ev_int1 (ea_cons (ev_I (ev_ixC (k := 0) (ss := [.v (.ref lp), .d (.int ((z * 48271 + 17) % 2147483647))]) (ev_var rfl) ev_int rfl rfl) ev_int ⟨by decide, by decide⟩) ea_nil)) (ev_var rfl) n1
end
end K77

set_option Elab.async false
set_option linter.all false
set_option maxRecDepth 100000
set_option maxHeartbeats 1000000
namespace K77
open PySem PySem.Spec PyProof.Rows L2 DL
local macro_rules | `(tactic| walk_at "dl.1") => `(tactic| first
  | with_reducible exact ev_int
  | with_reducible exact ev_str
  | with_reducible exact ev_bl
  | with_reducible exact ev_non
  | with_reducible exact ea_nil
  | with_reducible exact eo_none
  | ((with_reducible refine' ev_var ?_ ?_) <;> rfl)
  | with_reducible refine' ea_cons ?_ ?_
  | with_reducible refine' eo_some ?_
  | with_reducible refine' ev_I0 ?_ ?_
  | with_reducible refine' ev_B0 ?_ ?_
  | with_reducible refine' ev_I ?_ ?_ ?_
  | with_reducible refine' ev_qEqI ?_ ?_
  | with_reducible refine' ev_qNeI ?_ ?_
  | with_reducible refine' ev_qEqS ?_ ?_
  | with_reducible refine' ev_qNeS ?_ ?_
  | with_reducible refine' ev_neg ?_
  | with_reducible refine' ev_addT ?_ ?_ ?_
  | with_reducible refine' ev_sign ?_ ?_
  | with_reducible refine' ev_chI ?_ ?_ (fun _ => ?_)
  | with_reducible refine' et_test ?_
  | with_reducible refine' et_B ?_
  | with_reducible refine' et_and ?_ (fun _ => ?_)
  | with_reducible refine' et_or ?_ (fun _ => ?_)
  | with_reducible refine' et_not ?_
  | with_reducible refine' ev_andV ?_ (fun _ => ?_)
  | with_reducible refine' ev_orV ?_ (fun _ => ?_)
  | with_reducible refine' ev_notV ?_
  | with_reducible refine' ev_abs ?_
  | with_reducible refine' ev_strI ?_ ?_
  | with_reducible refine' ev_lenS ?_ ?_
  | with_reducible refine' ev_isS (ea_cons ?_ (ea_cons ev_raw ea_nil)))
local macro_rules | `(tactic| walk_at "dl") => `(tactic| (repeat' walk_at "dl.1"))
local macro_rules | `(tactic| walk_at "dl.s") => `(tactic| first | assumption | omega | decide | exact trivial)
local macro_rules | `(tactic| walk_at "dls") => `(tactic| (walk_at "dl") <;> (walk_at "dl.s"))
local macro_rules | `(tactic| walk_at "dl.n") => `(tactic| (refine nxt ?_; dsimp only))

section
variable {P : Program} {w : World} {K : PySem.W.Frag} {mg : Str → Option Value} {base : Heap} {a : Ads}
theorem perm_erase {α : Type} : ∀ (xs : List α) (j : Nat) (h : j < xs.length), (xs[j] :: xs.eraseIdx j).Perm xs
  | x :: xs, 0, _ => List.Perm.refl _
  | x :: xs, j + 1, h => by
    have h2 : j < xs.length := by simpa using h
    exact (List.Perm.swap _ _ _).trans (List.Perm.cons x (perm_erase xs j h2))
/-- one draw below a number -/
theorem r_draw {F : Fx} {c : Ct} {E : XK} {ta tb : TE} {i : Nat} {hp lp : Addr} {n : Int} (hi : c.M[i]? = some (hp, .heap lp)) (ha : EvP F c ta (.v (.ref hp))) (hb : EvP F c tb (.d (.int n))) (hn : 0 < n ∧ n < 1000000) :
    EvR F c (tCall spDraw [] E (tCons ta (tCons tb tNil))) (fun s => ∃ r : Int, 0 ≤ r ∧ r < n ∧ s = .d (.int r)) := by
  refine r_callH hi ((ea_cons ha (ea_cons hb ea_nil)).r (RA := fun ss => ss = [.v (.ref hp), .d (.int n)]) rfl) fun ss hs => ?_
  subst hs
  refine ⟨n, rfl, hn, fun d hd => ?_⟩
  obtain ⟨r, h0, h1, rfl⟩ := hd
  exact ⟨r, h0, h1, rfl⟩
abbrev spPick : Sp := SpH (fun ds : List Dt => [Dt.lst ds]) (fun ds => 0 < ds.length ∧ ds.length < 100000) (fun ds d => d ∈ ds)
theorem ok_pick (T : Txt K mg a) : FnOk P w K mg base CX0 2 a.pick a.d_pick P_pick spPick := by
  refine T.pick.F.ok sc_pick (fun vs H Q E h => ?_) (fun cdv A outer s H vs Q E hr h => ?_)
  · obtain ⟨A, hp, lp, ws, n, rfl, _, _, _, _, _, _, hd, _⟩ := h
    exact congrArg (· + 1) hd.length
  · obtain ⟨A', hp, lp, ws, ds, rfl, nA, lv, a1, a2, hne, hc, hd, ⟨n1, n2⟩, q⟩ := h
    have w0 : Wd ⟨[hp, lp], H⟩ ⟨A', [], [(hp, .heap lp), (lp, .held hp)], [.v (.ref hp), .d (.lst ds)]⟩ H (L2.start N_pick (.ref hp :: ws)) := wd_startH (N := N_pick) nA lv a1 a2 hne hc hd
    refine ⟨_, (pss_one (ps_ret (pe_ix ix_list (pv 1) (pe_call (ok_draw T) (hr.mono (by decide)) (by rfl) T.draw.g T.draw.F.kp T.draw.b .nil pass0 (pa_cons (pv 0) (pa_cons (pe_callB dc_len (by rfl) T.n_len PySem.boot_len (pa_cons (pv 1) pa_nil)) pa_nil))) (fun _ _ => rfl)))), ?_⟩
    refine s_retR w0 (R := fun s => ∃ d ∈ ds, s = .d d) ?_ ?_
    · refine r_op ((ev_var (s := .d (.lst ds)) rfl).r (R := fun s => s = .d (.lst ds)) rfl) (r_draw (i := 0) (n := (ds.length : Nat)) rfl (ev_var rfl) (ev_len (ea_cons (ev_var rfl) ea_nil)) (by omega)) ?_
      rintro _ _ rfl ⟨r, h0, h1, rfl⟩
      have hlt : r.toNat < ds.length := by omega
      refine ⟨.d ds[r.toNat], ⟨_, List.getElem_mem hlt, rfl⟩, fun c' x H σ u v w hu hv Q q => ?_⟩
      obtain ⟨p, xs, e1, n, g1, g2⟩ := hu.lst
      have hat : atI ds r = some ds[r.toNat] := atG (j := r.toNat) (Int.toNat_of_nonneg h0).symm (List.getElem?_eq_getElem hlt)
      obtain ⟨z, z1, z2⟩ := g2.atI hat
      exact ⟨p, xs, r, z, e1, hv.int, SqL.of g1, z1, q z H w (Kp.refl _ _) z2⟩
    · rintro _ ⟨d, hd', rfl⟩ v H' w1 hv
      exact q v H' d hd' (fun b o h1 h2 e => w1.fr b o (by simp [h1, h2]) e) (w1.mO (hp, .heap lp) (by simp)) hv
/-- how often each thing stands there stays -/
abbrev spShuffled : Sp := SpH (fun ds : List Dt => [Dt.lst ds]) (fun ds => ds.length < 1000) (fun ds d => ∃ es : List Dt, es.Perm ds ∧ d = .tup es)
theorem ok_shuffled (T : Txt K mg a) : FnOk P w K mg base CX0 2 a.shuffled a.d_shuffled P_shuffled spShuffled := by
  refine T.shuffled.F.ok sc_shuffled (fun vs H Q E h => ?_) (fun cdv A outer s H vs Q E hr h => ?_)
  · obtain ⟨A, hp, lp, ws, n, rfl, _, _, _, _, _, _, hd, _⟩ := h
    exact congrArg (· + 1) hd.length
  · obtain ⟨A', hp, lp, ws, ds, rfl, nA, lv, a1, a2, hne, hc, hd, n1, q⟩ := h
    have w0 : Wd ⟨[hp, lp], H⟩ ⟨A', [], [(hp, .heap lp), (lp, .held hp)], [.v (.ref hp), .d (.lst ds), .u, .u, .u]⟩ H (L2.start N_shuffled (.ref hp :: ws)) := wd_startH (N := N_shuffled) nA lv a1 a2 hne hc hd
    refine ⟨_, (pss_cons (ps_par (i := 2) (j := 3) (by rfl) sc_shuffled.nd rfl rfl (by decide) rfl rfl (pa_cons (pe_callTy dc_list (by rfl) T.n_list (by decide +kernel) (pa_cons (pv 1) pa_nil)) (pa_cons (pe_lst pa_nil) pa_nil)) (by rfl))
      (pss_cons (ps_for PassesOwn.never rfl (pi_range1 rfl T.n_range (pa_cons (pe_callB dc_len (by rfl) T.n_len PySem.boot_len (pa_cons (pv 1) pa_nil)) pa_nil)) (pg_name (i := 4) sc_shuffled.nd rfl (by first | exact Or.inl rfl | exact Or.inr rfl)) (pss_one (ps_expr (pe_bm PySem.F.plainAttrs_list PySem.F.slot_list_append PySem.F.type_list_append mt_append (pv 3) (pa_cons (pe_bm PySem.F.plainAttrs_list PySem.F.slot_list_pop PySem.F.type_list_pop mt_popAt (pv 2) (pa_cons (pe_call (ok_draw T) (hr.mono (by decide)) (by rfl) T.draw.g T.draw.F.kp T.draw.b .nil pass0 (pa_cons (pv 0) (pa_cons (pe_callB dc_len (by rfl) T.n_len PySem.boot_len (pa_cons (pv 2) pa_nil)) pa_nil))) pa_nil)) pa_nil)))))
      (pss_one (ps_ret (pe_callTy dc_tup (by rfl) T.n_tuple (by decide +kernel) (pa_cons (pv 3) pa_nil)))))), ?_⟩
    refine q_parLL w0 (ea_cons (ev_var rfl) ea_nil) fun p1 p2 H1 σ1 f1 f2 f3 f4 w1 => ?_
    refine q_for w1 (ei_rng1 (n := (ds.length : Nat)) (ea_cons (ev_len (ea_cons (ev_var rfl) ea_nil)) ea_nil) (by omega))
      (fun i c1 => ∃ (rs es : List Dt) (x : Sl), (es ++ rs).Perm ds ∧ es.length = i ∧ c1 = ⟨p2 :: p1 :: A', [], [(hp, .heap lp), (lp, .held hp), (p1, .lst (rs.map Sl.d)), (p2, .lst (es.map Sl.d))], [.v (.ref hp), .d (.lst ds), .v (.ref p1), .v (.ref p2), x]⟩)
      ⟨ds, [], .u, List.Perm.refl _, rfl, rfl⟩ ?_ ?_
    · rintro i s c1 hi ⟨rs, es, x, hp1, hl, rfl⟩
      refine ⟨_, eg_name, fun G H2 σ2 w2 => ?_⟩
      have hlen := hp1.length_eq
      rw [List.length_append] at hlen
      have hi2 : i < ds.length := by
        have := (List.getElem?_eq_some_iff.mp hi).1
        simpa using this
      refine s_movR (a := 2) (b := 3) w2 rfl rfl (by decide) (ev_var rfl) (ev_var rfl) (r_draw (i := 0) (n := (rs.length : Nat)) rfl (ev_var rfl) (ev_is (ev_lenC (k := 2) (ss := rs.map Sl.d) (ea_cons (ev_var rfl) ea_nil) rfl) (by rw [List.length_map])) (by omega)) (by omega) (by omega) fun j d H3 hj w3 => ?_
      refine ⟨_, ⟨rs.eraseIdx j, es ++ [d], s, ?_, by rw [List.length_append]; simp [hl], rfl⟩, w3⟩
      have e1 : (d :: rs.eraseIdx j).Perm rs := by
        obtain ⟨hjl, hje⟩ := List.getElem?_eq_some_iff.mp hj
        rw [← hje]
        exact perm_erase rs j hjl
      rw [List.append_assoc]
      exact (List.Perm.append_left es e1).trans hp1
    · rintro c1 H2 σ2 ⟨rs, es, x, hp1, hl, rfl⟩ w2
      have hl2 : rs = [] := by
        have hlen := hp1.length_eq
        rw [List.length_append, hl, List.length_map, List.length_range] at hlen
        exact List.length_eq_zero_iff.mp (by omega)
      subst hl2
      rw [List.append_nil] at hp1
      refine s_ret w2 (ev_tupC (k := 3) (ds := es) (ea_cons (ev_var rfl) ea_nil) rfl) fun v H' w3 hv => ?_
      exact q v H' _ ⟨es, hp1, rfl⟩ (fun b o h1 h2 e => w3.fr b o (by simp [h1, h2]) e) (CellOk.sub (w3.mO (hp, .heap lp) (by simp))) (Dq.mono (off_sub fun b hb => by simp [hb]) hv)
end
end K77

set_option Elab.async false
set_option linter.all false
set_option maxRecDepth 100000
set_option maxHeartbeats 1000000
namespace K77
open PySem PySem.Spec PyProof.Rows L2 DL
local macro_rules | `(tactic| walk_at "dl.1") => `(tactic| first
  | with_reducible exact ev_int
  | with_reducible exact ev_str
  | with_reducible exact ev_bl
  | with_reducible exact ev_non
  | with_reducible exact ea_nil
  | with_reducible exact eo_none
  | ((with_reducible refine' ev_var ?_ ?_) <;> rfl)
  | with_reducible refine' ea_cons ?_ ?_
  | with_reducible refine' eo_some ?_
  | with_reducible refine' ev_I0 ?_ ?_
  | with_reducible refine' ev_B0 ?_ ?_
  | with_reducible refine' ev_I ?_ ?_ ?_
  | with_reducible refine' ev_qEqI ?_ ?_
  | with_reducible refine' ev_qNeI ?_ ?_
  | with_reducible refine' ev_qEqS ?_ ?_
  | with_reducible refine' ev_qNeS ?_ ?_
  | with_reducible refine' ev_neg ?_
  | with_reducible refine' ev_addT ?_ ?_ ?_
  | with_reducible refine' ev_sign ?_ ?_
  | with_reducible refine' ev_chI ?_ ?_ (fun _ => ?_)
  | with_reducible refine' et_test ?_
  | with_reducible refine' et_B ?_
  | with_reducible refine' et_and ?_ (fun _ => ?_)
  | with_reducible refine' et_or ?_ (fun _ => ?_)
  | with_reducible refine' et_not ?_
  | with_reducible refine' ev_andV ?_ (fun _ => ?_)
  | with_reducible refine' ev_orV ?_ (fun _ => ?_)
  | with_reducible refine' ev_notV ?_
  | with_reducible refine' ev_abs ?_
  | with_reducible refine' ev_strI ?_ ?_
  | with_reducible refine' ev_lenS ?_ ?_
  | with_reducible refine' ev_isS (ea_cons ?_ (ea_cons ev_raw ea_nil)))
local macro_rules | `(tactic| walk_at "dl") => `(tactic| (repeat' walk_at "dl.1"))
local macro_rules | `(tactic| walk_at "dl.s") => `(tactic| first | assumption | omega | decide | exact trivial)
local macro_rules | `(tactic| walk_at "dls") => `(tactic| (walk_at "dl") <;> (walk_at "dl.s"))
local macro_rules | `(tactic| walk_at "dl.n") => `(tactic| (refine nxt ?_; dsimp only))

section
variable {P : Program} {w : World} {K : PySem.W.Frag} {mg : Str → Option Value} {base : Heap} {a : Ads}
abbrev twelve : List Str := ["a", "or", "b", "ox", "cab", "z", "of", "yes", "and", "m", "kk", "q"]
abbrev spNames : Sp := SpH (fun n : Int => [Dt.int n]) (fun n => 0 ≤ n ∧ n ≤ 12) (fun n d => ∃ ys : List Str, ys.Perm twelve ∧ d = .lst (dStrs (ys.take n.toNat)))
theorem perm_strs : ∀ {ds : List Dt} {ys : List Str}, ds.Perm (dStrs ys) → ∃ zs : List Str, zs.Perm ys ∧ ds = dStrs zs := fun {ds ys} h => by
  have hm : ∀ d ∈ ds, ∃ y : Str, d = .str y := fun d hd => by
    obtain ⟨y, _, e⟩ := List.mem_map.mp (h.mem_iff.mp hd)
    exact ⟨y, e.symm⟩
  let g : Dt → Str := fun d => match d with | .str y => y | _ => ""
  refine ⟨ds.map g, ?_, ?_⟩
  · have h2 := h.map g
    rwa [show (dStrs ys).map g = ys by simp only [dStrs, List.map_map]; exact List.map_id' ys] at h2
  · unfold dStrs
    rw [List.map_map]
    conv => lhs; rw [← List.map_id ds]
    refine List.map_congr_left fun d hd => ?_
    obtain ⟨y, rfl⟩ := hm d hd
    rfl
theorem ok_names (T : Txt K mg a) : FnOk P w K mg base CX0 3 a.names a.d_names P_names spNames := by
  refine T.names.F.ok sc_names (fun vs H Q E h => ?_) (fun cdv A outer s H vs Q E hr h => ?_)
  · obtain ⟨A, hp, lp, ws, n, rfl, _, _, _, _, _, _, hd, _⟩ := h
    exact congrArg (· + 1) hd.length
  · obtain ⟨A', hp, lp, ws, n, rfl, nA, lv, a1, a2, hne, hc, hd, ⟨n1, n2⟩, q⟩ := h
    have w0 : Wd ⟨[hp, lp], H⟩ ⟨A', [], [(hp, .heap lp), (lp, .held hp)], [.v (.ref hp), .d (.int n)]⟩ H (L2.start N_names (.ref hp :: ws)) := wd_startH (N := N_names) nA lv a1 a2 hne hc hd
    refine ⟨_, (pss_one (ps_ret (pe_slice sl_list (pe_callTy dc_list (by rfl) T.n_list (by decide +kernel) (pa_cons (pe_call (ok_shuffled T) (hr.mono (by decide)) (by rfl) T.shuffled.g T.shuffled.F.kp T.shuffled.b .nil pass0 (pa_cons (pv 0) (pa_cons (pe_lst (pa_cons pe_str (pa_cons pe_str (pa_cons pe_str (pa_cons pe_str (pa_cons pe_str (pa_cons pe_str (pa_cons pe_str (pa_cons pe_str (pa_cons pe_str (pa_cons pe_str (pa_cons pe_str (pa_cons pe_str pa_nil))))))))))))) pa_nil))) pa_nil)) po_none (po_some (pv 1))))), ?_⟩
    obtain ⟨k, rfl⟩ : ∃ k : Nat, n = (k : Int) := ⟨n.toNat, by omega⟩
    refine s_retR w0 (R := fun s => ∃ ys : List Str, ys.Perm twelve ∧ s = .d (.lst (dStrs (ys.take k)))) ?_ ?_
    · refine r_slL (R0 := fun s => ∃ ys : List Str, ys.Perm twelve ∧ s = .d (.lst (dStrs ys))) (r_cb (ra_cons1 (R := fun s => ∃ ys : List Str, ys.Perm twelve ∧ s = .d (.tup (dStrs ys))) (r_callH (i := 0) rfl ((ea_cons (ev_var rfl) (ea_cons (ev_lst (ds := dStrs twelve) ?_) ea_nil)).r (RA := fun ss => ss = [.v (.ref hp), .d (.lst (dStrs twelve))]) rfl) ?_) ea_nil) ?_) eo_none (eo_some (ev_var rfl)) ?_
      · exact ea_cons ev_str (ea_cons ev_str (ea_cons ev_str (ea_cons ev_str (ea_cons ev_str (ea_cons ev_str (ea_cons ev_str (ea_cons ev_str (ea_cons ev_str (ea_cons ev_str (ea_cons ev_str (ea_cons ev_str ea_nil)))))))))))
      · rintro ss rfl
        refine ⟨dStrs twelve, rfl, by decide, ?_⟩
        rintro d ⟨es, he, rfl⟩
        obtain ⟨zs, hz, rfl⟩ := perm_strs he
        exact ⟨zs, hz, rfl⟩
      · rintro ss ⟨s, ⟨ys, hy, rfl⟩, rfl⟩
        exact ⟨_, ⟨ys, hy, rfl⟩, rc_listT⟩
      · rintro s ⟨ys, hy, rfl⟩
        refine ⟨_, rfl, ys, hy, ?_⟩
        rw [cut0]
        simp [dStrs, List.map_take]
    · rintro _ ⟨ys, hy, rfl⟩ v H' w1 hv
      exact q v H' _ ⟨ys, hy, rfl⟩ (fun b o h1 h2 e => w1.fr b o (by simp [h1, h2]) e) (w1.mO (hp, .heap lp) (by simp)) hv
theorem ok_heap (T : Txt K mg a) : FnOk P w K mg base CX0 1 a.heap a.d_heap P_heap (spHeap K) := by
  refine T.heap.F.ok sc_heap (fun vs H Q E h => ?_) (fun cdv A outer s H vs Q E hr h => ?_)
  · obtain ⟨p, ns, rfl, _⟩ := h
    rfl
  · obtain ⟨p, ns, rfl, hS, hl, q⟩ := h
    have w0 : Wd ⟨[], H⟩ ⟨[], [], [], [.v (.ref p), .u, .u, .u]⟩ H (L2.start N_heap [.ref p]) := wd_start0 rfl
    refine ⟨_, (pss_cons (ps_par (i := 1) (j := 2) (by rfl) sc_heap.nd rfl rfl (by decide) rfl rfl (pa_cons (pe_lc (own := [("cell", 3)]) (g := gName 3) (tt := tYes) (by rfl) sc_heap.nd (pi_list (pe_slice sl_list (pv 0) po_none (po_some pe_int))) (blkOk_by (own := [("cell", 3)]) (N := N_heap) (sc := defScope s_heap) (by decide +kernel)) (fun _ _ _ _ _ => (pg_name (i := 3) sc_heap.nd rfl (by first | exact Or.inl rfl | exact Or.inr rfl))) (fun _ _ _ _ _ => pts_nil) (fun _ _ _ _ _ => (pe_op op_add (pe_op op_mul pe_int (pe_callB dc_abs (by rfl) T.n_abs (by decide +kernel) (pa_cons (pv 3) pa_nil))) (pe_callTy dc_int1 (by rfl) T.n_int (by decide +kernel) (pa_cons (pe_cmpR op_lt (pv 3) pe_int (nomark _)) pa_nil))))) (pa_cons pe_int pa_nil)) (by rfl))
      (pss_cons (ps_for PassesOwn.never rfl (pi_list (pv 1)) (pg_name (i := 3) sc_heap.nd rfl (by first | exact Or.inl rfl | exact Or.inr rfl)) (pss_one (ps_set (i := 2) sc_heap.nd rfl (by first | exact Or.inl rfl | exact Or.inr rfl) (pe_op op_mod (pe_callTy dc_int1 (by rfl) T.n_int (by decide +kernel) (pa_cons (pe_op op_add (pe_op op_add (pe_op op_mul (pv 2) pe_int) (pe_op op_mod (pe_callTy dc_int1 (by rfl) T.n_int (by decide +kernel) (pa_cons (pv 3) pa_nil)) pe_int)) pe_int) pa_nil)) pe_int))))
      (pss_one (ps_ret (pe_lst (pa_cons (pe_revL (pe_lc (own := [("cell", 3)]) (g := gName 3) (by rfl) sc_heap.nd (pi_list (pv 1)) (blkOk_by (own := [("cell", 3)]) (N := N_heap) (sc := defScope s_heap) (by decide +kernel)) (fun _ _ _ _ _ => (pg_name (i := 3) sc_heap.nd rfl (by first | exact Or.inl rfl | exact Or.inr rfl))) (fun _ _ _ _ _ => pts_one (pt_cmpR op_ge (pv 3) (pe_op op_pow pe_int pe_int) (nomark _))) (fun _ _ _ _ _ => (pv 3)))) (pa_cons (pv 2) pa_nil))))))), ?_⟩
    have h60 : (cutG ns none (some 60)).length ≤ 60 := by
      rw [show (60 : Int) = ((60 : Nat) : Int) from rfl, cut0, List.length_take]
      omega
    generalize hcs : cutG ns none (some 60) = cs at h60
    have hpos : ∀ k : Int, 0 ≤ 2 * (if k < 0 then -k else k) + (if decide (k < 0) = true then 1 else 0) := fun k => by split <;> split <;> omega
    refine q_par w0 (s := .d (.lst (dInts (cs.map fun k => 2 * (if k < 0 then -k else k) + (if decide (k < 0) = true then 1 else 0))))) (ss := .d (.int 77017)) (ea_cons (ev_is (ev_lcm (xs := cs) (enc := fun k => Sl.d (.int k)) (f := fun k => Dt.int (2 * (if k < 0 then -k else k) + (if decide (k < 0) = true then 1 else 0))) (ev_iI (ei_list (by rw [← hcs]; exact ev_slRaw hS (ev_var rfl) eo_none (eo_some ev_int)))) (by omega) (fun k _ => egc_name (by simp)) (fun k _ => ?_)) (by simp [dInts, List.map_map])) (ea_cons ev_int ea_nil)) fun H1 σ1 w1 => ?_
    · exact ev_I0 (ev_I ev_int (ev_abs (ea_cons (ev_var rfl) ea_nil)) (.inl ⟨by decide, by decide⟩)) (ev_int1b (ea_cons (ev_B0 (ev_var rfl) ev_int) ea_nil))
    have hL : ∀ x ∈ cs.map (fun k : Int => 2 * (if k < 0 then -k else k) + (if decide (k < 0) = true then 1 else 0)), 0 ≤ x := fun x hx => by
      obtain ⟨k, _, rfl⟩ := List.mem_map.mp hx
      exact hpos k
    have hLl : (cs.map (fun k : Int => 2 * (if k < 0 then -k else k) + (if decide (k < 0) = true then 1 else 0))).length ≤ 60 := by rw [List.length_map]; exact h60
    generalize cs.map (fun k : Int => 2 * (if k < 0 then -k else k) + (if decide (k < 0) = true then 1 else 0)) = L at w1 hL hLl
    refine q_for w1 (ei_list (ev_var rfl)) (fun i c1 => ∃ (z : Int) (x : Sl), 0 ≤ z ∧ z < 2147483647 ∧ c1 = ⟨[], [], [], [.v (.ref p), .d (.lst (dInts L)), .d (.int z), x]⟩) ⟨77017, .u, by decide, by decide, rfl⟩ ?_ ?_
    · rintro i s c1 hi ⟨z, x, z0, z1, rfl⟩
      refine ⟨_, eg_name, fun G H2 σ2 w2 => ?_⟩
      obtain ⟨k, rfl⟩ : ∃ k : Int, s = .d (.int k) := by
        simp only [dInts, List.map_map, List.getElem?_map] at hi
        cases hk : L[i]? with
        | none => rw [hk] at hi; cases hi
        | some k => rw [hk] at hi; cases hi; exact ⟨k, rfl⟩
      refine s_set w2 (ev_I (ev_int1 (ea_cons (ev_I0 (ev_I0 (ev_I (ev_var rfl) ev_int (.inr ⟨by decide, by decide⟩)) (ev_I (ev_int1 (ea_cons (ev_var rfl) ea_nil)) ev_int (by decide))) ev_int) ea_nil)) ev_int (by decide)) fun H3 σ3 w3 => ?_
      exact ⟨_, ⟨_, _, Int.emod_nonneg _ (by decide), Int.emod_lt_of_pos _ (by decide), rfl⟩, w3⟩
    · rintro c1 H2 σ2 ⟨z, x, z0, z1, rfl⟩ w2
      refine s_retHeap (L := L.filter fun k => decide (k ≥ 1000000000000000000)) (z := z) w2 (ev_is (ev_lc (xs := L) (enc := fun k => Sl.d (.int k)) (p := fun k => decide (k ≥ 1000000000000000000)) (f := fun k => Dt.int k) (ev_iI (ei_list (ev_var rfl))) (by omega) (fun k _ => egc_name (by simp)) (fun k _ => ?_) (fun k _ _ => ev_var rfl)) rfl) (ev_var rfl) (fun x hx => hL x (List.mem_filter.mp hx).1) z0 ?_ q
      · exact et_test (ev_B0 (ev_var rfl) (ev_is (ev_I ev_int ev_int ⟨by decide, by decide, by decide⟩) rfl))
      · exact Nat.le_trans (List.length_filter_le _ _) (by omega)
end
end K77

set_option Elab.async false
set_option linter.all false
set_option maxRecDepth 100000
set_option maxHeartbeats 1000000
namespace K77
open PySem PySem.Spec PyProof.Rows L2 DL
local macro_rules | `(tactic| walk_at "dl.1") => `(tactic| first
  | with_reducible exact ev_int
  | with_reducible exact ev_str
  | with_reducible exact ev_bl
  | with_reducible exact ev_non
  | with_reducible exact ea_nil
  | with_reducible exact eo_none
  | ((with_reducible refine' ev_var ?_ ?_) <;> rfl)
  | with_reducible refine' ea_cons ?_ ?_
  | with_reducible refine' eo_some ?_
  | with_reducible refine' ev_I0 ?_ ?_
  | with_reducible refine' ev_B0 ?_ ?_
  | with_reducible refine' ev_I ?_ ?_ ?_
  | with_reducible refine' ev_qEqI ?_ ?_
  | with_reducible refine' ev_qNeI ?_ ?_
  | with_reducible refine' ev_qEqS ?_ ?_
  | with_reducible refine' ev_qNeS ?_ ?_
  | with_reducible refine' ev_neg ?_
  | with_reducible refine' ev_addT ?_ ?_ ?_
  | with_reducible refine' ev_sign ?_ ?_
  | with_reducible refine' ev_chI ?_ ?_ (fun _ => ?_)
  | with_reducible refine' et_test ?_
  | with_reducible refine' et_B ?_
  | with_reducible refine' et_and ?_ (fun _ => ?_)
  | with_reducible refine' et_or ?_ (fun _ => ?_)
  | with_reducible refine' et_not ?_
  | with_reducible refine' ev_andV ?_ (fun _ => ?_)
  | with_reducible refine' ev_orV ?_ (fun _ => ?_)
  | with_reducible refine' ev_notV ?_
  | with_reducible refine' ev_abs ?_
  | with_reducible refine' ev_strI ?_ ?_
  | with_reducible refine' ev_lenS ?_ ?_
  | with_reducible refine' ev_isS (ea_cons ?_ (ea_cons ev_raw ea_nil)))
local macro_rules | `(tactic| walk_at "dl") => `(tactic| (repeat' walk_at "dl.1"))
local macro_rules | `(tactic| walk_at "dl.s") => `(tactic| first | assumption | omega | decide | exact trivial)
local macro_rules | `(tactic| walk_at "dls") => `(tactic| (walk_at "dl") <;> (walk_at "dl.s"))
local macro_rules | `(tactic| walk_at "dl.n") => `(tactic| (refine nxt ?_; dsimp only))

section
variable {P : Program} {w : World} {K : PySem.W.Frag} {mg : Str → Option Value} {base : Heap} {a : Ads}
/-- one of a written list -/
theorem r_pickR {F : Fx} {c : Ct} {E : XK} {ta : TE} {tl : TA} {i : Nat} {hp lp : Addr} {RA : List Sl → Prop} {R : Sl → Prop} (hi : c.M[i]? = some (hp, .heap lp)) (ha : EvP F c ta (.v (.ref hp))) (hl : EvRA F c tl RA)
    (hr : ∀ ss, RA ss → ∃ ds : List Dt, ss = ds.map Sl.d ∧ 0 < ds.length ∧ ds.length < 100000 ∧ ∀ d ∈ ds, R (.d d)) : EvR F c (tCall spPick [] E (tCons ta (tCons (tLst tl) tNil))) R := by
  refine r_callH hi (ra_cons0 ha (ra_cons1 (r_lst (R := fun s => ∃ ds : List Dt, s = .d (.lst ds) ∧ 0 < ds.length ∧ ds.length < 100000 ∧ ∀ d ∈ ds, R (.d d)) hl fun ss hs => ?_) ea_nil)) fun ss hs => ?_
  · obtain ⟨ds, h1, h2, h3, h4⟩ := hr ss hs
    exact ⟨ds, h1, by omega, ds, rfl, h2, h3, h4⟩
  · obtain ⟨r, ⟨s, ⟨ds, rfl, h2, h3, h4⟩, rfl⟩, rfl⟩ := hs
    exact ⟨ds, rfl, ⟨h2, h3⟩, h4⟩
theorem r_pickL {F : Fx} {c : Ct} {E : XK} {ta : TE} {tl : TA} {i : Nat} {hp lp : Addr} {ds : List Dt} {R : Sl → Prop} (hi : c.M[i]? = some (hp, .heap lp)) (ha : EvP F c ta (.v (.ref hp))) (hl : EvA F c tl (ds.map Sl.d)) (h0 : 0 < ds.length) (h1 : ds.length < 100000) (hr : ∀ d ∈ ds, R (.d d)) :
    EvR F c (tCall spPick [] E (tCons ta (tCons (tLst tl) tNil))) R := r_pickR hi ha (hl.r (RA := fun ss => ss = ds.map Sl.d) rfl) fun ss hs => ⟨ds, hs, h0, h1, hr⟩
abbrev spFormula (k : Nat) : Sp := SpH (fun x : List Str × Int × Int => [Dt.lst (dStrs x.1), .int x.2.1, .int x.2.2]) (fun x => 1 ≤ x.1.length ∧ x.1.length + x.2.2.toNat ≤ k ∧ 0 ≤ x.2.2 ∧ 1 ≤ x.2.1 ∧ x.1.length < 1000 ∧ x.2.1 ≤ 1000000) (fun x d => isFm x.1 x.2.1 x.2.2 d)
theorem fm_leaf (z : Str) (m d : Int) : FmOk [z] m d (.kind z) := ⟨trivial, rfl, by simp [Fm.nodes]⟩
theorem fm_leaf2 (z : Str) (m d : Int) {n : Int} (h1 : 1 < n) (h2 : n ≤ m) : FmOk [z] m d (.many n (.kind z)) := ⟨⟨h1, h2, trivial⟩, rfl, by simp [Fm.nodes]⟩
theorem ok_formulaK (T : Txt K mg a) (k : Nat) : FnOk P w K mg base CX0 (k + 3) a.formula a.d_formula P_formula (spFormula k) := by
  induction k with
  | zero =>
    refine T.formula.F.ok sc_formula (fun vs H Q E h => ?_) (fun cdv A outer s H vs Q E hr h => ?_)
    · obtain ⟨A, hp, lp, ws, n, rfl, _, _, _, _, _, _, hd, _⟩ := h
      exact congrArg (· + 1) hd.length
    · obtain ⟨A', hp, lp, ws, n, rfl, _, _, _, _, _, _, _, ⟨h1, h2, _⟩, _⟩ := h
      omega
  | succ k ih =>
  refine T.formula.F.ok sc_formula (fun vs H Q E h => ?_) (fun cdv A outer s H vs Q E hr h => ?_)
  · obtain ⟨A, hp, lp, ws, n, rfl, _, _, _, _, _, _, hd, _⟩ := h
    exact congrArg (· + 1) hd.length
  · obtain ⟨A', hp, lp, ws, ⟨ys, m, dp⟩, rfl, nA, lv, a1, a2, hne, hc, hd, ⟨hy1, hy2, hd0, hm1, hy3, hm2⟩, q⟩ := h
    dsimp only at hy1 hy2 hd0 hm1 hy3 hm2 hd q
    have w0 : Wd ⟨[hp, lp], H⟩ ⟨A', [], [(hp, .heap lp), (lp, .held hp)], [.v (.ref hp), .d (.lst (dStrs ys)), .d (.int m), .d (.int dp), .u, .u, .u, .u, .u]⟩ H (L2.start N_formula (.ref hp :: ws)) := wd_startH (N := N_formula) nA lv a1 a2 hne hc hd
    have ok_formula := fun _ : Txt K mg a => ih
    refine ⟨_, (pss_cons (ps_if (pt_cmpR do_eqI (pe_callB dc_len (by rfl) T.n_len PySem.boot_len (pa_cons (pv 1) pa_nil)) pe_int (nomark _)) (pss_cons (ps_set (i := 4) sc_formula.nd rfl (by first | exact Or.inl rfl | exact Or.inr rfl) (pe_call (ok_pick T) (hr.mono (by omega)) (by rfl) T.pick.g T.pick.F.kp T.pick.b .nil pass0 (pa_cons (pv 0) (pa_cons (pe_lst (pa_cons pe_int (pa_cons pe_int (pa_cons pe_int (pa_cons pe_int (pa_cons (pe_op op_add pe_int (pe_call (ok_draw T) (hr.mono (by omega)) (by rfl) T.draw.g T.draw.F.kp T.draw.b .nil pass0 (pa_cons (pv 0) (pa_cons pe_int pa_nil)))) pa_nil)))))) pa_nil))))
      (pss_one (ps_ret (pe_ifExp (pt_chain op_lt op_le pe_int (pv 4) (pv 2)) (pe_tup (pa_cons pe_str (pa_cons (pv 4) (pa_cons (pe_tup (pa_cons pe_str (pa_cons (pe_ix ix_list (pv 1) pe_int (fun _ _ => rfl)) pa_nil))) pa_nil)))) (pe_tup (pa_cons pe_str (pa_cons (pe_ix ix_list (pv 1) pe_int (fun _ _ => rfl)) pa_nil))))))) pss_nil)
      (pss_cons (ps_set (i := 4) sc_formula.nd rfl (by first | exact Or.inl rfl | exact Or.inr rfl) (pe_ifExp (pt_cmpR op_gt (pv 3) pe_int (nomark _)) (pe_call (ok_pick T) (hr.mono (by omega)) (by rfl) T.pick.g T.pick.F.kp T.pick.b .nil pass0 (pa_cons (pv 0) (pa_cons (pe_lst (pa_cons pe_int (pa_cons pe_int (pa_cons pe_int (pa_cons pe_int (pa_cons pe_int pa_nil)))))) pa_nil))) pe_int))
      (pss_cons (ps_if (pt_chain op_lt op_le pe_int (pv 4) (pv 2)) (pss_one (ps_ret (pe_tup (pa_cons pe_str (pa_cons (pv 4) (pa_cons (pe_call (ok_formula T) (hr.mono (by omega)) (by rfl) T.formula.g T.formula.F.kp T.formula.b .nil pass0 (pa_cons (pv 0) (pa_cons (pv 1) (pa_cons (pe_op op_fdiv (pv 2) (pv 4)) (pa_cons (pe_op op_sub (pv 3) pe_int) pa_nil))))) pa_nil)))))) pss_nil)
      (pss_cons (ps_set (i := 5) sc_formula.nd rfl (by first | exact Or.inl rfl | exact Or.inr rfl) (pe_op op_add pe_int (pe_call (ok_draw T) (hr.mono (by omega)) (by rfl) T.draw.g T.draw.F.kp T.draw.b .nil pass0 (pa_cons (pv 0) (pa_cons (pe_op op_sub (pe_callB dc_len (by rfl) T.n_len PySem.boot_len (pa_cons (pv 1) pa_nil)) pe_int) pa_nil)))))
      (pss_cons (ps_set (i := 6) sc_formula.nd rfl (by first | exact Or.inl rfl | exact Or.inr rfl) (pe_lst (pa_cons (pe_slice sl_list (pv 1) po_none (po_some (pv 5))) (pa_cons (pe_slice sl_list (pv 1) (po_some (pv 5)) po_none) pa_nil))))
      (pss_cons (ps_if (PW.pt (pw_and (pt_cmpR op_gt (pe_callB dc_len (by rfl) T.n_len PySem.boot_len (pa_cons (pe_ix ix_list (pv 6) pe_int (fun _ _ => rfl)) pa_nil)) pe_int (nomark _)) (pw_and1 (pt_cmpR do_eqI (pe_call (ok_draw T) (hr.mono (by omega)) (by rfl) T.draw.g T.draw.F.kp T.draw.b .nil pass0 (pa_cons (pv 0) (pa_cons pe_int pa_nil))) pe_int (nomark _))))) (pss_cons (ps_set (i := 7) sc_formula.nd rfl (by first | exact Or.inl rfl | exact Or.inr rfl) (pe_op op_add pe_int (pe_call (ok_draw T) (hr.mono (by omega)) (by rfl) T.draw.g T.draw.F.kp T.draw.b .nil pass0 (pa_cons (pv 0) (pa_cons (pe_op op_sub (pe_callB dc_len (by rfl) T.n_len PySem.boot_len (pa_cons (pe_ix ix_list (pv 6) pe_int (fun _ _ => rfl)) pa_nil)) pe_int) pa_nil)))))
      (pss_one (ps_set (i := 6) sc_formula.nd rfl (by first | exact Or.inl rfl | exact Or.inr rfl) (pe_lst (pa_cons (pe_ix ix_list (pv 6) pe_int (fun _ _ => rfl)) (pa_cons (pe_slice sl_list (pe_ix ix_list (pv 6) pe_int (fun _ _ => rfl)) po_none (po_some (pv 7))) (pa_cons (pe_slice sl_list (pe_ix ix_list (pv 6) pe_int (fun _ _ => rfl)) (po_some (pv 7)) po_none) pa_nil))))))) pss_nil)
      (pss_one (ps_ret (pe_tup (pa_cons (pe_call (ok_pick T) (hr.mono (by omega)) (by rfl) T.pick.g T.pick.F.kp T.pick.b .nil pass0 (pa_cons (pv 0) (pa_cons (pe_lst (pa_cons pe_str (pa_cons pe_str (pa_cons pe_str pa_nil)))) pa_nil))) (pa_cons (pe_callTy dc_tup (by rfl) T.n_tuple (by decide +kernel) (pa_cons (pe_lc (own := [("lot", 8)]) (g := gName 8) (tt := tYes) (by rfl) sc_formula.nd (pi_list (pv 6)) (blkOk_by (own := [("lot", 8)]) (N := N_formula) (sc := defScope s_formula) (by decide +kernel)) (fun _ _ _ _ _ => (pg_name (i := 8) sc_formula.nd rfl (by first | exact Or.inl rfl | exact Or.inr rfl))) (fun _ _ _ _ _ => pts_nil) (fun _ _ _ _ _ => (pe_call (ok_formula T) (hr.mono (by omega)) (by rfl) T.formula.g T.formula.F.kp T.formula.b .nil pass0 (pa_cons (pv 0) (pa_cons (pv 8) (pa_cons (pv 2) (pa_cons (pv 3) pa_nil))))))) pa_nil)) pa_nil))))))))))), ?_⟩
    have fin : ∀ {S : List Sl} {v : V} {H' : Hp} {σ' : L2.St} {x : Dt}, Wd ⟨[hp, lp], H⟩ ⟨A', [], [(hp, .heap lp), (lp, .held hp)], S⟩ H' σ' → isFm ys m dp x → SlOk A' H' (.d x) v → Q v H' := fun w1 hx hv =>
      q _ _ _ hx (fun b o h1 h2 e => w1.fr b o (by simp [h1, h2]) e) (w1.mO (hp, .heap lp) (by simp)) hv
    refine q_if1 w0 (et_test (ev_qEqI (ev_len (ea_cons (ev_var rfl) ea_nil)) ev_int)) (fun hb H1 w1 => ?_) fun hb H1 w1 => ?_
    · -- one kind
      obtain ⟨z, rfl⟩ : ∃ z, ys = [z] := by
        match ys, hb with
        | [z], _ => exact ⟨z, rfl⟩
        | [], hb => simp [dStrs] at hb
        | _ :: _ :: _, hb => simp [dStrs] at hb; omega
      refine q_setR w1 (R := fun s => ∃ n : Int, s = .d (.int n)) (r_pickR (i := 0) rfl (ev_var rfl) (RA := fun ss => ∃ r : Int, ss = [.d (.int 1), .d (.int 1), .d (.int 2), .d (.int 3), .d (.int (1 + r))]) ?_ ?_) ?_
      · refine (ra_cons0 ev_int (ra_cons0 ev_int (ra_cons0 ev_int (ra_cons0 ev_int (ra_cons1 (R := fun s => ∃ r : Int, s = .d (.int (1 + r))) (r_op (ev_int.r (R := fun s => s = .d (.int 1)) rfl) (r_draw (i := 0) (n := 6) rfl (ev_var rfl) ev_int ⟨by decide, by decide⟩) ?_) ea_nil))))).imp ?_
        · rintro _ _ rfl ⟨r, _, _, rfl⟩
          exact ⟨_, ⟨r, rfl⟩, rv_I0⟩
        · rintro _ ⟨_, ⟨_, ⟨_, ⟨_, ⟨_, ⟨r, rfl⟩, rfl⟩, rfl⟩, rfl⟩, rfl⟩, rfl⟩
          exact ⟨r, rfl⟩
      · rintro _ ⟨r, rfl⟩
        refine ⟨[.int 1, .int 1, .int 2, .int 3, .int (1 + r)], rfl, by simp, by simp, fun d hd => ?_⟩
        simp only [List.mem_cons, List.not_mem_nil, or_false] at hd
        rcases hd with rfl | rfl | rfl | rfl | rfl <;> exact ⟨_, rfl⟩
      · rintro _ ⟨n, rfl⟩ H2 σ2 w2
        have ez : ∀ {S : List Sl}, S[1]? = some (.d (.lst (dStrs [z]))) → EvP ⟨[hp, lp], H⟩ ⟨A', [], [(hp, .heap lp), (lp, .held hp)], S⟩ (tOp (rIxL K) (tVar 1) (tC (.int 0))) (.d (.str z)) := fun e => ev_ixL (ev_var e) ev_int rfl
        refine s_retR w2 (R := fun s => ∃ x, s = .d x ∧ isFm [z] m dp x) (r_if (b := decide (1 < n) && decide (n ≤ m)) (by walk_at "dls") (fun hb => ?_) fun hb => ?_) ?_
        · simp only [Bool.and_eq_true, decide_eq_true_eq] at hb
          exact (ev_tup (ds := [.str "many", .int n, Fm.enc (.kind z)]) (ea_cons ev_str (ea_cons (ev_var rfl) (ea_cons (ev_tup (ds := [.str "kind", .str z]) (ea_cons ev_str (ea_cons (ez rfl) ea_nil))) ea_nil)))).r ⟨_, rfl, _, rfl, fm_leaf2 z m dp hb.1 hb.2⟩
        · exact (ev_tup (ds := [.str "kind", .str z]) (ea_cons ev_str (ea_cons (ez rfl) ea_nil))).r ⟨_, rfl, _, rfl, fm_leaf z m dp⟩
        · rintro _ ⟨x, rfl, hx⟩ v H' w3 hv
          exact fin w3 hx hv
    · have hy4 : 2 ≤ ys.length := by
        simp [dStrs] at hb
        omega
      refine q_setR w1 (R := fun s => ∃ n : Int, s = .d (.int n) ∧ (1 < n → 0 < dp)) (r_if (b := decide (dp > 0)) (by walk_at "dls") (fun hb => r_pickL (i := 0) (ds := [.int 1, .int 1, .int 1, .int 2, .int 3]) rfl (ev_var rfl) (ea_cons ev_int (ea_cons ev_int (ea_cons ev_int (ea_cons ev_int (ea_cons ev_int ea_nil))))) (by decide) (by decide) fun d hd => ?_) fun hb => ev_int.r ⟨1, rfl, fun h => by omega⟩) ?_
      · simp only [List.mem_cons, List.not_mem_nil, or_false] at hd
        rcases hd with rfl | rfl | rfl | rfl | rfl <;> exact ⟨_, rfl, fun _ => by simpa using hb⟩
      · rintro _ ⟨n, rfl, hn⟩ H2 σ2 w2
        refine q_if1 w2 (b := decide (1 < n) && decide (n ≤ m)) (by walk_at "dls") (fun hb2 H3 w3 => ?_) fun hb2 H3 w3 => ?_
        · -- so many of it
          simp only [Bool.and_eq_true, decide_eq_true_eq] at hb2
          have hdp := hn hb2.1
          have hmn : 1 ≤ m / n := (Int.le_ediv_iff_mul_le (by omega)).mpr (by omega)
          refine s_retR w3 (R := fun s => ∃ x, s = .d x ∧ isFm ys m dp x) (r_tup (ra_cons0 ev_str (ra_cons0 (ev_var rfl) (ra_cons1 (R := fun s => ∃ x, s = .d x ∧ isFm ys (m / n) (dp - 1) x) (r_callH (i := 0) rfl ((ea_cons (ev_var rfl) (ea_cons (ev_var rfl) (ea_cons (ev_I (ev_var rfl) (ev_var rfl) ⟨by omega, by omega⟩) (ea_cons (ev_I0 (ev_var rfl) ev_int) ea_nil)))).r (RA := fun ss => ss = [.v (.ref hp), .d (.lst (dStrs ys)), .d (.int (m / n)), .d (.int (dp - 1))]) rfl) ?_) ea_nil))) ?_) ?_
          · rintro _ rfl
            exact ⟨(ys, m / n, dp - 1), rfl, ⟨hy1, by dsimp only; omega, by dsimp only; omega, hmn, hy3, Int.le_trans (Int.ediv_le_self _ (by omega)) hm2⟩, fun d hd => ⟨d, rfl, hd⟩⟩
          · rintro _ ⟨_, ⟨_, ⟨_, ⟨x, rfl, f, hx, ok⟩, rfl⟩, rfl⟩, rfl⟩
            refine ⟨[.str "many", .int n, x], rfl, by simp, _, rfl, .many n f, by rw [Fm.enc, hx], ⟨hb2.1, hb2.2, ok.fit⟩, ok.lv, ?_⟩
            have := ok.sz
            rw [Fm.nodes]
            obtain ⟨e, he⟩ : ∃ e : Nat, dp = (e : Int) + 1 := ⟨(dp - 1).toNat, by omega⟩
            subst he
            have e1 : ((e : Int) + 1 - 1).toNat = e := by omega
            have e2 : ((e : Int) + 1).toNat = e + 1 := by omega
            rw [e1] at this
            rw [e2, show e + 1 + 2 = (e + 2) + 1 from rfl, Nat.add_mul, Nat.one_mul]
            omega
          · rintro _ ⟨x, rfl, hx⟩ v H' w4 hv
            exact fin w4 hx hv
        · -- joints
          have hds : (dStrs ys).length = ys.length := by simp [dStrs]
          refine q_setR w3 (R := fun s => ∃ j : Nat, 1 ≤ j ∧ j < ys.length ∧ s = .d (.int j)) (r_op (ev_int.r (R := fun s => s = .d (.int 1)) rfl) (r_draw (i := 0) (n := ((dStrs ys).length : Nat) - 1) rfl (ev_var rfl) (ev_I0 (ev_len (ea_cons (ev_var rfl) ea_nil)) ev_int) (by omega)) ?_) ?_
          · rintro _ _ rfl ⟨r, h0, h1, rfl⟩
            refine ⟨_, ⟨r.toNat + 1, by omega, by omega, rfl⟩, ?_⟩
            have e : ((r.toNat + 1 : Nat) : Int) = 1 + r := by omega
            rw [e]
            exact rv_I0
          rintro _ ⟨j, hj1, hj2, rfl⟩ H4 σ4 w4
          refine q_set w4 (s := .d (.lst [.lst (dStrs (ys.take j)), .lst (dStrs (ys.drop j))])) (ev_lst (ds := [.lst (dStrs (ys.take j)), .lst (dStrs (ys.drop j))]) (ea_cons (ev_is (ev_slL (ev_var rfl) eo_none (eo_some (ev_var rfl))) ?_) (ea_cons (ev_is (ev_slL (ev_var rfl) (eo_some (ev_var rfl)) eo_none) ?_) ea_nil))) fun H5 σ5 w5 => ?_
          · rw [cut0]; simp [dStrs, List.map_take]
          · rw [cut1]; simp [dStrs, List.map_drop]
          have hdl : (dStrs (ys.drop j)).length = ys.length - j := by simp [dStrs]
          refine q_if1J (fun c2 => ∃ (ps : List (List Str)) (x : Sl), 2 ≤ ps.length ∧ ps.length ≤ 3 ∧ ps.flatten = ys ∧ (∀ p ∈ ps, p ≠ []) ∧ c2 = ⟨A', [], [(hp, .heap lp), (lp, .held hp)], [.v (.ref hp), .d (.lst (dStrs ys)), .d (.int m), .d (.int dp), .d (.int n), .d (.int j), .d (.lst (ps.map fun p => .lst (dStrs p))), x, .u]⟩)
            w5 (RT := fun b => b = true → 1 < ys.length - j) (rt_and (a := decide ((((dStrs (ys.drop j)).length : Nat) : Int) > 1)) (et_test (ev_B0 (ev_len (ea_cons (ev_ixL (ev_var rfl) ev_int rfl) ea_nil)) ev_int)) (fun _ h => by cases h) fun ha => rt_test (R := fun s => ∃ b, s = .d (.bl b)) (r_op (r_draw (i := 0) (n := 2) rfl (ev_var rfl) ev_int ⟨by decide, by decide⟩) (ev_int.r (R := fun s => s = .d (.int 0)) rfl) ?_) ?_) (fun hb3 H6 N w6 hN => ?_) (fun _ => ?_) fun c2 H6 σ6 hJ w6 => ?_
          · rintro _ _ ⟨r, _, _, rfl⟩ rfl
            exact ⟨_, ⟨_, rfl⟩, rv_qEqI⟩
          · rintro _ ⟨b, rfl⟩
            refine ⟨b, rfl, fun _ => ?_⟩
            have := of_decide_eq_true ha
            omega
          · have hj3 := hb3 rfl
            refine q_setR w6 (R := fun s => ∃ i : Nat, 1 ≤ i ∧ i < ys.length - j ∧ s = .d (.int i)) (r_op (ev_int.r (R := fun s => s = .d (.int 1)) rfl) (r_draw (i := 0) (n := ((dStrs (ys.drop j)).length : Nat) - 1) rfl (ev_var rfl) (ev_I0 (ev_len (ea_cons (ev_ixL (ev_var rfl) ev_int rfl) ea_nil)) ev_int) (by omega)) ?_) ?_
            · rintro _ _ rfl ⟨r, h0, h1, rfl⟩
              refine ⟨_, ⟨r.toNat + 1, by omega, by omega, rfl⟩, ?_⟩
              have e : ((r.toNat + 1 : Nat) : Int) = 1 + r := by omega
              rw [e]
              exact rv_I0
            rintro _ ⟨i, hi1, hi2, rfl⟩ H7 σ7 w7
            refine s_set w7 (s := .d (.lst [.lst (dStrs (ys.take j)), .lst (dStrs ((ys.drop j).take i)), .lst (dStrs ((ys.drop j).drop i))])) (ev_lst (ds := [.lst (dStrs (ys.take j)), .lst (dStrs ((ys.drop j).take i)), .lst (dStrs ((ys.drop j).drop i))]) (ea_cons (ev_ixL (ev_var rfl) ev_int rfl) (ea_cons (ev_is (ev_slL (ev_ixL (ev_var rfl) ev_int rfl) eo_none (eo_some (ev_var rfl))) ?_) (ea_cons (ev_is (ev_slL (ev_ixL (ev_var rfl) ev_int rfl) (eo_some (ev_var rfl)) eo_none) ?_) ea_nil)))) fun H8 σ8 w8 => ?_
            · rw [cut0]; simp [dStrs, List.map_take]
            · rw [cut1]; simp [dStrs, List.map_drop]
            refine hN _ _ _ ⟨[ys.take j, (ys.drop j).take i, (ys.drop j).drop i], .d (.int i), by simp, by simp, by simp only [List.flatten_cons, List.flatten_nil, List.append_nil, List.take_append_drop], fun p hp' => ?_, rfl⟩ w8
            simp only [List.mem_cons, List.not_mem_nil, or_false] at hp'
            rcases hp' with rfl | rfl | rfl <;> refine List.length_pos_iff.mp ?_ <;> simp <;> omega
          · refine ⟨[ys.take j, ys.drop j], .u, by simp, by simp, by simp, fun p hp' => ?_, rfl⟩
            simp only [List.mem_cons, List.not_mem_nil, or_false] at hp'
            rcases hp' with rfl | rfl <;> refine List.length_pos_iff.mp ?_ <;> simp <;> omega
          · obtain ⟨ps, x, h2, h3, hfl, hne2, rfl⟩ := hJ
            have hsum : ∀ p ∈ ps, p.length < ys.length := fun p hp' => by
              obtain ⟨l, r, e⟩ := List.append_of_mem hp'
              have hl := congrArg List.length hfl
              rw [e, List.flatten_append, List.flatten_cons, List.length_append, List.length_append] at hl
              have hlr : 1 ≤ l.length + r.length := by
                have := congrArg List.length e
                simp at this
                omega
              have : 0 < l.flatten.length + r.flatten.length := by
                rcases l with _ | ⟨l0, l⟩
                · rcases r with _ | ⟨r0, r⟩
                  · simp at hlr
                  · have := List.length_pos_iff.mpr (hne2 r0 (by rw [e]; simp))
                    simp [List.length_append]
                    omega
                · have := List.length_pos_iff.mpr (hne2 l0 (by rw [e]; simp))
                  simp [List.length_append]
                  omega
              omega
            refine s_retR w6 (R := fun s => ∃ x, s = .d x ∧ isFm ys m dp x) (r_tup (ra_cons (R := fun s => ∃ w : Str, (w = "and" ∨ w = "or") ∧ s = .d (.str w)) (r_pickL (i := 0) (ds := [.str "and", .str "or", .str "or"]) rfl (ev_var rfl) (ea_cons ev_str (ea_cons ev_str (ea_cons ev_str ea_nil))) (by decide) (by decide) ?_) (R2 := fun _ r => ∃ fs : List Fm, r = [.d (.tup (Fm.encL fs))] ∧ ∀ w : Str, (w = "and" ∨ w = "or") → FmOk ys m dp (.join w fs)) (fun s hs => (ra_cons1 (R := fun s => ∃ fs : List Fm, s = .d (.tup (Fm.encL fs)) ∧ ∀ w : Str, (w = "and" ∨ w = "or") → FmOk ys m dp (.join w fs)) (r_cb (ra_cons1 (x_lc (its := ps) (enc := lotS) (P := fun p o => ∃ x, o = some x ∧ isFm p m dp x) (keep := fun _ => true) (ev_iL (ei_list (ev_var rfl))) (by omega) (fun p _ => egc_name (by simp)) (fun p _ => et_yes) (fun p _ h => by cases h) (fun p hp' _ => ?_)) ea_nil) ?_) ea_nil).imp ?_)) ?_) ?_
            · intro d hd
              simp only [List.mem_cons, List.not_mem_nil, or_false] at hd
              rcases hd with rfl | rfl | rfl
              · exact ⟨_, .inl rfl, rfl⟩
              · exact ⟨_, .inr rfl, rfl⟩
              · exact ⟨_, .inr rfl, rfl⟩
            · refine r_callH (i := 0) rfl ((ea_cons (ev_var rfl) (ea_cons (ev_var (s := lotS p) rfl) (ea_cons (ev_var rfl) (ea_cons (ev_var rfl) ea_nil)))).r (RA := fun ss => ss = [.v (.ref hp), lotS p, .d (.int m), .d (.int dp)]) rfl) ?_
              rintro _ rfl
              have hpl := hsum p hp'
              have hp0 := List.length_pos_iff.mpr (hne2 p hp')
              exact ⟨(p, m, dp), rfl, ⟨hp0, by dsimp only; omega, hd0, hm1, by dsimp only; omega, hm2⟩, fun d hd => ⟨d, rfl, d, rfl, hd⟩⟩
            · rintro _ ⟨_, ⟨ds, rfl, hds'⟩, rfl⟩
              obtain ⟨fs, e1, e2, e3, e4, e5⟩ := lots_fm hds'
              rw [e1]
              exact ⟨_, ⟨fs, rfl, fun w hw => fm_join hw h2 hfl hne2 e2 e3 e4 (e5 hne2)⟩, rc_tupL⟩
            · rintro _ ⟨_, ⟨fs, rfl, h⟩, rfl⟩
              exact ⟨fs, rfl, h⟩
            · rintro _ ⟨_, _, ⟨w, hw, rfl⟩, ⟨fs, rfl, h⟩, rfl⟩
              exact ⟨[.str w, .tup (Fm.encL fs)], rfl, by simp, _, rfl, .join w fs, rfl, h w hw⟩
            · rintro _ ⟨x, rfl, hx⟩ v H' w7 hv
              exact fin w7 hx hv
end
end K77

set_option Elab.async false
set_option linter.all false
set_option maxRecDepth 100000
set_option maxHeartbeats 1000000
namespace K77
open PySem PySem.Spec PyProof.Rows L2 DL
local macro_rules | `(tactic| walk_at "dl.1") => `(tactic| first
  | with_reducible exact ev_int
  | with_reducible exact ev_str
  | with_reducible exact ev_bl
  | with_reducible exact ev_non
  | with_reducible exact ea_nil
  | with_reducible exact eo_none
  | ((with_reducible refine' ev_var ?_ ?_) <;> rfl)
  | with_reducible refine' ea_cons ?_ ?_
  | with_reducible refine' eo_some ?_
  | with_reducible refine' ev_I0 ?_ ?_
  | with_reducible refine' ev_B0 ?_ ?_
  | with_reducible refine' ev_I ?_ ?_ ?_
  | with_reducible refine' ev_qEqI ?_ ?_
  | with_reducible refine' ev_qNeI ?_ ?_
  | with_reducible refine' ev_qEqS ?_ ?_
  | with_reducible refine' ev_qNeS ?_ ?_
  | with_reducible refine' ev_neg ?_
  | with_reducible refine' ev_addT ?_ ?_ ?_
  | with_reducible refine' ev_sign ?_ ?_
  | with_reducible refine' ev_chI ?_ ?_ (fun _ => ?_)
  | with_reducible refine' et_test ?_
  | with_reducible refine' et_B ?_
  | with_reducible refine' et_and ?_ (fun _ => ?_)
  | with_reducible refine' et_or ?_ (fun _ => ?_)
  | with_reducible refine' et_not ?_
  | with_reducible refine' ev_andV ?_ (fun _ => ?_)
  | with_reducible refine' ev_orV ?_ (fun _ => ?_)
  | with_reducible refine' ev_notV ?_
  | with_reducible refine' ev_abs ?_
  | with_reducible refine' ev_strI ?_ ?_
  | with_reducible refine' ev_lenS ?_ ?_
  | with_reducible refine' ev_isS (ea_cons ?_ (ea_cons ev_raw ea_nil)))
local macro_rules | `(tactic| walk_at "dl") => `(tactic| (repeat' walk_at "dl.1"))
local macro_rules | `(tactic| walk_at "dl.s") => `(tactic| first | assumption | omega | decide | exact trivial)
local macro_rules | `(tactic| walk_at "dls") => `(tactic| (walk_at "dl") <;> (walk_at "dl.s"))
local macro_rules | `(tactic| walk_at "dl.n") => `(tactic| (refine nxt ?_; dsimp only))

section
variable {P : Program} {w : World} {K : PySem.W.Frag} {mg : Str → Option Value} {base : Heap} {a : Ads}
abbrev spWords (k : Nat) : Sp := SpH (fun x : Fm × Bool × Int => [Fm.enc x.1, .bl x.2.1, .int x.2.2]) (fun x => x.1.high ≤ k ∧ 0 ≤ x.2.2 ∧ x.2.2 ≤ 30 ∧ (∃ m, m ≤ 1000 ∧ x.1.fits m) ∧ x.1.nodes ≤ 1000)
  (fun x d => ∃ ws, d = .lst (dStrs ws) ∧ Says (decide (0 < x.2.2)) x.2.1 x.1 ws ∧ ws.length + 1 ≤ 64 * x.1.nodes)
theorem log_small {n : Int} (h0 : 0 ≤ n) (h1 : n ≤ 1000) : n.natAbs.log2 < 1920 := by
  have h2 : n.natAbs < 2 ^ 1920 := Nat.lt_of_le_of_lt (show n.natAbs ≤ 1000 by omega) (by decide +kernel)
  rcases Nat.eq_zero_or_pos n.natAbs with e | e
  · rw [e]; decide
  · exact (Nat.log2_lt (by omega)).mpr h2
theorem ok_wordsK (T : Txt K mg a) (k : Nat) : FnOk P w K mg base CX0 (k + 3) a.words a.d_words P_words (spWords k) := by
  induction k with
  | zero =>
    refine T.words.F.ok sc_words (fun vs H Q E h => ?_) (fun cdv A outer s H vs Q E hr h => ?_)
    · obtain ⟨A, hp, lp, ws, n, rfl, _, _, _, _, _, _, hd, _⟩ := h
      exact congrArg (· + 1) hd.length
    · obtain ⟨A', hp, lp, ws, ⟨f, n⟩, rfl, _, _, _, _, _, _, _, ⟨h1, _⟩, _⟩ := h
      cases f <;> simp [Fm.high] at h1
  | succ k ih =>
  refine T.words.F.ok sc_words (fun vs H Q E h => ?_) (fun cdv A outer s H vs Q E hr h => ?_)
  · obtain ⟨A, hp, lp, ws, n, rfl, _, _, _, _, _, _, hd, _⟩ := h
    exact congrArg (· + 1) hd.length
  · obtain ⟨A', hp, lp, ws, ⟨f, b, dp⟩, rfl, nA, lv, a1, a2, hne, hc, hd, ⟨hh, hd0, hd1, ⟨m, hm, hf⟩, hn⟩, q⟩ := h
    dsimp only at hh hd0 hd1 hf hn hd q
    have w0 : Wd ⟨[hp, lp], H⟩ ⟨A', [], [(hp, .heap lp), (lp, .held hp)], [.v (.ref hp), .d f.enc, .d (.bl b), .d (.int dp), .u, .u, .u]⟩ H (L2.start N_words (.ref hp :: ws)) := wd_startH (N := N_words) nA lv a1 a2 hne hc hd
    have ok_words := fun _ : Txt K mg a => ih
    refine ⟨_, (pss_cons (ps_if (pt_cmpR do_eqS (pe_ix ix_tup (pv 1) pe_int (fun _ _ => rfl)) pe_str (nomark _)) (pss_one (ps_set (i := 4) sc_words.nd rfl (by first | exact Or.inl rfl | exact Or.inr rfl) (pe_lst (pa_cons (pe_ix ix_tup (pv 1) pe_int (fun _ _ => rfl)) pa_nil)))) (pss_one (ps_if (pt_cmpR do_eqS (pe_ix ix_tup (pv 1) pe_int (fun _ _ => rfl)) pe_str (nomark _)) (pss_one (ps_set (i := 4) sc_words.nd rfl (by first | exact Or.inl rfl | exact Or.inr rfl) (pe_op op_cat (pe_lst (pa_cons (pe_callTy dc_strI (by rfl) T.n_str (by decide +kernel) (pa_cons (pe_ix ix_tup (pv 1) pe_int (fun _ _ => rfl)) pa_nil)) (pa_cons pe_str pa_nil))) (pe_call (ok_words T) (hr.mono (by omega)) (by rfl) T.words.g T.words.F.kp T.words.b .nil pass0 (pa_cons (pv 0) (pa_cons (pe_ix ix_tup (pv 1) pe_int (fun _ _ => rfl)) (pa_cons pe_bl (pa_cons (pe_op op_fdiv (pv 3) pe_int) pa_nil)))))))) (pss_cons (ps_set (i := 4) sc_words.nd rfl (by first | exact Or.inl rfl | exact Or.inr rfl) (pe_lst pa_nil))
      (pss_cons (ps_for PassesOwn.never rfl (pi_tup (pe_ix ix_tup (pv 1) pe_int (fun _ _ => rfl))) (pg_name (i := 5) sc_words.nd rfl (by first | exact Or.inl rfl | exact Or.inr rfl)) (pss_one (ps_set (i := 4) sc_words.nd rfl (by first | exact Or.inl rfl | exact Or.inr rfl) (pe_op op_cat (pe_op op_cat (pv 4) (pe_lst (pa_cons (pe_ix ix_tup (pv 1) pe_int (fun _ _ => rfl)) pa_nil))) (pe_call (ok_words T) (hr.mono (by omega)) (by rfl) T.words.g T.words.F.kp T.words.b .nil pass0 (pa_cons (pv 0) (pa_cons (pv 5) (pa_cons pe_bl (pa_cons (pe_op op_fdiv (pv 3) pe_int) pa_nil)))))))))
      (pss_cons (ps_set (i := 4) sc_words.nd rfl (by first | exact Or.inl rfl | exact Or.inr rfl) (pe_slice sl_list (pv 4) (po_some pe_int) po_none))
      (pss_one (ps_if (pt_val (pv 2)) (pss_one (ps_set (i := 4) sc_words.nd rfl (by first | exact Or.inl rfl | exact Or.inr rfl) (pe_op op_cat (pe_op op_cat (pe_lst (pa_cons pe_str pa_nil)) (pv 4)) (pe_lst (pa_cons pe_str pa_nil))))) pss_nil))))))))
      (pss_cons (ps_if (PW.pt (pw_and (pt_cmpR op_gt (pv 3) pe_int (nomark _)) (pw_and1 (pt_cmpR do_eqI (pe_call (ok_draw T) (hr.mono (by omega)) (by rfl) T.draw.g T.draw.F.kp T.draw.b .nil pass0 (pa_cons (pv 0) (pa_cons pe_int pa_nil))) pe_int (nomark _))))) (pss_cons (ps_set (i := 6) sc_words.nd rfl (by first | exact Or.inl rfl | exact Or.inr rfl) (pe_op op_add pe_int (pe_call (ok_draw T) (hr.mono (by omega)) (by rfl) T.draw.g T.draw.F.kp T.draw.b .nil pass0 (pa_cons (pv 0) (pa_cons (pv 3) pa_nil)))))
      (pss_one (ps_set (i := 4) sc_words.nd rfl (by first | exact Or.inl rfl | exact Or.inr rfl) (pe_op op_cat (pe_op op_cat (pe_op op_rep (pe_lst (pa_cons pe_str pa_nil)) (pv 6)) (pv 4)) (pe_op op_rep (pe_lst (pa_cons pe_str pa_nil)) (pv 6)))))) pss_nil)
      (pss_one (ps_ret (pv 4))))), ?_⟩
    have e0 : ∀ {S : List Sl} {G : List (V × Dt)}, S[1]? = some (.d f.enc) → EvP ⟨[hp, lp], H⟩ ⟨A', G, [(hp, .heap lp), (lp, .held hp)], S⟩ (tOp (rIxT K) (tVar 1) (tC (.int 0))) (.d (.str f.tag)) := fun h => ev_ixT (ds := .str f.tag :: f.tail) (by rw [← Fm.enc_tag]; exact ev_var h) ev_int (atG (j := 0) rfl rfl)
    have e1 : ∀ {S : List Sl} {G : List (V × Dt)} {y : Dt} {j : Nat}, f.tail[j]? = some y → S[1]? = some (.d f.enc) → EvP ⟨[hp, lp], H⟩ ⟨A', G, [(hp, .heap lp), (lp, .held hp)], S⟩ (tOp (rIxT K) (tVar 1) (tC (.int ((j + 1 : Nat) : Int)))) (.d y) := fun e h => ev_ixT (ds := .str f.tag :: f.tail) (by rw [← Fm.enc_tag]; exact ev_var h) ev_int (atG (j := _ + 1) rfl e)
    -- the first part: the words without parentheses around
    refine q_ifJ (fun c2 => ∃ (ws : List Str) (x : Sl), (∀ k, (decide (0 < dp) = false → k = 0) → Says (decide (0 < dp)) b f (par k ws)) ∧ ws.length + 1 + 60 ≤ 64 * f.nodes ∧ c2 = ⟨A', [], [(hp, .heap lp), (lp, .held hp)], [.v (.ref hp), .d f.enc, .d (.bl b), .d (.int dp), .d (.lst (dStrs ws)), x, .u]⟩) w0 ((et_test (ev_qEqS (e0 rfl) ev_str)).r (RT := fun t => t = decide (f.tag = "kind")) rfl) (fun ht H1 N w1 hN => ?_) (fun ht H1 N w1 hN => ?_) fun c2 H1 σ1 hJ w1 => ?_
    · obtain ⟨z, rfl⟩ := Fm.tag_kind hf (of_decide_eq_true ht.symm)
      refine s_set w1 (s := .d (.lst (dStrs [z]))) (ev_lst (ds := [.str z]) (ea_cons (e1 (j := 0) rfl rfl) ea_nil)) fun H2 σ2 w2 => ?_
      exact hN _ _ _ ⟨[z], .u, fun k hk => .kind k hk, by simp [Fm.nodes], rfl⟩ w2
    · refine s_ifR w1 ((et_test (ev_qEqS (e0 rfl) ev_str)).r (RT := fun t => t = decide (f.tag = "many")) rfl) (fun ht2 H2 w2 => ?_) (fun ht2 H2 w2 => ?_)
      · obtain ⟨n, g, rfl⟩ := Fm.tag_many hf (of_decide_eq_true ht2.symm)
        have hn1 : (1 : Int) < n := hf.1
        have hn2 : n ≤ 1000 := Int.le_trans hf.2.1 hm
        have hn3 := hf.2.1
        refine s_setR w2 (R := fun s => ∃ ws, s = .d (.lst (dStrs ([((toString n : String) : Str), "of"] ++ ws))) ∧ Says (decide (0 < dp / 2)) true g ws ∧ ws.length + 1 ≤ 64 * g.nodes) (r_op ((ev_lst (ds := dStrs [((toString n : String) : Str), "of"]) (ea_cons (ev_strI (ea_cons (e1 (j := 0) rfl rfl) ea_nil) (log_small (by omega) (by omega))) (ea_cons ev_str ea_nil)) (by simp [dStrs])).r (R := fun s => s = .d (.lst (dStrs [((toString n : String) : Str), "of"]))) rfl) (r_callH (R := fun s => ∃ ws, s = .d (.lst (dStrs ws)) ∧ Says (decide (0 < dp / 2)) true g ws ∧ ws.length + 1 ≤ 64 * g.nodes) (i := 0) rfl ((ea_cons (ev_var rfl) (ea_cons (e1 (j := 1) rfl rfl) (ea_cons ev_bl (ea_cons (ev_I (ev_var rfl) ev_int ⟨by decide, by decide⟩) ea_nil)))).r (RA := fun ss => ss = [.v (.ref hp), .d g.enc, .d (.bl true), .d (.int (dp / 2))]) rfl) ?_) ?_) ?_
        · rintro _ rfl
          refine ⟨(g, true, dp / 2), rfl, ⟨?_, by dsimp only; omega, by dsimp only; omega, ⟨m / n, ?_, hf.2.2⟩, ?_⟩, fun d hd => ?_⟩
          · simp [Fm.high] at hh ⊢; omega
          · exact Int.le_trans (Int.ediv_le_self _ (by omega)) hm
          · simp [Fm.nodes] at hn ⊢; omega
          · obtain ⟨ws, rfl, h1, h2⟩ := hd
            exact ⟨ws, rfl, h1, h2⟩
        · rintro _ _ rfl ⟨ws, rfl, h1, h2⟩
          refine ⟨_, ⟨ws, rfl, h1, h2⟩, ?_⟩
          have := rv_cat (F := ⟨[hp, lp], H⟩) (c := ⟨A', [], [(hp, .heap lp), (lp, .held hp)], [.v (.ref hp), .d (Fm.many n g).enc, .d (.bl b), .d (.int dp), .u, .u, .u]⟩) (ds := dStrs [((toString n : String) : Str), "of"]) (es := dStrs ws) (by simp [dStrs]; simp [Fm.nodes] at hn; omega)
          rwa [show dStrs [((toString n : String) : Str), "of"] ++ dStrs ws = dStrs ([((toString n : String) : Str), "of"] ++ ws) by simp [dStrs]] at this
        · rintro _ ⟨ws, rfl, h1, h2⟩ H3 σ3 w3
          refine hN _ _ _ ⟨[((toString n : String) : Str), "of"] ++ ws, .u, fun k hk => .many k hk (Says.mono (fun h => ?_) h1), ?_, rfl⟩ w3
          · have := of_decide_eq_false h
            exact decide_eq_false (by omega)
          · simp [Fm.nodes]; omega
      · obtain ⟨wd, fs, rfl⟩ := Fm.tag_join (of_decide_eq_false ht.symm) (of_decide_eq_false ht2.symm)
        have hfs : Fm.fitsL m fs := hf.2.2
        refine q_set w2 (s := .d (.lst (dStrs []))) (ev_lst (ds := []) ea_nil) fun H3 σ3 w3 => ?_
        refine q_for w3 (ei_tup (e1 (j := 0) rfl rfl)) (fun i c1 => ∃ (wss : List (List Str)) (x : Sl), SaysL (decide (0 < dp / 2)) (fs.take i) wss ∧ (wss.map fun x => wd :: x).flatten.length ≤ 64 * Fm.nodesL (fs.take i) ∧ c1 = ⟨A', [], [(hp, .heap lp), (lp, .held hp)], [.v (.ref hp), .d (Fm.join wd fs).enc, .d (.bl b), .d (.int dp), .d (.lst (dStrs (wss.map fun x => wd :: x).flatten)), x, .u]⟩) ⟨[], .u, by rw [List.take_zero]; exact .nil, by simp, rfl⟩ ?_ ?_
        · rintro i s c1 hi ⟨wss, x, hs, hsl, rfl⟩
          refine ⟨_, eg_name, fun G H4 σ4 w4 => ?_⟩
          obtain ⟨g, hg, rfl⟩ : ∃ g, fs[i]? = some g ∧ s = .d g.enc := by
            rw [Fm.encL_map, List.map_map, List.getElem?_map] at hi
            cases hk : fs[i]? with
            | none => rw [hk] at hi; cases hi
            | some g => rw [hk] at hi; cases hi; exact ⟨g, rfl, rfl⟩
          have hgm := List.mem_of_getElem? hg
          have hgh := Fm.highL_get hgm
          have hgn := Fm.nodesL_get hgm
          have htk : fs.take (i + 1) = fs.take i ++ [g] := by rw [List.take_succ, hg]; rfl
          have htn : Fm.nodesL (fs.take i) + g.nodes ≤ Fm.nodesL fs := by
            have := Fm.nodesL_app (fs.take (i + 1)) (fs.drop (i + 1))
            rw [List.take_append_drop, htk, Fm.nodesL_app, Fm.nodesL, Fm.nodesL] at this
            omega
          refine s_setR w4 (R := fun s => ∃ ws, s = .d (.lst (dStrs ((wss.map fun x => wd :: x).flatten ++ wd :: ws))) ∧ Says (decide (0 < dp / 2)) true g ws ∧ ws.length + 1 ≤ 64 * g.nodes) (r_op ((ev_cat (ds := dStrs (wss.map fun x => wd :: x).flatten) (es := [.str wd]) (ev_var rfl) (ev_lst (ds := [.str wd]) (ea_cons (e0 rfl) ea_nil) (by simp)) ?_).r (R := fun s => s = .d (.lst (dStrs ((wss.map fun x => wd :: x).flatten ++ [wd])))) (by simp [dStrs])) (r_callH (R := fun s => ∃ ws, s = .d (.lst (dStrs ws)) ∧ Says (decide (0 < dp / 2)) true g ws ∧ ws.length + 1 ≤ 64 * g.nodes) (i := 0) rfl ((ea_cons (ev_var rfl) (ea_cons (ev_var rfl) (ea_cons ev_bl (ea_cons (ev_I (ev_var rfl) ev_int ⟨by decide, by decide⟩) ea_nil)))).r (RA := fun ss => ss = [.v (.ref hp), .d g.enc, .d (.bl true), .d (.int (dp / 2))]) rfl) ?_) ?_) ?_
          · rw [Fm.nodes] at hn
            rw [show (dStrs (wss.map fun x => wd :: x).flatten).length = (wss.map fun x => wd :: x).flatten.length from List.length_map ..]
            show _ + 1 ≤ 100000
            omega
          · rintro _ rfl
            refine ⟨(g, true, dp / 2), rfl, ⟨?_, by dsimp only; omega, by dsimp only; omega, ⟨m, hm, Fm.fitsL_all.mp hfs g hgm⟩, ?_⟩, fun d hd => ?_⟩
            · simp [Fm.high] at hh ⊢; omega
            · simp [Fm.nodes] at hn ⊢; omega
            · obtain ⟨ws, rfl, h1, h2⟩ := hd
              exact ⟨ws, rfl, h1, h2⟩
          · rintro _ _ rfl ⟨ws, rfl, h1, h2⟩
            refine ⟨_, ⟨ws, rfl, h1, h2⟩, ?_⟩
            have hsum : ((wss.map fun x => wd :: x).flatten ++ [wd]).length + ws.length ≤ 100000 := by
              rw [Fm.nodes] at hn
              rw [List.length_append, List.length_singleton]
              omega
            generalize (wss.map fun x => wd :: x).flatten = fl at hsum
            rw [show dStrs (fl ++ wd :: ws) = dStrs (fl ++ [wd]) ++ dStrs ws by simp [dStrs]]
            exact rv_cat (by simp [dStrs] at hsum ⊢; omega)
          · rintro _ ⟨ws, rfl, h1, h2⟩ H5 σ5 w5
            refine ⟨_, ⟨wss ++ [ws], .d g.enc, ?_, ?_, by rw [flat_snoc]⟩, w5⟩
            · rw [htk]; exact hs.snoc h1
            · rw [htk, flat_snoc, Fm.nodesL_app, List.length_append, List.length_cons, Fm.nodesL, Fm.nodesL]
              omega
        · rintro c1 H4 σ4 ⟨wss, x, hs, hsl, rfl⟩ w4
          have hlen : ((Fm.encL fs).map Sl.d).length = fs.length := by rw [Fm.encL_map]; simp
          rw [hlen, List.take_length] at hs hsl
          refine q_set w4 (s := .d (.lst (dStrs (weave wd wss)))) (ev_is (ev_slL (lo := some ((1 : Nat) : Int)) (ev_var rfl) (eo_some ev_int) eo_none) (by rw [cut1]; simp [dStrs, weave])) fun H5 σ5 w5 => ?_
          have hwl : (weave wd wss).length ≤ 64 * Fm.nodesL fs := Nat.le_trans (by rw [weave, List.length_drop]; omega) hsl
          have hSays : ∀ k, (decide (0 < dp) = false → k = 0) → Says (decide (0 < dp)) b (.join wd fs) (par k (if b then [lpS] ++ weave wd wss ++ [rpS] else weave wd wss)) := fun k hk => .join k hk (SaysL.mono (fun h => by
            have := of_decide_eq_false h
            exact decide_eq_false (by omega)) hs)
          refine s_if w5 (et_test (ev_var rfl)) (fun hb H6 w6 => ?_) (fun hb H6 w6 => ?_)
          · subst hb
            refine s_set w6 (s := .d (.lst (dStrs ([lpS] ++ weave wd wss ++ [rpS])))) (ev_is (ev_cat (ev_cat (ev_lst (ds := [.str "("]) (ea_cons ev_str ea_nil)) (ev_var rfl) ?_) (ev_lst (ds := [.str ")"]) (ea_cons ev_str ea_nil)) ?_) ?_) fun H7 σ7 w7 => ?_
            · simp [dStrs, Fm.nodes] at hn hwl ⊢; omega
            · simp [dStrs, Fm.nodes] at hn hwl ⊢; omega
            · simp [dStrs]
            · exact hN _ _ _ ⟨[lpS] ++ weave wd wss ++ [rpS], x, hSays, by simp [Fm.nodes]; omega, rfl⟩ w7
          · subst hb
            walk_at "dl.n"
            exact hN _ _ _ ⟨weave wd wss, x, hSays, by simp [Fm.nodes]; omega, rfl⟩ w6
    · obtain ⟨ws, x, hs, hl, rfl⟩ := hJ
      refine q_if1J (fun c2 => ∃ (k : Nat) (y : Sl), (decide (0 < dp) = false → k = 0) ∧ k ≤ 30 ∧ c2 = ⟨A', [], [(hp, .heap lp), (lp, .held hp)], [.v (.ref hp), .d f.enc, .d (.bl b), .d (.int dp), .d (.lst (dStrs (par k ws))), x, y]⟩) w1 (RT := fun t => t = true → 0 < dp)
        (rt_and (a := decide (dp > 0)) (et_test (ev_B0 (ev_var rfl) ev_int)) (fun _ h => by cases h) fun ha => rt_test (R := fun s => ∃ b, s = .d (.bl b)) (r_op (r_draw (i := 0) (n := 2) rfl (ev_var rfl) ev_int ⟨by decide, by decide⟩) (ev_int.r (R := fun s => s = .d (.int 0)) rfl) ?_) ?_) (fun hb3 H6 N w6 hN => ?_) (fun _ => ?_) fun c2 H6 σ6 hJ w6 => ?_
      · rintro _ _ ⟨r, _, _, rfl⟩ rfl
        exact ⟨_, ⟨_, rfl⟩, rv_qEqI⟩
      · rintro _ ⟨b, rfl⟩
        exact ⟨b, rfl, fun _ => by simpa using ha⟩
      · have hdp := hb3 rfl
        refine q_setR w6 (R := fun s => ∃ k : Nat, 1 ≤ k ∧ (k : Int) ≤ dp ∧ s = .d (.int k)) (r_op (ev_int.r (R := fun s => s = .d (.int 1)) rfl) (r_draw (i := 0) (n := dp) rfl (ev_var rfl) (ev_var rfl) ⟨hdp, by omega⟩) ?_) ?_
        · rintro _ _ rfl ⟨r, h0, h1, rfl⟩
          refine ⟨_, ⟨r.toNat + 1, by omega, by omega, rfl⟩, ?_⟩
          rw [show ((r.toNat + 1 : Nat) : Int) = 1 + r by omega]
          exact rv_I0
        · rintro _ ⟨k, hk1, hk2, rfl⟩ H7 σ7 w7
          refine s_set w7 (s := .d (.lst (dStrs (par k ws)))) (ev_is (ev_cat (ev_cat (ev_rep (ev_lst (ds := [.str "("]) (ea_cons ev_str ea_nil)) (ev_var rfl) (by omega) (by simp; omega)) (ev_var rfl) ?_) (ev_rep (ev_lst (ds := [.str ")"]) (ea_cons ev_str ea_nil)) (ev_var rfl) (by omega) (by simp; omega)) ?_) ?_) fun H8 σ8 w8 => ?_
          · simp [dStrs] at hl ⊢; omega
          · simp [dStrs] at hl ⊢; omega
          · simp [dStrs, par, List.map_replicate]
          · exact hN _ _ _ ⟨k, .d (.int k), fun h => by rw [decide_eq_false_iff_not] at h; omega, by omega, rfl⟩ w8
      · exact ⟨0, .u, fun _ => rfl, by omega, by simp [par]⟩
      · obtain ⟨k, y, hk, hk2, rfl⟩ := hJ
        refine s_ret w6 (ev_var rfl) fun v H' w7 hv => ?_
        exact q v H' _ ⟨par k ws, rfl, hs k hk, by rw [par_len]; omega⟩ (fun b o h1 h2 e => w7.fr b o (by simp [h1, h2]) e) (w7.mO (hp, .heap lp) (by simp)) hv
end
end K77

set_option Elab.async false
set_option linter.all false
set_option maxRecDepth 100000
set_option maxHeartbeats 1000000
namespace K77
open PySem PySem.Spec PyProof.Rows L2 DL
local macro_rules | `(tactic| walk_at "dl.1") => `(tactic| first
  | with_reducible exact ev_int
  | with_reducible exact ev_str
  | with_reducible exact ev_bl
  | with_reducible exact ev_non
  | with_reducible exact ea_nil
  | with_reducible exact eo_none
  | ((with_reducible refine' ev_var ?_ ?_) <;> rfl)
  | with_reducible refine' ea_cons ?_ ?_
  | with_reducible refine' eo_some ?_
  | with_reducible refine' ev_I0 ?_ ?_
  | with_reducible refine' ev_B0 ?_ ?_
  | with_reducible refine' ev_I ?_ ?_ ?_
  | with_reducible refine' ev_qEqI ?_ ?_
  | with_reducible refine' ev_qNeI ?_ ?_
  | with_reducible refine' ev_qEqS ?_ ?_
  | with_reducible refine' ev_qNeS ?_ ?_
  | with_reducible refine' ev_neg ?_
  | with_reducible refine' ev_addT ?_ ?_ ?_
  | with_reducible refine' ev_sign ?_ ?_
  | with_reducible refine' ev_chI ?_ ?_ (fun _ => ?_)
  | with_reducible refine' et_test ?_
  | with_reducible refine' et_B ?_
  | with_reducible refine' et_and ?_ (fun _ => ?_)
  | with_reducible refine' et_or ?_ (fun _ => ?_)
  | with_reducible refine' et_not ?_
  | with_reducible refine' ev_andV ?_ (fun _ => ?_)
  | with_reducible refine' ev_orV ?_ (fun _ => ?_)
  | with_reducible refine' ev_notV ?_
  | with_reducible refine' ev_abs ?_
  | with_reducible refine' ev_strI ?_ ?_
  | with_reducible refine' ev_lenS ?_ ?_
  | with_reducible refine' ev_isS (ea_cons ?_ (ea_cons ev_raw ea_nil)))
local macro_rules | `(tactic| walk_at "dl") => `(tactic| (repeat' walk_at "dl.1"))
local macro_rules | `(tactic| walk_at "dl.s") => `(tactic| first | assumption | omega | decide | exact trivial)
local macro_rules | `(tactic| walk_at "dls") => `(tactic| (walk_at "dl") <;> (walk_at "dl.s"))
local macro_rules | `(tactic| walk_at "dl.n") => `(tactic| (refine nxt ?_; dsimp only))

def okS (z : Str) : Prop := okW z.cps.toList ∧ z.length ≤ 3
theorem map_cps_inj : ∀ {xs ys : List Str}, xs.map (·.cps.toList) = ys.map (·.cps.toList) → xs = ys
  | [], [], _ => rfl
  | [], _ :: _, h => by simp at h
  | _ :: _, [], h => by simp at h
  | x :: xs, y :: ys, h => by
    rw [List.map_cons, List.map_cons, List.cons.injEq] at h
    have h1 : x = y := by
      obtain ⟨a⟩ := x
      obtain ⟨b⟩ := y
      have := Array.toList_inj.mp h.1
      exact congrArg Str.mk this
    rw [h1, map_cps_inj h.2]
theorem par_in (z : Str) : decide (z ∈ (["(", ")"] : List Str)) = decide (isP z.cps.toList) := by
  refine decide_eq_decide.mpr ?_
  have e : ∀ (y : Str), z = y ↔ z.cps.toList = y.cps.toList := fun y => ⟨fun h => by rw [h], fun h => by
    obtain ⟨a⟩ := z
    obtain ⟨b⟩ := y
    exact congrArg Str.mk (Array.toList_inj.mp h)⟩
  simp only [List.mem_cons, List.not_mem_nil, or_false, isP]
  rw [e, e]
  exact Iff.rfl
section
variable {P : Program} {w : World} {K : PySem.W.Frag} {mg : Str → Option Value} {base : Heap} {a : Ads}
abbrev spText : Sp := SpH (fun ws : List Str => [Dt.lst (dStrs ws)]) (fun ws => (∀ y ∈ ws, okS y) ∧ ws.length ≤ 4960) (fun ws d => ∃ z : Str, d = .str z ∧ z.length ≤ 5 * ws.length + 2 ∧ tokens z = ws)
/-- blanks: so many -/
def blank (z : Str) : Prop := ∃ n, z.cps.toList = List.replicate n 32 ∧ n ≤ 2
theorem ok_text (T : Txt K mg a) : FnOk P w K mg base CX0 3 a.text a.d_text P_text spText := by
  refine T.text.F.ok sc_text (fun vs H Q E h => ?_) (fun cdv A outer s H vs Q E hr h => ?_)
  · obtain ⟨A, hp, lp, ws, n, rfl, _, _, _, _, _, _, hd, _⟩ := h
    exact congrArg (· + 1) hd.length
  · obtain ⟨A', hp, lp, vs', ws, rfl, nA, lv, a1, a2, hne, hc, hd, ⟨hok, hlen⟩, q⟩ := h
    have w0 : Wd ⟨[hp, lp], H⟩ ⟨A', [], [(hp, .heap lp), (lp, .held hp)], [.v (.ref hp), .d (.lst (dStrs ws)), .u, .u, .u, .u]⟩ H (L2.start N_text (.ref hp :: vs')) := wd_startH (N := N_text) nA lv a1 a2 hne hc hd
    refine ⟨_, (pss_cons (ps_par (i := 2) (j := 3) (by rfl) sc_text.nd rfl rfl (by decide) rfl rfl (pa_cons (pe_call (ok_pick T) (hr.mono (by decide)) (by rfl) T.pick.g T.pick.F.kp T.pick.b .nil pass0 (pa_cons (pv 0) (pa_cons (pe_lst (pa_cons pe_str (pa_cons pe_str pa_nil))) pa_nil))) (pa_cons pe_str pa_nil)) (by rfl))
      (pss_cons (ps_for PassesOwn.never rfl (pi_list (pv 1)) (pg_name (i := 4) sc_text.nd rfl (by first | exact Or.inl rfl | exact Or.inr rfl)) (pss_cons (ps_set (i := 5) sc_text.nd rfl (by first | exact Or.inl rfl | exact Or.inr rfl) (pe_and (pe_cmpR op_notIn_seq (pv 3) (pe_lst (pa_cons pe_str (pa_cons pe_str pa_nil))) rfl) (pe_one (pe_cmpR op_notIn_seq (pv 4) (pe_lst (pa_cons pe_str (pa_cons pe_str pa_nil))) rfl))))
      (pss_cons (ps_set (i := 2) sc_text.nd rfl (by first | exact Or.inl rfl | exact Or.inr rfl) (pe_op do_addS (pe_op do_addS (pv 2) (pe_ifExp (pt_val (pv 5)) (pe_call (ok_pick T) (hr.mono (by decide)) (by rfl) T.pick.g T.pick.F.kp T.pick.b .nil pass0 (pa_cons (pv 0) (pa_cons (pe_lst (pa_cons pe_str (pa_cons pe_str (pa_cons pe_str pa_nil)))) pa_nil))) (pe_call (ok_pick T) (hr.mono (by decide)) (by rfl) T.pick.g T.pick.F.kp T.pick.b .nil pass0 (pa_cons (pv 0) (pa_cons (pe_lst (pa_cons pe_str (pa_cons pe_str (pa_cons pe_str pa_nil)))) pa_nil))))) (pv 4)))
      (pss_one (ps_set (i := 3) sc_text.nd rfl (by first | exact Or.inl rfl | exact Or.inr rfl) (pv 4))))))
      (pss_one (ps_ret (pe_op do_addS (pv 2) (pe_call (ok_pick T) (hr.mono (by decide)) (by rfl) T.pick.g T.pick.F.kp T.pick.b .nil pass0 (pa_cons (pv 0) (pa_cons (pe_lst (pa_cons pe_str (pa_cons pe_str pa_nil))) pa_nil)))))))), ?_⟩
    refine q_parR w0 (R2 := fun s1 s2 => ∃ n, ∃ z : Str, s1 = .d (.str z) ∧ z.cps.toList = List.replicate n 32 ∧ n ≤ 1 ∧ s2 = .d (.str "(")) (ra_cons1 (R := fun s => ∃ n, ∃ z : Str, s = .d (.str z) ∧ z.cps.toList = List.replicate n 32 ∧ n ≤ 1) (r_pickL (i := 0) (ds := [.str "", .str " "]) rfl (ev_var rfl) (ea_cons ev_str (ea_cons ev_str ea_nil)) (by decide) (by decide) fun d hd => ?_) (ea_cons ev_str ea_nil)) ?_ ?_
    · simp only [List.mem_cons, List.not_mem_nil, or_false] at hd
      rcases hd with rfl | rfl
      · exact ⟨0, _, rfl, by decide, by omega⟩
      · exact ⟨1, _, rfl, by decide, by omega⟩
    · rintro _ ⟨_, ⟨n, z, rfl, h1, h2⟩, rfl⟩
      exact ⟨_, _, rfl, n, z, rfl, h1, h2, rfl⟩
    · rintro _ _ ⟨n, z, rfl, hz, hn, rfl⟩ H1 σ1 w1
      have r_bl : ∀ {F : Fx} {c : Ct} {te : TE} {ds : List Dt} {lo : Nat} (h : EvR F c te fun s => ∃ d ∈ ds, s = .d d), (∀ d ∈ ds, ∃ n, ∃ z : Str, d = .str z ∧ z.cps.toList = List.replicate n 32 ∧ n ≤ 2 ∧ lo ≤ n) → EvR F c te fun s => ∃ n, ∃ z : Str, s = .d (.str z) ∧ z.cps.toList = List.replicate n 32 ∧ n ≤ 2 ∧ lo ≤ n := fun h hd => h.imp fun s hs => by
        obtain ⟨d, h1, rfl⟩ := hs
        obtain ⟨n, z, rfl, h2⟩ := hd d h1
        exact ⟨n, z, rfl, h2⟩
      have hlz : ∀ {z : Str} {n : Nat}, z.cps.toList = List.replicate n 32 → z.length = n := fun {z n} h => by
        have := congrArg List.length h
        simpa [Str.length] using this
      refine q_for w1 (ei_list (ev_var rfl)) (fun i c1 => ∃ (z last : Str) (x y : Sl), Sofar z.cps.toList ((ws.take i).map (·.cps.toList)) (isP last.cps.toList) ∧ z.length ≤ 5 * i + 1 ∧ c1 = ⟨A', [], [(hp, .heap lp), (lp, .held hp)], [.v (.ref hp), .d (.lst (dStrs ws)), .d (.str z), .d (.str last), x, y]⟩) ⟨z, "(", .u, .u, ?_, by rw [hlz hz]; omega, rfl⟩ ?_ ?_
      · rw [hz, List.take_zero]
        have := Sofar.nil n
        exact ⟨this.toks, fun _ => this.fresh trivial⟩
      · rintro i s c1 hi ⟨z, last, x, y, hs, hzl, rfl⟩
        refine ⟨_, eg_name, fun G H2 σ2 w2 => ?_⟩
        obtain ⟨wd, hwd, rfl⟩ : ∃ wd, ws[i]? = some wd ∧ s = .d (.str wd) := by
          rw [dStrs, List.map_map, List.getElem?_map] at hi
          cases hk : ws[i]? with
          | none => rw [hk] at hi; cases hi
          | some g => rw [hk] at hi; cases hi; exact ⟨g, rfl, rfl⟩
        obtain ⟨hw1, hw2⟩ := hok wd (List.mem_of_getElem? hwd)
        have hi2 := (List.getElem?_eq_some_iff.mp hwd).1
        refine q_set w2 (s := .d (.bl (!decide (isP last.cps.toList) && !decide (isP wd.cps.toList)))) (ev_andV (ev_is (ev_inS (neg := true) (ys := ["(", ")"]) (ev_var rfl) (ev_lst (ds := dStrs ["(", ")"]) (ea_cons ev_str (ea_cons ev_str ea_nil)))) (by rw [par_in]; rfl)) fun _ => ev_is (ev_inS (neg := true) (ys := ["(", ")"]) (ev_var rfl) (ev_lst (ds := dStrs ["(", ")"]) (ea_cons ev_str (ea_cons ev_str ea_nil)))) (by rw [par_in]; rfl)) fun H3 σ3 w3 => ?_
        refine q_setR w3 (R := fun s => ∃ n, ∃ g : Str, s = .d (.str (z ++ g ++ wd)) ∧ g.cps.toList = List.replicate n 32 ∧ n ≤ 2 ∧ (¬ isP last.cps.toList → ¬ isP wd.cps.toList → 0 < n)) (r_op (r_op ((ev_var rfl).r (R := fun s => s = .d (.str z)) rfl) (r_if (R := fun s => ∃ n, ∃ g : Str, s = .d (.str g) ∧ g.cps.toList = List.replicate n 32 ∧ n ≤ 2 ∧ (¬ isP last.cps.toList → ¬ isP wd.cps.toList → 0 < n)) (et_test (ev_var rfl)) (fun _ => (r_bl (lo := 1) (r_pickL (i := 0) (ds := [.str " ", .str " ", .str "  "]) rfl (ev_var rfl) (ea_cons ev_str (ea_cons ev_str (ea_cons ev_str ea_nil))) (by decide) (by decide) fun d hd => ⟨d, hd, rfl⟩) ?_).imp ?_) (fun hb => (r_bl (lo := 0) (r_pickL (i := 0) (ds := [.str "", .str "", .str " "]) rfl (ev_var rfl) (ea_cons ev_str (ea_cons ev_str (ea_cons ev_str ea_nil))) (by decide) (by decide) fun d hd => ⟨d, hd, rfl⟩) ?_).imp ?_)) (R := fun s => ∃ n, ∃ g : Str, s = .d (.str (z ++ g)) ∧ g.cps.toList = List.replicate n 32 ∧ n ≤ 2 ∧ (¬ isP last.cps.toList → ¬ isP wd.cps.toList → 0 < n)) ?_) ((ev_var rfl).r (R := fun s => s = .d (.str wd)) rfl) ?_) ?_
        · intro d hd
          simp only [List.mem_cons, List.not_mem_nil, or_false] at hd
          rcases hd with rfl | rfl | rfl
          · exact ⟨1, _, rfl, by decide, by omega, by omega⟩
          · exact ⟨1, _, rfl, by decide, by omega, by omega⟩
          · exact ⟨2, _, rfl, by decide, by omega, by omega⟩
        · rintro _ ⟨n, g, rfl, h1, h2, h3⟩
          exact ⟨n, g, rfl, h1, h2, fun _ _ => h3⟩
        · intro d hd
          simp only [List.mem_cons, List.not_mem_nil, or_false] at hd
          rcases hd with rfl | rfl | rfl
          · exact ⟨0, _, rfl, by decide, by omega, by omega⟩
          · exact ⟨0, _, rfl, by decide, by omega, by omega⟩
          · exact ⟨1, _, rfl, by decide, by omega, by omega⟩
        · rintro _ ⟨n, g, rfl, h1, h2, h3⟩
          refine ⟨n, g, rfl, h1, h2, fun h4 h5 => ?_⟩
          rw [decide_eq_false h4, decide_eq_false h5] at hb
          cases hb
        · rintro _ _ rfl ⟨n, g, rfl, h1, h2, h3⟩
          exact ⟨_, ⟨n, g, rfl, h1, h2, h3⟩, rv_addT (by rw [hlz h1]; omega)⟩
        · rintro _ _ ⟨n, g, rfl, h1, h2, h3⟩ rfl
          refine ⟨_, ⟨n, g, rfl, h1, h2, h3⟩, rv_addT ?_⟩
          rw [Str.length_append, hlz h1]
          omega
        · rintro _ ⟨n, g, rfl, h1, h2, h3⟩ H4 σ4 w4
          refine s_set w4 (ev_var rfl) fun H5 σ5 w5 => ?_
          refine ⟨_, ⟨z ++ g ++ wd, wd, _, _, ?_, ?_, rfl⟩, w5⟩
          · have := hs.word hw1 h3
            rw [cps_app, cps_app, h1, List.take_succ, hwd, List.map_append]
            exact this
          · rw [Str.length_append, Str.length_append, hlz h1]
            omega
      · rintro c1 H2 σ2 ⟨z, last, x, y, hs, hzl, rfl⟩ w2
        have hlen2 : ((dStrs ws).map Sl.d).length = ws.length := by simp [dStrs]
        rw [hlen2] at hs hzl
        rw [List.take_length] at hs
        refine s_retR w2 (R := fun s => ∃ n, ∃ g : Str, s = .d (.str (z ++ g)) ∧ g.cps.toList = List.replicate n 32 ∧ n ≤ 1) (r_op ((ev_var rfl).r (R := fun s => s = .d (.str z)) rfl) (r_pickL (i := 0) (ds := [.str "", .str " "]) (R := fun s => ∃ n, ∃ g : Str, s = .d (.str g) ∧ g.cps.toList = List.replicate n 32 ∧ n ≤ 1) rfl (ev_var rfl) (ea_cons ev_str (ea_cons ev_str ea_nil)) (by decide) (by decide) fun d hd => ?_) ?_) ?_
        · simp only [List.mem_cons, List.not_mem_nil, or_false] at hd
          rcases hd with rfl | rfl
          · exact ⟨0, _, rfl, by decide, by omega⟩
          · exact ⟨1, _, rfl, by decide, by omega⟩
        · rintro _ _ rfl ⟨n, g, rfl, h1, h2⟩
          exact ⟨_, ⟨n, g, rfl, h1, h2⟩, rv_addT (by rw [hlz h1]; omega)⟩
        · rintro _ ⟨n, g, rfl, h1, h2⟩ v H' w3 hv
          refine q v H' _ ⟨z ++ g, rfl, ?_, ?_⟩ (fun b o h1 h2 e => w3.fr b o (by simp [h1, h2]) e) (w3.mO (hp, .heap lp) (by simp)) hv
          · rw [Str.length_append, hlz h1]; omega
          · refine map_cps_inj ?_
            rw [tokens_eq, cps_app, h1]
            exact (hs.blank n).toks
end
end K77

set_option Elab.async false
set_option linter.all false
set_option maxRecDepth 100000
set_option maxHeartbeats 1000000
namespace K77
open PySem PySem.Spec PyProof.Rows L2 DL
local macro_rules | `(tactic| walk_at "dl.1") => `(tactic| first
  | with_reducible exact ev_int
  | with_reducible exact ev_str
  | with_reducible exact ev_bl
  | with_reducible exact ev_non
  | with_reducible exact ea_nil
  | with_reducible exact eo_none
  | ((with_reducible refine' ev_var ?_ ?_) <;> rfl)
  | with_reducible refine' ea_cons ?_ ?_
  | with_reducible refine' eo_some ?_
  | with_reducible refine' ev_I0 ?_ ?_
  | with_reducible refine' ev_B0 ?_ ?_
  | with_reducible refine' ev_I ?_ ?_ ?_
  | with_reducible refine' ev_qEqI ?_ ?_
  | with_reducible refine' ev_qNeI ?_ ?_
  | with_reducible refine' ev_qEqS ?_ ?_
  | with_reducible refine' ev_qNeS ?_ ?_
  | with_reducible refine' ev_neg ?_
  | with_reducible refine' ev_addT ?_ ?_ ?_
  | with_reducible refine' ev_sign ?_ ?_
  | with_reducible refine' ev_chI ?_ ?_ (fun _ => ?_)
  | with_reducible refine' et_test ?_
  | with_reducible refine' et_B ?_
  | with_reducible refine' et_and ?_ (fun _ => ?_)
  | with_reducible refine' et_or ?_ (fun _ => ?_)
  | with_reducible refine' et_not ?_
  | with_reducible refine' ev_andV ?_ (fun _ => ?_)
  | with_reducible refine' ev_orV ?_ (fun _ => ?_)
  | with_reducible refine' ev_notV ?_
  | with_reducible refine' ev_abs ?_
  | with_reducible refine' ev_strI ?_ ?_
  | with_reducible refine' ev_lenS ?_ ?_
  | with_reducible refine' ev_isS (ea_cons ?_ (ea_cons ev_raw ea_nil)))
local macro_rules | `(tactic| walk_at "dl") => `(tactic| (repeat' walk_at "dl.1"))
local macro_rules | `(tactic| walk_at "dl.s") => `(tactic| first | assumption | omega | decide | exact trivial)
local macro_rules | `(tactic| walk_at "dls") => `(tactic| (walk_at "dl") <;> (walk_at "dl.s"))
local macro_rules | `(tactic| walk_at "dl.n") => `(tactic| (refine nxt ?_; dsimp only))

section
variable {P : Program} {w : World} {K : PySem.W.Frag} {mg : Str → Option Value} {base : Heap} {a : Ads}
def preShow (k : Nat) (f : Fm) : Prop := f.high ≤ k ∧ (∃ m, m ≤ 60 ∧ f.fits m) ∧ (∀ z ∈ f.leaves, z.length ≤ 5) ∧ f.nodes ≤ 1000
abbrev spShow (k : Nat) : Sp := SpP (fun f : Fm => [f.enc]) (preShow k) (fun f d => d = .str (showF f))
abbrev spPart (k : Nat) : Sp := SpP (fun f : Fm => [f.enc]) (preShow k) (fun f d => d = .str (showP f))
theorem join_tag {m : Int} {f : Fm} (h : f.fits m) : decide (f.tag ∈ (["and", "or"] : List Str)) = f.isJoin := by
  cases f with
  | kind z => show decide (("kind" : Str) ∈ (["and", "or"] : List Str)) = false; decide
  | many n f => show decide (("many" : Str) ∈ (["and", "or"] : List Str)) = false; decide
  | join w fs =>
    rcases h.1 with rfl | rfl
    · show decide (("and" : Str) ∈ (["and", "or"] : List Str)) = true; decide
    · show decide (("or" : Str) ∈ (["and", "or"] : List Str)) = true; decide
theorem ok_part_of (T : Txt K mg a) {n k : Nat} (h : FnOk P w K mg base CX0 n a.show_formula a.d_show_formula P_show_formula (spShow k)) : FnOk P w K mg base CX0 (n + 1) a.show_part a.d_show_part P_show_part (spPart k) := by
  refine T.show_part.F.ok sc_show_part (fun vs H Q E h => ?_) (fun cdv A outer s H vs Q E hr h => ?_)
  · obtain ⟨A, z, _, _, hd, _⟩ := h
    exact hd.length
  · obtain ⟨A', f, nA, lv, hd, hp, q⟩ := h
    have w0 : Wd ⟨[], H⟩ ⟨A', [], [], [.d f.enc, .u]⟩ H (L2.start N_show_part vs) := wd_start (N := N_show_part) nA lv hd
    have ok_show_formula := fun _ : Txt K mg a => h
    refine ⟨_, (pss_cons (ps_set (i := 1) sc_show_part.nd rfl (by first | exact Or.inl rfl | exact Or.inr rfl) (pe_call (ok_show_formula T) (hr.mono (by omega)) (by rfl) T.show_formula.g T.show_formula.F.kp T.show_formula.b .nil pass0 (pa_cons (pv 0) pa_nil)))
      (pss_one (ps_ret (pe_ifExp (pt_cmpR op_in_seq (pe_ix ix_tup (pv 0) pe_int (fun _ _ => rfl)) (pe_tup (pa_cons pe_str (pa_cons pe_str pa_nil))) rfl) (pe_f (.cons pe_str (.cons (pe_fmt (pv 1)) (.cons pe_str .nil)))) (pv 1))))), ?_⟩
    have hp2 := hp
    obtain ⟨_, ⟨m, hm, hf⟩, hz, hn⟩ := hp2
    have hl := (showP_len hm hf hz).2
    refine q_set w0 (ev_call (a := f) (f := fun f => .str (showF f)) (ea_cons (ev_var rfl) ea_nil) hp) fun H1 σ1 w1 => ?_
    refine s_retQ w1 q (fun _ h => h) (d := .str (showP f)) (ev_if (b := f.isJoin) (et_is (et_test (ev_inST (neg := false) (ys := ["and", "or"]) (ev_ixT (ds := .str f.tag :: f.tail) (by rw [← Fm.enc_tag]; exact ev_var rfl) ev_int (atG (j := 0) rfl rfl)) (ev_tup (ds := dStrs ["and", "or"]) (ea_cons ev_str (ea_cons ev_str ea_nil))))) (join_tag hf)) (fun hb => ?_) fun hb => ?_) rfl
    · rw [showP, if_pos hb]
      have h1 : ("(" : Str).length = 1 := by decide
      have h2 : (")" : Str).length = 1 := by decide
      exact ev_f (.cons ev_str (.cons (ev_fmtS (ev_var rfl) (by omega)) (.cons ev_str .nil))) (by simp only [List.map_cons, List.map_nil, List.sum_cons, List.sum_nil, h1, h2]; omega)
    · rw [showP, if_neg (by rw [hb]; decide)]
      exact ev_var rfl
theorem ok_showK (T : Txt K mg a) (k : Nat) : FnOk P w K mg base CX0 (2 * k + 1) a.show_formula a.d_show_formula P_show_formula (spShow k) := by
  induction k with
  | zero =>
    refine T.show_formula.F.ok sc_show_formula (fun vs H Q E h => ?_) (fun cdv A outer s H vs Q E hr h => ?_)
    · obtain ⟨A, z, _, _, hd, _⟩ := h
      exact hd.length
    · obtain ⟨A', f, _, _, _, ⟨h1, _⟩, _⟩ := h
      cases f <;> simp [Fm.high] at h1
  | succ k ih =>
  refine T.show_formula.F.ok sc_show_formula (fun vs H Q E h => ?_) (fun cdv A outer s H vs Q E hr h => ?_)
  · obtain ⟨A, z, _, _, hd, _⟩ := h
    exact hd.length
  · obtain ⟨A', f, nA, lv, hd, ⟨hh, ⟨m, hm, hf⟩, hz, hn⟩, q⟩ := h
    have w0 : Wd ⟨[], H⟩ ⟨A', [], [], [.d f.enc, .u]⟩ H (L2.start N_show_formula vs) := wd_start (N := N_show_formula) nA lv hd
    have ok_show_part := fun T : Txt K mg a => ok_part_of T ih
    refine ⟨_, (pss_cons (ps_if (pt_cmpR do_eqS (pe_ix ix_tup (pv 0) pe_int (fun _ _ => rfl)) pe_str (nomark _)) (pss_one (ps_ret (pe_ix ix_tup (pv 0) pe_int (fun _ _ => rfl)))) pss_nil)
      (pss_cons (ps_if (pt_cmpR do_eqS (pe_ix ix_tup (pv 0) pe_int (fun _ _ => rfl)) pe_str (nomark _)) (pss_one (ps_ret (pe_f (.cons (pe_fmt (pe_ix ix_tup (pv 0) pe_int (fun _ _ => rfl))) (.cons pe_str (.cons (pe_fmt (pe_call (ok_show_part T) (hr.mono (by omega)) (by rfl) T.show_part.g T.show_part.F.kp T.show_part.b .nil pass0 (pa_cons (pe_ix ix_tup (pv 0) pe_int (fun _ _ => rfl)) pa_nil))) .nil)))))) pss_nil)
      (pss_one (ps_ret (dm_join (pe_f (.cons pe_str (.cons (pe_fmt (pe_ix ix_tup (pv 0) pe_int (fun _ _ => rfl))) (.cons pe_str .nil)))) (pe_lc (own := [("part", 1)]) (g := gName 1) (tt := tYes) (by rfl) sc_show_formula.nd (pi_tup (pe_ix ix_tup (pv 0) pe_int (fun _ _ => rfl))) (blkOk_by (own := [("part", 1)]) (N := N_show_formula) (sc := defScope s_show_formula) (by decide +kernel)) (fun _ _ _ _ _ => (pg_name (i := 1) sc_show_formula.nd rfl (by first | exact Or.inl rfl | exact Or.inr rfl))) (fun _ _ _ _ _ => pts_nil) (fun _ _ _ _ _ => (pe_call (ok_show_part T) (hr.mono (by omega)) (by rfl) T.show_part.g T.show_part.F.kp T.show_part.b .nil pass0 (pa_cons (pv 1) pa_nil))))))))), ?_⟩
    have hl := (showP_len hm hf hz).2
    have e0 : ∀ {S : List Sl}, S[0]? = some (.d f.enc) → EvP ⟨[], H⟩ ⟨A', [], [], S⟩ (tOp (rIxT K) (tVar 0) (tC (.int 0))) (.d (.str f.tag)) := fun h => ev_ixT (ds := .str f.tag :: f.tail) (by rw [← Fm.enc_tag]; exact ev_var h) ev_int (atG (j := 0) rfl rfl)
    have e1 : ∀ {S : List Sl} {y : Dt} {j : Nat}, f.tail[j]? = some y → S[0]? = some (.d f.enc) → EvP ⟨[], H⟩ ⟨A', [], [], S⟩ (tOp (rIxT K) (tVar 0) (tC (.int ((j + 1 : Nat) : Int)))) (.d y) := fun e h => ev_ixT (ds := .str f.tag :: f.tail) (by rw [← Fm.enc_tag]; exact ev_var h) ev_int (atG (j := _ + 1) rfl e)
    refine q_if1 w0 (et_test (ev_qEqS (e0 rfl) ev_str)) (fun hb H1 w1 => ?_) fun hb H1 w1 => ?_
    · obtain ⟨z, rfl⟩ := Fm.tag_kind hf (of_decide_eq_true hb)
      exact s_retQ w1 q (fun _ h => h) (e1 (j := 0) rfl rfl) rfl
    refine q_if1 w1 (et_test (ev_qEqS (e0 rfl) ev_str)) (fun hb2 H2 w2 => ?_) fun hb2 H2 w2 => ?_
    · obtain ⟨n, g, rfl⟩ := Fm.tag_many hf (of_decide_eq_true hb2)
      have h1 := hf.1
      have h2 := hf.2.1
      have hg : preShow k g := by
        refine ⟨?_, ⟨m / n, ?_, hf.2.2⟩, hz, ?_⟩
        · simp [Fm.high] at hh ⊢; omega
        · exact Int.le_trans (Int.ediv_le_self _ (by omega)) hm
        · simp [Fm.nodes] at hn ⊢; omega
      have hgl := (showP_len (m := m / n) (Int.le_trans (Int.ediv_le_self _ (by omega)) hm) hf.2.2 hz).1
      have h3 := num_len' (n := n) (by omega) (by omega)
      have h4 : (" of " : Str).length = 4 := by decide
      have h5 := hg.2.2.2
      exact s_retQ w2 q (fun _ h => h) (ev_f (ys := [((toString n : String) : Str), " of ", showP g]) (.cons (ev_fmtI (e1 (j := 0) rfl rfl) (log_small (by omega) (by omega))) (.cons ev_str (.cons (ev_fmtS (ev_call (a := g) (f := fun f => .str (showP f)) (ea_cons (e1 (j := 1) rfl rfl) ea_nil) hg) (by omega)) .nil))) (by simp only [List.map_cons, List.map_nil, List.sum_cons, List.sum_nil, h4]; omega)) rfl
    · obtain ⟨wd, fs, rfl⟩ := Fm.tag_join (of_decide_eq_false hb) (of_decide_eq_false hb2)
      have hfs := Fm.fitsL_all.mp hf.2.2
      have hg : ∀ g ∈ fs, preShow k g := fun g hg => by
        have h1 := Fm.highL_get hg
        have h2 := Fm.nodesL_get hg
        refine ⟨?_, ⟨m, hm, hfs g hg⟩, fun z hz2 => hz z ?_, ?_⟩
        · simp [Fm.high] at hh; omega
        · rw [Fm.leaves, Fm.leavesL_flat]
          exact List.mem_flatten.mpr ⟨_, List.mem_map_of_mem hg, hz2⟩
        · simp [Fm.nodes] at hn; omega
      have hsum := showL_len hm hfs hz
      have hfl : fs.length ≤ 1000 := by
        have := Fm.nodesL_len fs
        simp [Fm.nodes] at hn
        omega
      have hw : (ftext [" ", wd, " "]).length ≤ 5 := by
        rw [ftext_len]
        rcases hf.1 with rfl | rfl <;> decide
      refine s_retQ w2 q (fun _ h => h) (d := .str (Txt.join (ftext [" ", wd, " "]) (showL fs))) (ev_join (ev_f (ys := [" ", wd, " "]) (.cons ev_str (.cons (ev_fmtS (e0 rfl) ?_) (.cons ev_str .nil))) ?_) (ev_is (ev_lcm (xs := fs) (enc := fun g => Sl.d g.enc) (f := fun g => Dt.str (showP g)) (ev_iF (ei_tup (e1 (j := 0) rfl rfl))) (by omega) (fun g _ => egc_name (by simp)) (fun g hgm => ev_call (a := g) (f := fun f => .str (showP f)) (ea_cons (ev_var rfl) ea_nil) (hg g hgm))) ?_) ?_) rfl
      · show wd.length ≤ 100000
        rcases hf.1 with rfl | rfl <;> decide
      · rw [← ftext_len]; omega
      · rw [showL_map]; simp [dStrs, List.map_map]
      · rw [showL_map] at hsum ⊢
        have : (fs.map showP).length * (ftext [" ", wd, " "]).length ≤ 1000 * 5 := by
          rw [List.length_map]
          exact Nat.mul_le_mul hfl hw
        simp [Fm.nodes] at hn
        omega
end
end K77

set_option Elab.async false
set_option linter.all false
set_option maxRecDepth 100000
set_option maxHeartbeats 1000000
namespace K77
open PySem PySem.Spec PyProof.Rows L2 DL
local macro_rules | `(tactic| walk_at "dl.1") => `(tactic| first
  | with_reducible exact ev_int
  | with_reducible exact ev_str
  | with_reducible exact ev_bl
  | with_reducible exact ev_non
  | with_reducible exact ea_nil
  | with_reducible exact eo_none
  | ((with_reducible refine' ev_var ?_ ?_) <;> rfl)
  | with_reducible refine' ea_cons ?_ ?_
  | with_reducible refine' eo_some ?_
  | with_reducible refine' ev_I0 ?_ ?_
  | with_reducible refine' ev_B0 ?_ ?_
  | with_reducible refine' ev_I ?_ ?_ ?_
  | with_reducible refine' ev_qEqI ?_ ?_
  | with_reducible refine' ev_qNeI ?_ ?_
  | with_reducible refine' ev_qEqS ?_ ?_
  | with_reducible refine' ev_qNeS ?_ ?_
  | with_reducible refine' ev_neg ?_
  | with_reducible refine' ev_addT ?_ ?_ ?_
  | with_reducible refine' ev_sign ?_ ?_
  | with_reducible refine' ev_chI ?_ ?_ (fun _ => ?_)
  | with_reducible refine' et_test ?_
  | with_reducible refine' et_B ?_
  | with_reducible refine' et_and ?_ (fun _ => ?_)
  | with_reducible refine' et_or ?_ (fun _ => ?_)
  | with_reducible refine' et_not ?_
  | with_reducible refine' ev_andV ?_ (fun _ => ?_)
  | with_reducible refine' ev_orV ?_ (fun _ => ?_)
  | with_reducible refine' ev_notV ?_
  | with_reducible refine' ev_abs ?_
  | with_reducible refine' ev_strI ?_ ?_
  | with_reducible refine' ev_lenS ?_ ?_
  | with_reducible refine' ev_isS (ea_cons ?_ (ea_cons ev_raw ea_nil)))
local macro_rules | `(tactic| walk_at "dl") => `(tactic| (repeat' walk_at "dl.1"))
local macro_rules | `(tactic| walk_at "dl.s") => `(tactic| first | assumption | omega | decide | exact trivial)
local macro_rules | `(tactic| walk_at "dls") => `(tactic| (walk_at "dl") <;> (walk_at "dl.s"))
local macro_rules | `(tactic| walk_at "dl.n") => `(tactic| (refine nxt ?_; dsimp only))

abbrev FIG : Str := "0123456789"
/-- the number that a word is, 0: none that may stand -/
def amount (z : Str) : Int := match z.cps.toList with
  | [c] => if 49 ≤ c ∧ c ≤ 57 then (c : Int) - 48 else 0
  | [c, d] => if (49 ≤ c ∧ c ≤ 57) ∧ 48 ≤ d ∧ d ≤ 57 then (if 10 * ((c : Int) - 48) + ((d : Int) - 48) ≤ 60 then 10 * ((c : Int) - 48) + ((d : Int) - 48) else 0) else 0
  | _ => 0
theorem fig_in (k : Nat) : k ∈ FIG.cps.toList ↔ 48 ≤ k ∧ k ≤ 57 := by
  have e : FIG.cps.toList = [48, 49, 50, 51, 52, 53, 54, 55, 56, 57] := by decide
  rw [e]
  simp only [List.mem_cons, List.not_mem_nil, or_false]
  omega
theorem num1 : ∀ c : Fin 10, PySem.intText? ⟨#[c.val + 48]⟩ = some (c.val : Int) := by decide +kernel
theorem num2 : ∀ c d : Fin 10, PySem.intText? ⟨#[c.val + 48, d.val + 48]⟩ = some (10 * (c.val : Int) + (d.val : Int)) := by decide +kernel
theorem str_of {z : Str} {l : List Nat} (h : z.cps.toList = l) : z = ⟨l.toArray⟩ := by
  obtain ⟨a⟩ := z
  have h' : a.toList = l := h
  subst h'
  rfl
theorem len60 : Sl.d (Dt.int ((((toString (60 : Int) : String) : Str).length : Nat) : Int)) = Sl.d (Dt.int 2) := by
  rw [show ((toString (60 : Int) : String) : Str).length = 2 by decide]
  rfl
theorem amount_ok {z : Str} (h1 : 1 ≤ z.length) (h2 : z.length ≤ 2) (h3 : ∀ k ∈ z.cps.toList, k ∈ FIG.cps.toList) (h4 : z.cps.toList.head? ≠ some 48) : ∃ n : Int, PySem.intText? z = some n ∧ amount z = if n ≤ 60 then n else 0 := by
  have hl : z.cps.toList.length = z.length := by simp [Str.length]
  match h : z.cps.toList with
  | [] => rw [h] at hl; simp at hl; omega
  | [c] =>
    rw [h] at h3 h4
    have hc := (fig_in c).mp (h3 c (by simp))
    have hc2 : c ≠ 48 := fun e => h4 (by rw [e]; rfl)
    have hz := str_of h
    refine ⟨(c : Int) - 48, ?_, ?_⟩
    · rw [hz]
      have := num1 ⟨c - 48, by omega⟩
      dsimp only at this
      rw [show c - 48 + 48 = c by omega, show ((c - 48 : Nat) : Int) = (c : Int) - 48 by omega] at this
      exact this
    · unfold amount
      rw [h]
      dsimp only
      rw [if_pos (by omega), if_pos (by omega)]
  | [c, d] =>
    rw [h] at h3 h4
    have hc := (fig_in c).mp (h3 c (by simp))
    have hd := (fig_in d).mp (h3 d (by simp))
    have hc2 : c ≠ 48 := fun e => h4 (by rw [e]; rfl)
    have hz := str_of h
    refine ⟨10 * ((c : Int) - 48) + ((d : Int) - 48), ?_, ?_⟩
    · rw [hz]
      have := num2 ⟨c - 48, by omega⟩ ⟨d - 48, by omega⟩
      dsimp only at this
      rw [show c - 48 + 48 = c by omega, show d - 48 + 48 = d by omega, show ((c - 48 : Nat) : Int) = (c : Int) - 48 by omega, show ((d - 48 : Nat) : Int) = (d : Int) - 48 by omega] at this
      exact this
    · unfold amount
      rw [h]
      dsimp only
      rw [if_pos (by omega)]
  | _ :: _ :: _ :: _ => rw [h] at hl; simp at hl; omega
theorem amount_no {z : Str} (h : ¬ ((1 ≤ z.length ∧ z.length ≤ 2) ∧ (∀ k ∈ z.cps.toList, k ∈ FIG.cps.toList) ∧ z.cps.toList.head? ≠ some 48)) : amount z = 0 := by
  have hl : z.cps.toList.length = z.length := by simp [Str.length]
  unfold amount
  split
  · rename_i c hz
    rw [hz] at hl h
    simp at hl
    rw [if_neg]
    intro hc
    refine h ⟨by omega, fun k hk => ?_, ?_⟩
    · rw [List.mem_singleton] at hk; subst hk; exact (fig_in k).mpr (by omega)
    · simp; omega
  · rename_i c d hz
    rw [hz] at hl h
    simp at hl
    rw [if_neg]
    intro hc
    refine h ⟨by omega, fun k hk => ?_, ?_⟩
    · simp only [List.mem_cons, List.not_mem_nil, or_false] at hk
      rcases hk with rfl | rfl <;> exact (fig_in _).mpr (by omega)
    · simp; omega
  · rfl
section
variable {P : Program} {w : World} {K : PySem.W.Frag} {mg : Str → Option Value} {base : Heap} {a : Ads}
abbrev spAmount : Sp := SpP (fun z : Str => [Dt.str z]) (fun z => z.length ≤ 100000) (fun z d => d = .int (amount z))
theorem ok_read_amount (T : Txt K mg a) : FnOk P w K mg base CX0 1 a.read_amount a.d_read_amount P_read_amount spAmount := by
  refine T.read_amount.F.ok sc_read_amount (fun vs H Q E h => ?_) (fun cdv A outer s H vs Q E hr h => ?_)
  · obtain ⟨A, z, _, _, hd, _⟩ := h
    exact hd.length
  · obtain ⟨A', z, nA, lv, hd, hz, q⟩ := h
    have w0 : Wd ⟨[], H⟩ ⟨A', [], [], [.d (.str z), .u]⟩ H (L2.start N_read_amount vs) := wd_start (N := N_read_amount) nA lv hd
    refine ⟨_, (pss_cons (ps_if (PW.pt (pw_or (pt_not (pt_chain op_le op_le pe_int (pe_callB dc_lenT (by rfl) T.n_len PySem.boot_len (pa_cons (pv 0) pa_nil)) (pe_callB dc_lenT (by rfl) T.n_len PySem.boot_len (pa_cons (pe_callTy dc_strI (by rfl) T.n_str (by decide +kernel) (pa_cons (pe_gi T.cMOST_AMOUNT) pa_nil)) pa_nil)))) (pw_or (pt_not (pt_val (pe_callB (cr_all rfl) (by rfl) T.n_all (by decide +kernel) (pa_cons (pe_lc (own := [("sign", 1)]) (g := gName 1) (tt := tYes) (by rfl) sc_read_amount.nd (pi_str (pv 0)) (blkOk_by (own := [("sign", 1)]) (N := N_read_amount) (sc := defScope s_read_amount) (by decide +kernel)) (fun _ _ _ _ _ => (pg_name (i := 1) sc_read_amount.nd rfl (by first | exact Or.inl rfl | exact Or.inr rfl))) (fun _ _ _ _ _ => pts_nil) (fun _ _ _ _ _ => (pe_cmpR do_sign (pv 1) (pe_gs T.cFIGURES) rfl))) pa_nil)))) (pw_or1 (pt_cmpR do_eqS (pe_ix ix_str (pv 0) pe_int (fun _ _ => rfl)) pe_str (nomark _)))))) (pss_one (ps_ret pe_int)) pss_nil)
      (pss_one (ps_ret (pe_ifExp (pt_cmpR op_le (pe_callTy dc_intT (by rfl) T.n_int (by decide +kernel) (pa_cons (pv 0) pa_nil)) (pe_gi T.cMOST_AMOUNT) (nomark _)) (pe_callTy dc_intT (by rfl) T.n_int (by decide +kernel) (pa_cons (pv 0) pa_nil)) pe_int)))), ?_⟩
    have hl : z.cps.toList.length = z.length := by simp [Str.length]
    refine q_if1 w0 (b := (!(decide ((1 : Int) ≤ (z.length : Nat)) && decide (((z.length : Nat) : Int) ≤ 2))) || ((!((z.cps.toList.map fun k => decide (k ∈ FIG.cps.toList)).all id)) || decide (z.cps.toList.head? = some 48))) ?_ (fun hb H1 w1 => ?_) fun hb H1 w1 => ?_
    · refine et_or (et_not (et_test (ev_chI ev_int (ev_lenS (ea_cons (ev_var rfl) ea_nil) hz) fun _ => ev_is (ev_lenS (ea_cons (ev_strI (ea_cons ev_int ea_nil) (by decide)) ea_nil) (by decide)) len60))) fun h1 => ?_
      refine et_or (et_not (et_test (ev_all (ea_cons (ev_is (ev_lcm (xs := z.cps.toList) (enc := fun k => Sl.d (.str ⟨#[k]⟩)) (f := fun k => Dt.bl (decide (k ∈ FIG.cps.toList))) (ei_str (z := z) (ev_var rfl)) (by rw [hl]; exact hz) (fun k _ => egc_name (by simp)) (fun k _ => ev_sign (ev_var rfl) ev_str)) (by simp [dBls, List.map_map])) ea_nil)))) fun _ => ?_
      simp only [Bool.not_eq_false', Bool.and_eq_true, decide_eq_true_eq] at h1
      match h : z.cps.toList with
      | [] => rw [h] at hl; simp at hl; omega
      | c :: r =>
        refine et_is (et_test (ev_qEqS (ev_ixS (k := c) (ev_var rfl) ev_int hz (by rw [h]; exact atG (j := 0) rfl rfl)) ev_str)) ?_
        refine decide_eq_decide.mpr ⟨fun e => ?_, fun e => ?_⟩
        · have e2 : (⟨#[c]⟩ : Str).cps.toList = ("0" : Str).cps.toList := by rw [e]
          have e3 : [c] = [48] := e2
          rw [List.head?_cons]
          simpa using e3
        · rw [List.head?_cons] at e
          cases e
          decide
    · refine s_retQ w1 q (fun _ h => h) ev_int ?_
      show Dt.int 0 = Dt.int (amount z)
      rw [amount_no]
      intro hn
      obtain ⟨⟨n1, n2⟩, n3, n4⟩ := hn
      have e1 : (z.cps.toList.map fun k => decide (k ∈ FIG.cps.toList)).all id = true := by
        simp only [List.all_map, List.all_eq_true, Function.comp_apply, id_eq, decide_eq_true_eq]
        exact n3
      rw [e1, decide_eq_false n4, decide_eq_true (show (1 : Int) ≤ (z.length : Nat) by omega), decide_eq_true (show ((z.length : Nat) : Int) ≤ 2 by omega)] at hb
      cases hb
    · simp only [Bool.or_eq_false_iff, Bool.not_eq_false', Bool.and_eq_true, decide_eq_true_eq, decide_eq_false_iff_not, List.all_map, List.all_eq_true, Function.comp_apply, id_eq] at hb
      obtain ⟨⟨b1, b2⟩, b3, b4⟩ := hb
      obtain ⟨n, hn, he⟩ := amount_ok (z := z) (by omega) (by omega) b3 b4
      have hi : ∀ {S : List Sl}, S[0]? = some (.d (.str z)) → EvP ⟨[], H⟩ ⟨A', [], [], S⟩ (tCB qIntT (tCons (tVar 0) tNil)) (.d (.int n)) := fun h => ev_intT (ea_cons (ev_var h) ea_nil) hn (by omega)
      refine s_retQ w1 q (fun _ h => h) (d := .int (amount z)) (ev_if (b := decide (n ≤ 60)) (et_test (ev_B0 (hi rfl) ev_int)) (fun hb => ?_) fun hb => ?_) rfl
      · rw [he, if_pos (of_decide_eq_true hb)]
        exact hi rfl
      · rw [he, if_neg (of_decide_eq_false hb)]
        exact ev_int
end
end K77

set_option Elab.async false
set_option linter.all false
set_option maxRecDepth 100000
set_option maxHeartbeats 1000000
namespace K77
open PySem PySem.Spec PyProof.Rows L2 DL
local macro_rules | `(tactic| walk_at "dl.1") => `(tactic| first
  | with_reducible exact ev_int
  | with_reducible exact ev_str
  | with_reducible exact ev_bl
  | with_reducible exact ev_non
  | with_reducible exact ea_nil
  | with_reducible exact eo_none
  | ((with_reducible refine' ev_var ?_ ?_) <;> rfl)
  | with_reducible refine' ea_cons ?_ ?_
  | with_reducible refine' eo_some ?_
  | with_reducible refine' ev_I0 ?_ ?_
  | with_reducible refine' ev_B0 ?_ ?_
  | with_reducible refine' ev_I ?_ ?_ ?_
  | with_reducible refine' ev_qEqI ?_ ?_
  | with_reducible refine' ev_qNeI ?_ ?_
  | with_reducible refine' ev_qEqS ?_ ?_
  | with_reducible refine' ev_qNeS ?_ ?_
  | with_reducible refine' ev_neg ?_
  | with_reducible refine' ev_addT ?_ ?_ ?_
  | with_reducible refine' ev_sign ?_ ?_
  | with_reducible refine' ev_chI ?_ ?_ (fun _ => ?_)
  | with_reducible refine' et_test ?_
  | with_reducible refine' et_B ?_
  | with_reducible refine' et_and ?_ (fun _ => ?_)
  | with_reducible refine' et_or ?_ (fun _ => ?_)
  | with_reducible refine' et_not ?_
  | with_reducible refine' ev_andV ?_ (fun _ => ?_)
  | with_reducible refine' ev_orV ?_ (fun _ => ?_)
  | with_reducible refine' ev_notV ?_
  | with_reducible refine' ev_abs ?_
  | with_reducible refine' ev_strI ?_ ?_
  | with_reducible refine' ev_lenS ?_ ?_
  | with_reducible refine' ev_isS (ea_cons ?_ (ea_cons ev_raw ea_nil)))
local macro_rules | `(tactic| walk_at "dl") => `(tactic| (repeat' walk_at "dl.1"))
local macro_rules | `(tactic| walk_at "dl.s") => `(tactic| first | assumption | omega | decide | exact trivial)
local macro_rules | `(tactic| walk_at "dls") => `(tactic| (walk_at "dl") <;> (walk_at "dl.s"))
local macro_rules | `(tactic| walk_at "dl.n") => `(tactic| (refine nxt ?_; dsimp only))

section
variable {P : Program} {w : World} {K : PySem.W.Frag} {mg : Str → Option Value} {base : Heap} {a : Ads}
abbrev spWeight (C : Addr) : Sp := SpP (fun l : Lev => [levObj C l]) (fun l => ∀ n ∈ l.nums, -1000 ≤ n ∧ n ≤ 1000) (fun l d => d = .int l.weight)
theorem ok_Level_weight (T : Txt K mg a) : FnOk P w K mg base CX0 1 a.Level_weight a.d_Level_weight P_Level_weight (spWeight a.c_Level) := by
  refine T.Level_weight.F.ok sc_Level_weight (fun vs H Q E h => ?_) (fun cdv A outer s H vs Q E hr h => ?_)
  · obtain ⟨A, z, _, _, hd, _⟩ := h
    exact hd.length
  · obtain ⟨A', l, nA, lv, hd, hz, q⟩ := h
    have w0 : Wd ⟨[], H⟩ ⟨A', [], [], [.d (levObj a.c_Level l), .u, .u]⟩ H (L2.start N_Level_weight vs) := wd_start (N := N_Level_weight) nA lv hd
    refine ⟨_, (pss_cons (ps_set (i := 1) sc_Level_weight.nd rfl (by first | exact Or.inl rfl | exact Or.inr rfl) (pe_fld (pv 0) rfl))
      (pss_cons (ps_for PassesOwn.never rfl (pi_list (pe_fld (pv 0) rfl)) (pg_name (i := 2) sc_Level_weight.nd rfl (by first | exact Or.inl rfl | exact Or.inr rfl)) (pss_one (ps_aug (i := 1) sc_Level_weight.nd rfl (by first | exact Or.inl rfl | exact Or.inr rfl) (pv 2) ip_mul)))
      (pss_one (ps_ret (pv 1))))), ?_⟩
    refine q_set w0 (s := .d (.int l.above)) (ev_fldD (j := 0) (ev_var rfl) T.cl_Level T.no_Level_above rfl (by decide) rfl) fun H1 σ1 w1 => ?_
    refine q_for w1 (ev_iI (ei_list (ev_fldD (j := 3) (ev_var rfl) T.cl_Level T.no_Level_numbers rfl (by decide) rfl))) (fun i c1 => ∃ x, c1 = ⟨A', [], [], [.d (levObj a.c_Level l), .d (.int ((l.nums.take i).foldl (· * ·) l.above)), x]⟩) ⟨.u, rfl⟩ ?_ ?_
    · rintro i s c1 hi ⟨x, rfl⟩
      refine ⟨_, eg_name, fun G H2 σ2 w2 => ?_⟩
      rw [List.getElem?_map] at hi
      cases hk : l.nums[i]? with
      | none => rw [hk] at hi; cases hi
      | some n =>
        rw [hk] at hi
        cases hi
        have hn := hz n (List.mem_of_getElem? hk)
        refine s_augM w2 rfl (ev_var rfl) (.inr ⟨by omega, by omega⟩) fun H3 σ3 w3 => ?_
        have e : (l.nums.take (i + 1)).foldl (· * ·) l.above = (l.nums.take i).foldl (· * ·) l.above * n := by
          rw [List.take_succ, hk, Option.toList_some, List.foldl_append]
          rfl
        exact ⟨_, ⟨.d (.int n), rfl⟩, by rw [e]; exact w3⟩
    · rintro c1 H2 σ2 ⟨x, rfl⟩ w2
      rw [List.length_map, List.take_length] at w2
      exact s_retQ w2 q (fun _ h => h) (ev_var rfl) rfl
abbrev spWhole (C : Addr) : Sp := SpP (fun l : Lev => [levObj C l]) (fun l => l.word = "" → l.parts ≠ []) (fun l d => d = l.whole.enc)
theorem ok_Level_whole (T : Txt K mg a) : FnOk P w K mg base CX0 1 a.Level_whole_part a.d_Level_whole_part P_Level_whole_part (spWhole a.c_Level) := by
  refine T.Level_whole_part.F.ok sc_Level_whole_part (fun vs H Q E h => ?_) (fun cdv A outer s H vs Q E hr h => ?_)
  · obtain ⟨A, z, _, _, hd, _⟩ := h
    exact hd.length
  · obtain ⟨A', l, nA, lv, hd, hz, q⟩ := h
    have w0 : Wd ⟨[], H⟩ ⟨A', [], [], [.d (levObj a.c_Level l)]⟩ H (L2.start N_Level_whole_part vs) := wd_start (N := N_Level_whole_part) nA lv hd
    refine ⟨_, (pss_one (ps_ret (pe_ifExp (pt_cmpR do_eqS (pe_fld (pv 0) rfl) pe_str (nomark _)) (pe_ix ix_list (pe_fld (pv 0) rfl) pe_int (fun _ _ => rfl)) (pe_tup (pa_cons (pe_fld (pv 0) rfl) (pa_cons (pe_callTy dc_tup (by rfl) T.n_tuple (by decide +kernel) (pa_cons (pe_fld (pv 0) rfl) pa_nil)) pa_nil)))))), ?_⟩
    have e1 : EvP ⟨[], H⟩ ⟨A', [], [], [.d (levObj a.c_Level l)]⟩ (tFld K (tVar 0) "word") (.d (.str l.word)) := ev_fldD (j := 1) (ev_var rfl) T.cl_Level T.no_Level_word rfl (by decide) rfl
    have e2 : EvP ⟨[], H⟩ ⟨A', [], [], [.d (levObj a.c_Level l)]⟩ (tFld K (tVar 0) "parts") (.d (.lst (Fm.encL l.parts))) := ev_fldD (j := 2) (ev_var rfl) T.cl_Level T.no_Level_parts rfl (by decide) rfl
    refine s_retQ w0 q (fun _ h => h) (d := l.whole.enc) (ev_if (b := decide (l.word = "")) (et_test (ev_qEqS e1 ev_str)) (fun hb => ?_) fun hb => ?_) rfl
    · have hw := of_decide_eq_true hb
      rw [Lev.whole, if_pos hw]
      match hp : l.parts, hz hw with
      | f :: fs, _ =>
        rw [hp] at e2
        exact ev_ixL e2 ev_int (atG (j := 0) rfl rfl)
    · have hw := of_decide_eq_false hb
      rw [Lev.whole, if_neg hw]
      exact ev_tup (ds := [.str l.word, .tup (Fm.encL l.parts)]) (ea_cons e1 (ea_cons (ev_tupL (ea_cons e2 ea_nil)) ea_nil))
theorem ok_Level_put (T : Txt K mg a) : FnOk P w K mg base CX0 1 a.Level_put a.d_Level_put P_Level_put (spPutL a.c_Level) := by
  refine T.Level_put.F.ok sc_Level_put (fun vs H Q E h => ?_) (fun cdv A outer s H vs Q E hr h => ?_)
  · obtain ⟨p, pp, pn, dx, v, l, f, rfl, _⟩ := h
    rfl
  · obtain ⟨p, pp, pn, dx, v, l, f, rfl, n1, n2, n3, c0, c1, c2, hpl, hv, q⟩ := h
    have lv0 : ∃ o, H p = some o := by obtain ⟨fs, e, _⟩ := c0; exact ⟨_, e⟩
    have lv1 : ∃ o, H pp = some o := by obtain ⟨fs, e, _⟩ := c1; exact ⟨_, e⟩
    have nt : ∀ b ∈ [p, pp], b ∈ ([] : List Addr) ∨ ∀ xs, H b ≠ some (.tup xs) := fun b hb => .inr (by
      rcases List.mem_cons.mp hb with rfl | hb
      · exact CellOk.notup (cl := levIns a.c_Level dx l pp pn) rfl c0
      · rw [List.mem_singleton] at hb; subst hb; exact CellOk.notup (plain_partsC l) c1)
    -- the numbers are told as data: they are read, then left
    have hnum : Dq (Off [p, pp] H) (.ref pn) (.lst (dInts l.nums)) := by
      obtain ⟨zs, e6, e7⟩ := c2
      exact .lst (off_of (by simp [n2.symm, n3.symm]) e6) (DqL.plain (B := []) nt (plain_ints _) (SlAll.dqL e7))
    have w0 : Wd ⟨[p, pp], H⟩ ⟨[p, pp], [], [(p, .ins a.c_Level dx levNs [.d (.int l.above), .d (.str l.word), .v (.ref pp), .d (.lst (dInts l.nums))]), (pp, partsC l)], [.v (.ref p), .d f.enc, .u]⟩ H (L2.start N_Level_put [.ref p, v]) := by
      refine ⟨fun b o _ h => h, fun b hb => ?_, fun b hb => hb, by simp [n1], fun e he => ?_, fun e he => ?_, fun e he => ?_, by simp [n1], fun e he lp hl => ?_, fun e he => by simp at he, ?_⟩
      · rcases List.mem_cons.mp hb with rfl | hb
        · exact lv0
        · rw [List.mem_singleton] at hb; subst hb; exact lv1
      · rcases List.mem_cons.mp he with rfl | he
        · simp
        · rw [List.mem_singleton] at he; subst he; simp
      · rcases List.mem_cons.mp he with rfl | he
        · obtain ⟨fs, e1, e2, e3⟩ := c0
          refine ⟨fs, e1, e2, ?_⟩
          revert e3
          generalize fs.map (·.2) = ys
          intro e3
          cases e3 with
          | cons a h => cases h with
            | cons b h => cases h with
              | cons c h => cases h with
                | cons d h =>
                  cases h
                  obtain rfl := d
                  exact .cons (Dq.plain (B := []) nt rfl a) (.cons (Dq.plain (B := []) nt rfl b) (.cons c (.cons hnum .nil)))
        · rw [List.mem_singleton] at he; subst he; exact CellOk.plain (B := []) nt (plain_partsC l) c1
      · rcases List.mem_cons.mp he with rfl | he
        · exact .inl (by simp)
        · rw [List.mem_singleton] at he; subst he; exact .inl (by simp)
      · rcases List.mem_cons.mp he with rfl | he
        · cases hl
        · rw [List.mem_singleton] at he; subst he; cases hl
      · exact start_ok (N := N_Level_put) (ss := [.v (.ref p), .d f.enc]) (vs := [.ref p, v]) (.cons rfl (.cons (Dq.plain (B := []) nt (plain_fm f) (by
          have : Off [] H = H := by funext b; simp [DL.Off]
          rw [this]; exact hv)) .nil)) 1
    refine ⟨_, (pss_cons (ps_for PassesOwn.never rfl (RT.pi_revA (by rfl) T.n_reversed (pe_fld (pv 0) rfl)) (pg_name (i := 2) sc_Level_put.nd rfl (by first | exact Or.inl rfl | exact Or.inr rfl)) (pss_one (ps_set (i := 1) sc_Level_put.nd rfl (by first | exact Or.inl rfl | exact Or.inr rfl) (pe_tup (pa_cons pe_str (pa_cons (pv 2) (pa_cons (pv 1) pa_nil)))))))
      (pss_cons (ps_fld (pv 0) (pe_lst pa_nil) rfl)
      (pss_one (ps_expr (pe_bm PySem.F.plainAttrs_list PySem.F.slot_list_append PySem.F.type_list_append mt_append (pe_fld (pv 0) rfl) (pa_cons (pv 1) pa_nil)))))), ?_⟩
    have ef : ∀ {S : List Sl} {G : List (V × Dt)} {M : List (Addr × Cell)} {s3 : Sl}, S[0]? = some (.v (.ref p)) → M[0]? = some (p, .ins a.c_Level dx levNs [.d (.int l.above), .d (.str l.word), .v (.ref pp), s3]) → EvP ⟨[p, pp], H⟩ ⟨[p, pp], G, M, S⟩ (tFld K (tVar 0) "numbers") s3 := fun h1 h2 => ev_fldC (k := 0) (j := 3) (ev_var h1) h2 T.cl_Level T.no_Level_numbers rfl (by decide) rfl
    refine q_for w0 (rev_ints (ei_rev (ef rfl rfl))) (fun i c1 => ∃ x, c1 = ⟨[p, pp], [], [(p, .ins a.c_Level dx levNs [.d (.int l.above), .d (.str l.word), .v (.ref pp), .d (.lst (dInts l.nums))]), (pp, partsC l)], [.v (.ref p), .d (wrap ((l.nums.reverse.take i).reverse) f).enc, x]⟩) ⟨.u, rfl⟩ ?_ ?_
    · rintro i s c1 hi ⟨x, rfl⟩
      refine ⟨_, eg_name, fun G H2 σ2 w2 => ?_⟩
      rw [List.getElem?_map] at hi
      cases hk : l.nums.reverse[i]? with
      | none => rw [hk] at hi; cases hi
      | some n =>
        rw [hk] at hi
        cases hi
        have e : wrap ((l.nums.reverse.take (i + 1)).reverse) f = .many n (wrap ((l.nums.reverse.take i).reverse) f) := by
          rw [List.take_succ, hk, Option.toList_some, List.reverse_append]
          rfl
        refine s_set w2 (ev_tup (ds := [.str "many", .int n, (wrap ((l.nums.reverse.take i).reverse) f).enc]) (ea_cons ev_str (ea_cons (ev_var rfl) (ea_cons (ev_var rfl) ea_nil))) (by simp)) fun H3 σ3 w3 => ?_
        exact ⟨_, ⟨.d (.int n), rfl⟩, by rw [e]; exact w3⟩
    · rintro c1 H2 σ2 ⟨x, rfl⟩ w2
      rw [List.length_map, List.take_length, List.reverse_reverse] at w2
      refine sq (s_fldNew (k := 0) (j := 3) w2 rfl (ev_var rfl) T.cl_Level T.no_Level_numbers rfl (by decide) (by decide) fun p2 H3 hp2 w3 => ?_)
      dsimp only
      have h3 := w3.fr
      refine s_append (k := 1) w3 rfl (ev_fldC (k := 0) (j := 2) (ev_var rfl) rfl T.cl_Level T.no_Level_parts rfl (by decide) rfl) (ev_var rfl) (by rw [List.length_map, Fm.encL_map, List.length_map]; omega) fun H4 w4 => ?_
      have hne : p2 ≠ p ∧ p2 ≠ pp := by
        have := w4.nA
        simp only [List.nodup_cons, List.mem_cons, List.not_mem_nil, or_false, not_or] at this
        exact this.1
      have hp0 : H p2 = none := by
        cases e : H p2 with
        | none => rfl
        | some o =>
          have := w2.fr p2 o (by simp [hne.1, hne.2]) e
          rw [this] at hp2; cases hp2
      have le : Le (DL.Off [p2, p, pp] H4) H4 := off_le
      have any : ∀ {b : Addr} {cl : Cell}, CellOk [p2, p, pp] H4 b cl → plainC cl = true → CellOk [] H4 b cl := fun h hp => CellOk.plain (B := [p2, p, pp]) (fun a ha => by simp at ha) hp h
      refine q H4 p2 hp0 (fun b o h1 h2 e => w4.fr b o (by simp [h1, h2]) e) (any (w4.mO (p, levIns a.c_Level dx (l.put f) pp p2) (List.mem_cons_self ..)) rfl) ?_ ?_
      · refine any ?_ (plain_partsC _)
        have := w4.mO (pp, .lst ((Fm.encL l.parts).map Sl.d ++ [.d (wrap l.nums f).enc])) (by simp [partsC])
        have e : partsC (l.put f) = .lst ((Fm.encL l.parts).map Sl.d ++ [.d (wrap l.nums f).enc]) := by
          simp [partsC, Lev.put, Fm.encL_map]
        rw [e]
        exact this
      · exact any (w4.mO (p2, .lst []) (by simp)) rfl
end
end K77

set_option Elab.async false
set_option linter.all false
set_option maxRecDepth 100000
set_option maxHeartbeats 1000000
namespace K77
open PySem PySem.Spec PyProof.Rows L2 DL
local macro_rules | `(tactic| walk_at "dl.1") => `(tactic| first
  | with_reducible exact ev_int
  | with_reducible exact ev_str
  | with_reducible exact ev_bl
  | with_reducible exact ev_non
  | with_reducible exact ea_nil
  | with_reducible exact eo_none
  | ((with_reducible refine' ev_var ?_ ?_) <;> rfl)
  | with_reducible refine' ea_cons ?_ ?_
  | with_reducible refine' eo_some ?_
  | with_reducible refine' ev_I0 ?_ ?_
  | with_reducible refine' ev_B0 ?_ ?_
  | with_reducible refine' ev_I ?_ ?_ ?_
  | with_reducible refine' ev_qEqI ?_ ?_
  | with_reducible refine' ev_qNeI ?_ ?_
  | with_reducible refine' ev_qEqS ?_ ?_
  | with_reducible refine' ev_qNeS ?_ ?_
  | with_reducible refine' ev_neg ?_
  | with_reducible refine' ev_addT ?_ ?_ ?_
  | with_reducible refine' ev_sign ?_ ?_
  | with_reducible refine' ev_chI ?_ ?_ (fun _ => ?_)
  | with_reducible refine' et_test ?_
  | with_reducible refine' et_B ?_
  | with_reducible refine' et_and ?_ (fun _ => ?_)
  | with_reducible refine' et_or ?_ (fun _ => ?_)
  | with_reducible refine' et_not ?_
  | with_reducible refine' ev_andV ?_ (fun _ => ?_)
  | with_reducible refine' ev_orV ?_ (fun _ => ?_)
  | with_reducible refine' ev_notV ?_
  | with_reducible refine' ev_abs ?_
  | with_reducible refine' ev_strI ?_ ?_
  | with_reducible refine' ev_lenS ?_ ?_
  | with_reducible refine' ev_isS (ea_cons ?_ (ea_cons ev_raw ea_nil)))
local macro_rules | `(tactic| walk_at "dl") => `(tactic| (repeat' walk_at "dl.1"))
local macro_rules | `(tactic| walk_at "dl.s") => `(tactic| first | assumption | omega | decide | exact trivial)
local macro_rules | `(tactic| walk_at "dls") => `(tactic| (walk_at "dl") <;> (walk_at "dl.s"))
local macro_rules | `(tactic| walk_at "dl.n") => `(tactic| (refine nxt ?_; dsimp only))

section
variable {P : Program} {w : World} {K : PySem.W.Frag} {mg : Str → Option Value} {base : Heap} {a : Ads}
theorem ok_Level_init (T : Txt K mg a) : FnOk P w K mg base CX0 1 a.Level_init a.d_Level_init P_Level_init (spIniL a.c_Level) := by
  refine T.Level_init.ok sc_Level_init (fun vs H Q E h => ?_) (fun cdv A outer s H vs Q E hr h => ?_)
  · obtain ⟨x, dx, n, rfl, _⟩ := h
    rfl
  · obtain ⟨x, dx, n, rfl, hx, q⟩ := h
    refine ⟨_, (pss_cons (ps_fld (pv 0) (pv 1) rfl)
      (pss_cons (ps_fld (pv 0) pe_str rfl)
      (pss_cons (ps_fld (pv 0) (pe_lst pa_nil) rfl)
      (pss_one (ps_fld (pv 0) (pe_lst pa_nil) rfl))))), ?_⟩
    refine sq ⟨.int n, rfl, .ref x, rfl, x, a.c_Level, dx, [], rfl, hx, T.cl_Level, T.no_Level_above, by decide, ?_⟩
    refine sq ⟨.ref x, rfl, x, a.c_Level, dx, [("above", .int n)], rfl, upd_same, T.cl_Level, T.no_Level_word, by simp, ?_⟩
    refine sq ⟨by decide, fun pp hpp => ⟨.ref x, rfl, x, a.c_Level, dx, [("above", .int n), ("word", .str "")], rfl, ?_, T.cl_Level, T.no_Level_parts, by simp, ?_⟩⟩
    · rw [upd_ne (fun e => by rw [← e, upd_same] at hpp; cases hpp)]
      exact upd_same
    have n1 : pp ≠ x := fun e => by rw [e, upd_same] at hpp; cases hpp
    refine ⟨by decide, fun pn hpn => ⟨.ref x, rfl, x, a.c_Level, dx, [("above", .int n), ("word", .str ""), ("parts", .ref pp)], rfl, ?_, T.cl_Level, T.no_Level_numbers, by simp, ?_⟩⟩
    · rw [upd_ne (fun e => by rw [← e, upd_same] at hpn; cases hpn)]
      exact upd_same
    have n2 : pn ≠ x := fun e => by rw [e, upd_same] at hpn; cases hpn
    have n3 : pn ≠ pp := fun e => by rw [e, upd_ne n1, upd_same] at hpn; cases hpn
    have h1 : H pp = none := by
      rw [upd_ne n1, upd_ne n1] at hpp
      exact hpp
    have h2 : H pn = none := by
      rw [upd_ne n2, upd_ne n3, upd_ne n2, upd_ne n2] at hpn
      exact hpn
    refine q _ pp pn h1 h2 n3.symm (fun b o hb e => ?_) upd_same ?_ ?_
    · have m1 : b ≠ pp := fun z => by rw [z, h1] at e; cases e
      have m2 : b ≠ pn := fun z => by rw [z, h2] at e; cases e
      rw [upd_ne hb, upd_ne m2, upd_ne hb, upd_ne m1, upd_ne hb, upd_ne hb]
      exact e
    · rw [upd_ne n1, upd_ne n3.symm, upd_ne n1, upd_same]
    · rw [upd_ne n2, upd_same]
end
end K77

set_option Elab.async false
set_option linter.all false
set_option maxRecDepth 100000
set_option maxHeartbeats 1000000
namespace K77
open PySem PySem.Spec PyProof.Rows L2 DL
local macro_rules | `(tactic| walk_at "dl.1") => `(tactic| first
  | with_reducible exact ev_int
  | with_reducible exact ev_str
  | with_reducible exact ev_bl
  | with_reducible exact ev_non
  | with_reducible exact ea_nil
  | with_reducible exact eo_none
  | ((with_reducible refine' ev_var ?_ ?_) <;> rfl)
  | with_reducible refine' ea_cons ?_ ?_
  | with_reducible refine' eo_some ?_
  | with_reducible refine' ev_I0 ?_ ?_
  | with_reducible refine' ev_B0 ?_ ?_
  | with_reducible refine' ev_I ?_ ?_ ?_
  | with_reducible refine' ev_qEqI ?_ ?_
  | with_reducible refine' ev_qNeI ?_ ?_
  | with_reducible refine' ev_qEqS ?_ ?_
  | with_reducible refine' ev_qNeS ?_ ?_
  | with_reducible refine' ev_neg ?_
  | with_reducible refine' ev_addT ?_ ?_ ?_
  | with_reducible refine' ev_sign ?_ ?_
  | with_reducible refine' ev_chI ?_ ?_ (fun _ => ?_)
  | with_reducible refine' et_test ?_
  | with_reducible refine' et_B ?_
  | with_reducible refine' et_and ?_ (fun _ => ?_)
  | with_reducible refine' et_or ?_ (fun _ => ?_)
  | with_reducible refine' et_not ?_
  | with_reducible refine' ev_andV ?_ (fun _ => ?_)
  | with_reducible refine' ev_orV ?_ (fun _ => ?_)
  | with_reducible refine' ev_notV ?_
  | with_reducible refine' ev_abs ?_
  | with_reducible refine' ev_strI ?_ ?_
  | with_reducible refine' ev_lenS ?_ ?_
  | with_reducible refine' ev_isS (ea_cons ?_ (ea_cons ev_raw ea_nil)))
local macro_rules | `(tactic| walk_at "dl") => `(tactic| (repeat' walk_at "dl.1"))
local macro_rules | `(tactic| walk_at "dl.s") => `(tactic| first | assumption | omega | decide | exact trivial)
local macro_rules | `(tactic| walk_at "dls") => `(tactic| (walk_at "dl") <;> (walk_at "dl.s"))
local macro_rules | `(tactic| walk_at "dl.n") => `(tactic| (refine nxt ?_; dsimp only))

def begM (m : RM) (z : Str) : Bool × RM := match m.levs with
  | [] => (false, m)
  | t :: b => if z = "(" then (true, ⟨m.due, m.names, Lev.new t.weight :: t :: b⟩)
    else if amount z > 1 then (decide ((⟨t.above, t.word, t.parts, t.nums ++ [amount z]⟩ : Lev).weight ≤ 60), ⟨"of", m.names, ⟨t.above, t.word, t.parts, t.nums ++ [amount z]⟩ :: b⟩)
    else if isName z = false ∨ z ∈ m.names ∨ 8 ≤ m.names.length then (false, m)
    else (true, ⟨"joint", m.names ++ [z], t.put (.kind z) :: b⟩)
def goM (m : RM) (z : Str) : Bool × RM := match m.levs with
  | [] => (false, m)
  | [t] => if (z ≠ "and" ∧ z ≠ "or") ∨ (t.word ≠ "" ∧ t.word ≠ z) then (false, m) else (true, ⟨"part", m.names, [⟨t.above, z, t.parts, t.nums⟩]⟩)
  | t :: t2 :: b => if z = ")" then (true, ⟨m.due, m.names, t2.put t.whole :: b⟩)
    else if (z ≠ "and" ∧ z ≠ "or") ∨ (t.word ≠ "" ∧ t.word ≠ z) then (false, m) else (true, ⟨"part", m.names, ⟨t.above, z, t.parts, t.nums⟩ :: t2 :: b⟩)
def takeM (m : RM) (z : Str) : Bool × RM := if m.due = "of" then (decide (z = "of"), ⟨"part", m.names, m.levs⟩) else if m.due = "part" then begM m z else goM m z
section
variable {P : Program} {w : World} {K : PySem.W.Frag} {mg : Str → Option Value} {base : Heap} {a : Ads}
/-- a method of the parser that takes a word -/
def spStep (Cr Cl : Addr) (lev : Bool) (pr : RM → Prop) (f : RM → Str → Bool × RM) : Sp := fun vs H Q _ => ∃ (g : RG) (t : LA) (b : List LA) (z : Str), g.st = t :: b ∧ vs = (if lev then [.ref g.r, .ref t.p, .str z] else [.ref g.r, .str z]) ∧ RdAt Cr Cl H g ∧ RmOk g.m ∧ pr g.m ∧ g.st.length < 90000 ∧ z.length ≤ 100000 ∧
  ∀ H' g', g'.r = g.r → RdAt Cr Cl H' g' → g'.m = (f g.m z).2 → (∀ b o, b ∉ g.addrs Cr Cl → H b = some o → H' b = some o) → (∀ b ∈ g'.addrs Cr Cl, b ∈ g.addrs Cr Cl ∨ H b = none) → g'.st.length ≤ g.st.length + 1 → Q (.bl (f g.m z).1) H'
theorem cells_top {Cr Cl r dr lv nm : Addr} {due : Str} {names : List Str} {t t' : LA} {b : List LA} (e : t'.p = t.p) : RG.cells Cr Cl ⟨r, dr, lv, nm, due, names, t :: b⟩ = (r, rdIns Cr ⟨r, dr, lv, nm, due, names, t :: b⟩) :: (lv, lvC (t' :: b)) :: (nm, nmC names) :: (lcells Cl t ++ b.flatMap (lcells Cl)) := by
  have el : lvC (t' :: b) = lvC (t :: b) := by simp [lvC, e]
  rw [el]
  rfl
theorem amount_le (z : Str) : 0 ≤ amount z ∧ amount z ≤ 60 := by
  unfold amount
  split
  · split <;> omega
  · split
    · split <;> omega
    · omega
  · omega
theorem ok_begin (T : Txt K mg a) : FnOk P w K mg base CX0 3 a.Reading_begin a.d_Reading_begin P_Reading_begin (spStep a.c_Reading a.c_Level true (fun _ => True) begM) := by
  refine T.Reading_begin.F.ok sc_Reading_begin (fun vs H Q E h => ?_) (fun cdv A outer s H vs Q E hr h => ?_)
  · obtain ⟨g, t, b, z, _, rfl, _⟩ := h
    rfl
  · obtain ⟨⟨r, dr, lv, nm, due, names, st⟩, t, b, z, hst, rfl, hR, hM, _, hlen, hz, q⟩ := h
    dsimp only at hst
    subst hst
    dsimp only at hlen q
    have w0 := wd_startM (N := N_Reading_begin) (vs := [.ref r, .ref t.p, .str z]) (ss := [.v (.ref r), .v (.ref t.p), .d (.str z)]) hR.nd hR.ok plain_cells (.cons rfl (.cons rfl (.cons (Dq.str z) .nil))) rfl 0 rfl
    refine ⟨_, (pss_cons (ps_if (pt_cmpR do_eqS (pv 2) pe_str (nomark _)) (pss_cons (ps_expr (pe_bm PySem.F.plainAttrs_list PySem.F.slot_list_append PySem.F.type_list_append mt_append (pe_fld (pv 0) rfl) (pa_cons (pe_make T.mk_Level (ok_Level_init T) (hr.mono (by decide)) (by rfl) T.mg_Level T.b_Level_init .nil pass0 (pa_cons (pe_meth0 (pv 1) T.cl_Level T.Level_weight.m (ok_Level_weight T) (hr.mono (by decide)) T.Level_weight.b .nil pass0) pa_nil)) pa_nil)))
      (pss_one (ps_ret pe_bl))) pss_nil)
      (pss_cons (ps_if (pt_cmpR op_gt (pe_call (ok_read_amount T) (hr.mono (by decide)) (by rfl) T.read_amount.g T.read_amount.F.kp T.read_amount.b .nil pass0 (pa_cons (pv 2) pa_nil)) pe_int (nomark _)) (pss_cons (ps_expr (pe_bm PySem.F.plainAttrs_list PySem.F.slot_list_append PySem.F.type_list_append mt_append (pe_fld (pv 1) rfl) (pa_cons (pe_call (ok_read_amount T) (hr.mono (by decide)) (by rfl) T.read_amount.g T.read_amount.F.kp T.read_amount.b .nil pass0 (pa_cons (pv 2) pa_nil)) pa_nil)))
      (pss_cons (ps_fld (pv 0) pe_str rfl)
      (pss_one (ps_ret (pe_cmpR op_le (pe_meth0 (pv 1) T.cl_Level T.Level_weight.m (ok_Level_weight T) (hr.mono (by decide)) T.Level_weight.b .nil pass0) (pe_gi T.cMOST_AMOUNT) (nomark _)))))) pss_nil)
      (pss_cons (ps_if (PW.pt (pw_or (pt_not (pt_val (pe_call (ok_is_name T) (hr.mono (by decide)) (by rfl) T.is_name.g T.is_name.F.kp T.is_name.b .nil pass0 (pa_cons (pv 2) pa_nil)))) (pw_or (pt_cmp (pc_din (hu_of hr) (pv 2) (pe_fld (pv 0) rfl)) rfl) (pw_or1 (pt_cmpR op_ge (pe_callB dc_lenD (by rfl) T.n_len PySem.boot_len (pa_cons (pe_fld (pv 0) rfl) pa_nil)) (pe_gi T.cMOST_KINDS) (nomark _)))))) (pss_one (ps_ret pe_bl)) pss_nil)
      (pss_cons (ps_dput (hu_of hr) (pe_fld (pv 0) rfl) (pv 2) pe_bl rfl)
      (pss_cons (ps_expr (pe_meth (pv 1) T.cl_Level T.Level_put.m (ok_Level_put T) (hr.mono (by decide)) T.Level_put.b .nil pass0 (pa_cons (pe_tup (pa_cons pe_str (pa_cons (pv 2) pa_nil))) pa_nil)))
      (pss_cons (ps_fld (pv 0) pe_str rfl)
      (pss_one (ps_ret pe_bl)))))))), ?_⟩
    have hA : ∀ b2 ∈ (RG.cells a.c_Reading a.c_Level ⟨r, dr, lv, nm, due, names, t :: b⟩).map (·.1), b2 ∈ (RG.cells a.c_Reading a.c_Level ⟨r, dr, lv, nm, due, names, t :: b⟩).map (·.1) := fun _ h => h
    have hnum : ∀ n ∈ t.l.nums, 0 ≤ n ∧ n ≤ 60 := hM.nums t.l (by simp [RG.m])
    have hnz : (dInts t.l.nums).length ≤ 80000 := by
      have := hM.count t.l (by simp [RG.m])
      simp [dInts]
      omega
    have hbeg : begM (RG.m ⟨r, dr, lv, nm, due, names, t :: b⟩) z = if z = "(" then (true, ⟨due, names, Lev.new t.l.weight :: t.l :: b.map (·.l)⟩)
        else if amount z > 1 then (decide ((⟨t.l.above, t.l.word, t.l.parts, t.l.nums ++ [amount z]⟩ : Lev).weight ≤ 60), ⟨"of", names, ⟨t.l.above, t.l.word, t.l.parts, t.l.nums ++ [amount z]⟩ :: b.map (·.l)⟩)
        else if isName z = false ∨ z ∈ names ∨ 8 ≤ names.length then (false, ⟨due, names, t.l :: b.map (·.l)⟩)
        else (true, ⟨"joint", names ++ [z], t.l.put (.kind z) :: b.map (·.l)⟩) := rfl
    rw [hbeg] at q
    refine q_if1 w0 (et_test (ev_qEqS (ev_var rfl) ev_str)) (fun hb H1 w1 => ?_) fun hb H1 w1 => ?_
    · -- a level more
      rw [if_pos (of_decide_eq_true hb)] at q
      refine sq (s_levNew (k := 1) w1 rfl hA plain_cells (ev_fldC (k := 0) (j := 0) (ev_var rfl) rfl T.cl_Reading T.no_Reading_levels rfl (by decide) rfl) (ev_lev0 (i0 := 3) (i1 := 4) (i2 := 5) (f := fun l => .int l.weight) rfl rfl rfl (ev_var rfl) (fun n hn => by have := hnum n hn; omega) (by decide) rfl) (by simp; simp at hlen; omega) fun X H2 x1 x2 x3 xl w2 => ?_)
      dsimp only
      refine s_ret w2 ev_bl fun v H3 w3 hv => ?_
      have e : v = .bl true := hv.bl
      subst e
      have hp := rd_end (g := ⟨r, dr, lv, nm, due, names, X :: t :: b⟩) (Cr := a.c_Reading) (Cl := a.c_Level) (J := []) w3 (by
        rw [List.append_nil]
        refine List.Perm.cons _ ?_
        have e1 : lvC (X :: t :: b) = .lst (((t :: b).reverse.map fun x => Sl.v (.ref x.p)) ++ [.v (.ref X.p)]) := by
          simp [lvC]
        show List.Perm _ ((lv, lvC (X :: t :: b)) :: (nm, nmC names) :: (lcells a.c_Level X ++ (t :: b).flatMap (lcells a.c_Level)))
        rw [e1]
        refine List.Perm.cons _ (List.Perm.cons _ ?_)
        exact List.perm_append_comm)
      exact q H3 ⟨r, dr, lv, nm, due, names, X :: t :: b⟩ rfl hp.1 (by simp [RG.m, xl]) (fun b2 o hb2 e => w3.fr b2 o hb2 e) hp.2 (by simp)
    rw [if_neg (of_decide_eq_false hb)] at q
    have eam : ∀ {S : List Sl} {G : List (V × Dt)} {M : List (Addr × Cell)} {A : List Addr} {F : Fx}, S[2]? = some (.d (.str z)) → EvP F ⟨A, G, M, S⟩ (tCall spAmount [] E0 (tCons (tVar 2) tNil)) (.d (.int (amount z))) := fun h => ev_call (a := z) (f := fun z => .int (amount z)) (ea_cons (ev_var h) ea_nil) hz
    refine q_if1 w1 (et_test (ev_B0 (eam rfl) ev_int)) (fun hb2 H2 w2 => ?_) fun hb2 H2 w2 => ?_
    · -- a number
      rw [if_pos (of_decide_eq_true hb2)] at q
      let t2 : LA := ⟨t.p, t.pp, t.pn, t.dx, ⟨t.l.above, t.l.word, t.l.parts, t.l.nums ++ [amount z]⟩⟩
      have hz2 : (dInts t.l.nums).length ≤ 80000 := hnz
      refine sq (s_append (k := 5) (ss := (dInts t.l.nums).map Sl.d) w2 rfl (ev_fldC (k := 3) (j := 3) (ev_var (i := 1) rfl) rfl T.cl_Level T.no_Level_numbers rfl (by decide) rfl) (eam rfl) (by rw [List.length_map]; omega) fun H3 w3 => ?_)
      dsimp only
      have e1 : (dInts t.l.nums).map Sl.d ++ [Sl.d (.int (amount z))] = (dInts t2.l.nums).map Sl.d := by simp [dInts, t2]
      rw [e1] at w3
      refine sq (s_fldC (k := 0) (j := 2) (s := .d (.str "of")) w3 rfl (ev_var rfl) ev_str T.cl_Reading T.no_Reading_due rfl (by decide) (by decide) fun H4 w4 => ?_)
      dsimp only
      have hnum2 : ∀ n ∈ t2.l.nums, -1000 ≤ n ∧ n ≤ 1000 := fun n hn => by
        rcases List.mem_append.mp hn with hn | hn
        · have := hnum n hn; omega
        · rw [List.mem_singleton] at hn
          subst hn
          have := amount_le z
          omega
      refine s_ret w4 (s := .d (.bl (decide (t2.l.weight ≤ 60)))) (ev_B0 (ev_lev0 (i0 := 3) (i1 := 4) (i2 := 5) (l := t2.l) (f := fun l => .int l.weight) rfl rfl rfl (ev_var rfl) hnum2 (by decide) rfl) ev_int) fun v H5 w5 hv => ?_
      have e : v = .bl (decide (t2.l.weight ≤ 60)) := hv.bl
      subst e
      have hp := rd_end (g := ⟨r, dr, lv, nm, "of", names, t2 :: b⟩) (Cr := a.c_Reading) (Cl := a.c_Level) (J := []) w5 (by
        rw [List.append_nil, cells_top (t := t2) (t' := t) rfl]
        exact List.Perm.refl _)
      exact q H5 ⟨r, dr, lv, nm, "of", names, t2 :: b⟩ rfl hp.1 rfl (fun b2 o hb2 e => w5.fr b2 o hb2 e) hp.2 (by simp)
    rw [if_neg (of_decide_eq_false hb2)] at q
    refine q_if1 w2 (b := !isName z || (decide (z ∈ names) || decide (((names.map (Sum.inr : Str → Key)).length : Int) ≥ 8))) (et_or (et_not (et_test (ev_call (a := z) (f := fun z => .bl (isName z)) (ea_cons (ev_var rfl) ea_nil) hz))) fun _ => et_or (et_B (ev_inDK (k := 2) (ev_var rfl) (ev_fldC (k := 0) (j := 1) (ev_var rfl) rfl T.cl_Reading T.no_Reading_names rfl (by decide) rfl) rfl)) fun _ => et_test (ev_B0 (ev_lenDK (k := 2) (ea_cons (ev_fldC (k := 0) (j := 1) (ev_var rfl) rfl T.cl_Reading T.no_Reading_names rfl (by decide) rfl) ea_nil) rfl) ev_int)) (fun hb3 H3 w3 => ?_) fun hb3 H3 w3 => ?_
    · rw [if_pos (by
        simp only [Bool.or_eq_true, Bool.not_eq_true', decide_eq_true_eq, List.length_map] at hb3
        rcases hb3 with h | h | h
        · exact .inl h
        · exact .inr (.inl h)
        · exact .inr (.inr (by omega)))] at q
      refine s_ret w3 ev_bl fun v H4 w4 hv => ?_
      have e : v = .bl false := hv.bl
      subst e
      have hp := rd_end (g := ⟨r, dr, lv, nm, due, names, t :: b⟩) (Cr := a.c_Reading) (Cl := a.c_Level) (J := []) w4 (by
        rw [List.append_nil])
      exact q H4 ⟨r, dr, lv, nm, due, names, t :: b⟩ rfl hp.1 rfl (fun b2 o hb2 e => w4.fr b2 o hb2 e) hp.2 (by simp)
    · simp only [Bool.or_eq_false_iff, Bool.not_eq_false', decide_eq_false_iff_not, List.length_map] at hb3
      obtain ⟨b1, b2, b3⟩ := hb3
      rw [if_neg (by
        rintro (h | h | h)
        · rw [b1] at h; cases h
        · exact b2 h
        · omega)] at q
      have hn8 : names.length < 1000 := by omega
      have hpar : t.l.parts.length < 1000 := by
        have h1 := hM.parts
        have h2 := hM.few
        simp [RG.m] at h1 h2
        omega
      refine sq (s_putDK (k := 2) (ns := names) (ss := names.map fun _ => .d (.bl true)) (s := .d (.bl true)) w3 rfl (ev_fldC (k := 0) (j := 1) (ev_var rfl) rfl T.cl_Reading T.no_Reading_names rfl (by decide) rfl) (ev_var rfl) ev_bl b2 hn8 fun H4 w4 => ?_)
      dsimp only
      have e2 : (names.map fun _ => Sl.d (.bl true)) ++ [Sl.d (.bl true)] = (names ++ [z]).map fun _ => Sl.d (.bl true) := by simp
      rw [e2] at w4
      refine sq (s_levPut (i0 := 3) (i1 := 4) (i2 := 5) (l := t.l) (f := .kind z) w4 rfl rfl rfl (by decide) (by decide) (by decide) (fun b2 hb2 => by rw [set_fst (a := nmC names) rfl]; exact hb2) (fun e he => ?_) (ev_var (i := 1) rfl) (ev_tup (ds := [.str "kind", .str z]) (ea_cons ev_str (ea_cons (ev_var rfl) ea_nil)) (by simp)) hpar fun pn' H5 hn w5 => ?_)
      · rcases set_mem he with rfl | ⟨j, hj, hje⟩
        · exact plain_nmC (names ++ [z])
        · exact plain_cells e (List.mem_of_getElem? hje)
      dsimp only
      refine sq (s_fldC (k := 0) (j := 2) (s := .d (.str "joint")) w5 rfl (ev_var rfl) ev_str T.cl_Reading T.no_Reading_due rfl (by decide) (by decide) fun H6 w6 => ?_)
      dsimp only
      refine s_ret w6 ev_bl fun v H7 w7 hv => ?_
      have e : v = .bl true := hv.bl
      subst e
      have hp := rd_end (g := ⟨r, dr, lv, nm, "joint", names ++ [z], ⟨t.p, t.pp, pn', t.dx, t.l.put (.kind z)⟩ :: b⟩) (Cr := a.c_Reading) (Cl := a.c_Level) (J := [(t.pn, numsC t.l)]) w7 (by
        rw [cells_top (t := ⟨t.p, t.pp, pn', t.dx, t.l.put (.kind z)⟩) (t' := t) rfl]
        show List.Perm ((r, rdIns a.c_Reading ⟨r, dr, lv, nm, "joint", names ++ [z], ⟨t.p, t.pp, pn', t.dx, t.l.put (.kind z)⟩ :: b⟩) :: (lv, lvC (t :: b)) :: (nm, nmC (names ++ [z])) :: (t.p, levIns a.c_Level t.dx (t.l.put (.kind z)) t.pp pn') :: (t.pp, partsC (t.l.put (.kind z))) :: (t.pn, numsC t.l) :: (b.flatMap (lcells a.c_Level) ++ [(pn', numsC (t.l.put (.kind z)))])) ((r, rdIns a.c_Reading ⟨r, dr, lv, nm, "joint", names ++ [z], ⟨t.p, t.pp, pn', t.dx, t.l.put (.kind z)⟩ :: b⟩) :: (lv, lvC (t :: b)) :: (nm, nmC (names ++ [z])) :: (t.p, levIns a.c_Level t.dx (t.l.put (.kind z)) t.pp pn') :: (t.pp, partsC (t.l.put (.kind z))) :: (pn', numsC (t.l.put (.kind z))) :: (b.flatMap (lcells a.c_Level) ++ [(t.pn, numsC t.l)]))
        refine List.Perm.cons _ (List.Perm.cons _ (List.Perm.cons _ (List.Perm.cons _ (List.Perm.cons _ ?_))))
        generalize b.flatMap (lcells a.c_Level) = R
        generalize (t.pn, numsC t.l) = x
        generalize (pn', numsC (t.l.put (.kind z))) = y
        exact (List.Perm.cons x List.perm_append_comm).trans ((List.Perm.swap y x R).trans (List.Perm.cons y (List.perm_append_comm (l₁ := [x]) (l₂ := R)))))
      exact q H7 ⟨r, dr, lv, nm, "joint", names ++ [z], ⟨t.p, t.pp, pn', t.dx, t.l.put (.kind z)⟩ :: b⟩ rfl hp.1 rfl (fun b2 o hb2 e => w7.fr b2 o hb2 e) hp.2 (by simp)
end
end K77

set_option Elab.async false
set_option linter.all false
set_option maxRecDepth 100000
set_option maxHeartbeats 1000000
namespace K77
open PySem PySem.Spec PyProof.Rows L2 DL
local macro_rules | `(tactic| walk_at "dl.1") => `(tactic| first
  | with_reducible exact ev_int
  | with_reducible exact ev_str
  | with_reducible exact ev_bl
  | with_reducible exact ev_non
  | with_reducible exact ea_nil
  | with_reducible exact eo_none
  | ((with_reducible refine' ev_var ?_ ?_) <;> rfl)
  | with_reducible refine' ea_cons ?_ ?_
  | with_reducible refine' eo_some ?_
  | with_reducible refine' ev_I0 ?_ ?_
  | with_reducible refine' ev_B0 ?_ ?_
  | with_reducible refine' ev_I ?_ ?_ ?_
  | with_reducible refine' ev_qEqI ?_ ?_
  | with_reducible refine' ev_qNeI ?_ ?_
  | with_reducible refine' ev_qEqS ?_ ?_
  | with_reducible refine' ev_qNeS ?_ ?_
  | with_reducible refine' ev_neg ?_
  | with_reducible refine' ev_addT ?_ ?_ ?_
  | with_reducible refine' ev_sign ?_ ?_
  | with_reducible refine' ev_chI ?_ ?_ (fun _ => ?_)
  | with_reducible refine' et_test ?_
  | with_reducible refine' et_B ?_
  | with_reducible refine' et_and ?_ (fun _ => ?_)
  | with_reducible refine' et_or ?_ (fun _ => ?_)
  | with_reducible refine' et_not ?_
  | with_reducible refine' ev_andV ?_ (fun _ => ?_)
  | with_reducible refine' ev_orV ?_ (fun _ => ?_)
  | with_reducible refine' ev_notV ?_
  | with_reducible refine' ev_abs ?_
  | with_reducible refine' ev_strI ?_ ?_
  | with_reducible refine' ev_lenS ?_ ?_
  | with_reducible refine' ev_isS (ea_cons ?_ (ea_cons ev_raw ea_nil)))
local macro_rules | `(tactic| walk_at "dl") => `(tactic| (repeat' walk_at "dl.1"))
local macro_rules | `(tactic| walk_at "dl.s") => `(tactic| first | assumption | omega | decide | exact trivial)
local macro_rules | `(tactic| walk_at "dls") => `(tactic| (walk_at "dl") <;> (walk_at "dl.s"))
local macro_rules | `(tactic| walk_at "dl.n") => `(tactic| (refine nxt ?_; dsimp only))

section
variable {P : Program} {w : World} {K : PySem.W.Frag} {mg : Str → Option Value} {base : Heap} {a : Ads}
theorem perm9 {α : Type} (r l n p q m p2 q2 m2 m3 : α) (R : List α) : (r :: l :: n :: p :: q :: m :: p2 :: q2 :: m2 :: (R ++ [m3])).Perm ((r :: l :: n :: p2 :: q2 :: m3 :: R) ++ [p, q, m, m2]) := by
  classical
  rw [List.perm_iff_count]
  intro x
  simp only [List.count_cons, List.count_append, List.count_nil]
  omega
theorem ok_go_on (T : Txt K mg a) : FnOk P w K mg base CX0 3 a.Reading_go_on a.d_Reading_go_on P_Reading_go_on (spStep a.c_Reading a.c_Level true (fun m => m.due = "joint") goM) := by
  refine T.Reading_go_on.F.ok sc_Reading_go_on (fun vs H Q E h => ?_) (fun cdv A outer s H vs Q E hr h => ?_)
  · obtain ⟨g, t, b, z, _, rfl, _⟩ := h
    rfl
  · obtain ⟨⟨r, dr, lv, nm, due, names, st⟩, t, b, z, hst, rfl, hR, hM, hdue, hlen, hz, q⟩ := h
    dsimp only at hst
    subst hst
    dsimp only at hlen q
    have hdue' : due = "joint" := hdue
    have htop : t.l.parts ≠ [] := hM.top hdue t.l (b.map (·.l)) rfl
    have w0 := wd_startM (N := N_Reading_go_on) (vs := [.ref r, .ref t.p, .str z]) (ss := [.v (.ref r), .v (.ref t.p), .d (.str z)]) hR.nd hR.ok plain_cells (.cons rfl (.cons rfl (.cons (Dq.str z) .nil))) rfl 0 rfl
    refine ⟨_, (pss_cons (ps_if (PW.pt (pw_and (pt_cmpR do_eqS (pv 2) pe_str (nomark _)) (pw_and1 (pt_cmpR op_gt (pe_callB dc_len (by rfl) T.n_len PySem.boot_len (pa_cons (pe_fld (pv 0) rfl) pa_nil)) pe_int (nomark _))))) (pss_cons (ps_expr (pe_bm0 PySem.F.plainAttrs_list PySem.F.slot_list_pop PySem.F.type_list_pop mt_pop (pe_fld (pv 0) rfl)))
      (pss_cons (ps_expr (pe_meth (pe_ix ix_list (pe_fld (pv 0) rfl) (pe_un un_neg pe_int) (fun _ _ => rfl)) T.cl_Level T.Level_put.m (ok_Level_put T) (hr.mono (by decide)) T.Level_put.b .nil pass0 (pa_cons (pe_meth0 (pv 1) T.cl_Level T.Level_whole_part.m (ok_Level_whole T) (hr.mono (by decide)) T.Level_whole_part.b .nil pass0) pa_nil)))
      (pss_one (ps_ret pe_bl)))) pss_nil)
      (pss_cons (ps_if (PW.pt (pw_or (pt_cmpR op_notIn_seq (pv 2) (pe_tup (pa_cons pe_str (pa_cons pe_str pa_nil))) rfl) (pw_or1 (pt_cmpR op_notIn_seq (pe_fld (pv 1) rfl) (pe_tup (pa_cons pe_str (pa_cons (pv 2) pa_nil))) rfl)))) (pss_one (ps_ret pe_bl)) pss_nil)
      (pss_cons (ps_fld (pv 1) (pv 2) rfl)
      (pss_cons (ps_fld (pv 0) pe_str rfl)
      (pss_one (ps_ret pe_bl)))))), ?_⟩
    have eLv : ∀ {A : List Addr} {G : List (V × Dt)} {S : List Sl} {M : List (Addr × Cell)} {F : Fx}, S[0]? = some (.v (.ref r)) → M[0]? = some (r, rdIns a.c_Reading ⟨r, dr, lv, nm, due, names, t :: b⟩) → EvP F ⟨A, G, M, S⟩ (tFld K (tVar 0) "levels") (.v (.ref lv)) := fun h1 h2 => ev_fldC (k := 0) (j := 0) (ev_var h1) h2 T.cl_Reading T.no_Reading_levels rfl (by decide) rfl
    have hll : ((t :: b).reverse.map fun x => Sl.v (.ref x.p)).length = b.length + 1 := by simp
    refine q_if1 w0 (b := decide (z = ")") && decide ((((t :: b).reverse.map fun x => Sl.v (.ref x.p)).length : Int) > 1)) (et_and (et_test (ev_qEqS (ev_var rfl) ev_str)) fun _ => et_test (ev_B0 (ev_lenC (k := 1) (ea_cons (eLv rfl rfl) ea_nil) rfl) ev_int)) (fun hb H1 w1 => ?_) fun hb H1 w1 => ?_
    · simp only [Bool.and_eq_true, decide_eq_true_eq, hll] at hb
      obtain ⟨hz1, hz2⟩ := hb
      obtain ⟨t2, b2, rfl⟩ : ∃ t2 b2, b = t2 :: b2 := by
        cases b with
        | nil => simp at hz2
        | cons t2 b2 => exact ⟨t2, b2, rfl⟩
      have hgo : goM (RG.m ⟨r, dr, lv, nm, due, names, t :: t2 :: b2⟩) z = (true, ⟨due, names, t2.l.put t.l.whole :: b2.map (·.l)⟩) := by
        show (if z = ")" then _ else _) = _
        rw [if_pos hz1]
        rfl
      rw [hgo] at q
      refine sq (s_popE (k := 1) (ss := (t :: t2 :: b2).reverse.map fun x => Sl.v (.ref x.p)) w1 rfl (eLv rfl rfl) (by rw [hll]; omega) fun H2 w2 => ?_)
      dsimp only
      have hpar : t2.l.parts.length < 1000 := by
        have h1 := hM.parts
        have h2 := hM.few
        simp [RG.m] at h1 h2
        omega
      have e1 : ((t :: t2 :: b2).reverse.map fun x => Sl.v (.ref x.p)).dropLast = (b2.reverse.map fun x => Sl.v (.ref x.p)) ++ [.v (.ref t2.p)] := by
        simp [List.dropLast_concat]
      rw [e1] at w2
      refine sq (s_levPut (i0 := 6) (i1 := 7) (i2 := 8) (l := t2.l) (f := t.l.whole) w2 rfl rfl rfl (by decide) (by decide) (by decide) (fun b2 hb2 => by rw [set_fst (a := lvC (t :: t2 :: _)) rfl]; exact hb2) (fun e he => ?_) (ev_ixC (k := 1) (eLv rfl rfl) (ev_neg ev_int) rfl (atI_last _ _)) (ev_lev0 (i0 := 3) (i1 := 4) (i2 := 5) (l := t.l) (f := fun l => l.whole.enc) rfl rfl rfl (ev_var (i := 1) rfl) (fun _ => htop) (by decide) (plain_fm _)) hpar fun pn' H3 hn w3 => ?_)
      · rcases set_mem he with rfl | ⟨j, hj, hje⟩
        · show ((b2.reverse.map fun x => Sl.v (.ref x.p)) ++ [Sl.v (.ref t2.p)]).all plainS = true
          rw [List.all_append, List.all_map]
          simp [plainS, Function.comp_def]
        · exact plain_cells e (List.mem_of_getElem? hje)
      dsimp only
      refine s_ret w3 ev_bl fun v H4 w4 hv => ?_
      have e : v = .bl true := hv.bl
      subst e
      have hp := rd_end (g := ⟨r, dr, lv, nm, due, names, ⟨t2.p, t2.pp, pn', t2.dx, t2.l.put t.l.whole⟩ :: b2⟩) (Cr := a.c_Reading) (Cl := a.c_Level) (J := [(t.p, levIns a.c_Level t.dx t.l t.pp t.pn), (t.pp, partsC t.l), (t.pn, numsC t.l), (t2.pn, numsC t2.l)]) w4 (by
        have el : lvC (⟨t2.p, t2.pp, pn', t2.dx, t2.l.put t.l.whole⟩ :: b2) = .lst ((b2.reverse.map fun x => Sl.v (.ref x.p)) ++ [.v (.ref t2.p)]) := by simp [lvC]
        have ec : RG.cells a.c_Reading a.c_Level ⟨r, dr, lv, nm, due, names, ⟨t2.p, t2.pp, pn', t2.dx, t2.l.put t.l.whole⟩ :: b2⟩ = (r, rdIns a.c_Reading ⟨r, dr, lv, nm, due, names, t :: t2 :: b2⟩) :: (lv, .lst ((b2.reverse.map fun x => Sl.v (.ref x.p)) ++ [.v (.ref t2.p)])) :: (nm, nmC names) :: (t2.p, levIns a.c_Level t2.dx (t2.l.put t.l.whole) t2.pp pn') :: (t2.pp, partsC (t2.l.put t.l.whole)) :: (pn', numsC (t2.l.put t.l.whole)) :: b2.flatMap (lcells a.c_Level) := by
          rw [← el]; rfl
        rw [ec]
        exact perm9 (r, rdIns a.c_Reading ⟨r, dr, lv, nm, due, names, t :: t2 :: b2⟩) (lv, .lst ((b2.reverse.map fun x => Sl.v (.ref x.p)) ++ [.v (.ref t2.p)])) (nm, nmC names) (t.p, levIns a.c_Level t.dx t.l t.pp t.pn) (t.pp, partsC t.l) (t.pn, numsC t.l) (t2.p, levIns a.c_Level t2.dx (t2.l.put t.l.whole) t2.pp pn') (t2.pp, partsC (t2.l.put t.l.whole)) (t2.pn, numsC t2.l) (pn', numsC (t2.l.put t.l.whole)) (b2.flatMap (lcells a.c_Level)))
      exact q H4 ⟨r, dr, lv, nm, due, names, ⟨t2.p, t2.pp, pn', t2.dx, t2.l.put t.l.whole⟩ :: b2⟩ rfl hp.1 rfl (fun b3 o hb3 e => w4.fr b3 o hb3 e) hp.2 (by simp)
    · have hgo : goM (RG.m ⟨r, dr, lv, nm, due, names, t :: b⟩) z = if (z ≠ "and" ∧ z ≠ "or") ∨ (t.l.word ≠ "" ∧ t.l.word ≠ z) then (false, ⟨due, names, t.l :: b.map (·.l)⟩) else (true, ⟨"part", names, ⟨t.l.above, z, t.l.parts, t.l.nums⟩ :: b.map (·.l)⟩) := by
        cases b with
        | nil => rfl
        | cons t2 b2 =>
          have hzn : z ≠ ")" := fun e => by
            rw [hll, decide_eq_true e, decide_eq_true (show ((((t2 :: b2).length + 1 : Nat) : Int) > 1) by simp; omega)] at hb
            cases hb
          show (if z = ")" then _ else _) = _
          rw [if_neg hzn]
          rfl
      rw [hgo] at q
      have eW : EvP ⟨(RG.cells a.c_Reading a.c_Level ⟨r, dr, lv, nm, due, names, t :: b⟩).map (·.1), H⟩ ⟨(RG.cells a.c_Reading a.c_Level ⟨r, dr, lv, nm, due, names, t :: b⟩).map (·.1), [], RG.cells a.c_Reading a.c_Level ⟨r, dr, lv, nm, due, names, t :: b⟩, [.v (.ref r), .v (.ref t.p), .d (.str z)]⟩ (tFld K (tVar 1) "word") (.d (.str t.l.word)) := ev_fldC (k := 3) (j := 1) (ev_var (i := 1) rfl) rfl T.cl_Level T.no_Level_word rfl (by decide) rfl
      refine q_if1 w1 (b := !decide (z ∈ (["and", "or"] : List Str)) || !decide (t.l.word ∈ (["", z] : List Str))) (et_or (et_test (ev_inST (neg := true) (ys := ["and", "or"]) (ev_var rfl) (ev_tup (ds := dStrs ["and", "or"]) (ea_cons ev_str (ea_cons ev_str ea_nil))))) fun _ => et_test (ev_inST (neg := true) (ys := ["", z]) eW (ev_tup (ds := dStrs ["", z]) (ea_cons ev_str (ea_cons (ev_var rfl) ea_nil)) (by simp [dStrs])))) (fun hb2 H2 w2 => ?_) fun hb2 H2 w2 => ?_
      · rw [if_pos (by
          simp only [Bool.or_eq_true, Bool.not_eq_true', decide_eq_false_iff_not, List.mem_cons, List.not_mem_nil, or_false, not_or] at hb2
          exact hb2)] at q
        refine s_ret w2 ev_bl fun v H4 w4 hv => ?_
        have e : v = .bl false := hv.bl
        subst e
        have hp := rd_end (g := ⟨r, dr, lv, nm, due, names, t :: b⟩) (Cr := a.c_Reading) (Cl := a.c_Level) (J := []) w4 (by rw [List.append_nil])
        exact q H4 ⟨r, dr, lv, nm, due, names, t :: b⟩ rfl hp.1 rfl (fun b2 o hb2 e => w4.fr b2 o hb2 e) hp.2 (by simp)
      · rw [if_neg (by
          simp only [Bool.or_eq_false_iff, Bool.not_eq_false', decide_eq_true_eq, List.mem_cons, List.not_mem_nil, or_false] at hb2
          obtain ⟨h1, h2⟩ := hb2
          rintro (⟨h3, h4⟩ | ⟨h3, h4⟩)
          · rcases h1 with h | h
            · exact h3 h
            · exact h4 h
          · rcases h2 with h | h
            · exact h3 h
            · exact h4 h)] at q
        refine sq (s_fldC (k := 3) (j := 1) (s := .d (.str z)) w2 rfl (ev_var (i := 1) rfl) (ev_var rfl) T.cl_Level T.no_Level_word rfl (by decide) (by decide) fun H3 w3 => ?_)
        dsimp only
        refine sq (s_fldC (k := 0) (j := 2) (s := .d (.str "part")) w3 rfl (ev_var rfl) ev_str T.cl_Reading T.no_Reading_due rfl (by decide) (by decide) fun H4 w4 => ?_)
        dsimp only
        refine s_ret w4 ev_bl fun v H5 w5 hv => ?_
        have e : v = .bl true := hv.bl
        subst e
        have hp := rd_end (g := ⟨r, dr, lv, nm, "part", names, ⟨t.p, t.pp, t.pn, t.dx, ⟨t.l.above, z, t.l.parts, t.l.nums⟩⟩ :: b⟩) (Cr := a.c_Reading) (Cl := a.c_Level) (J := []) w5 (by
          rw [List.append_nil, cells_top (t := ⟨t.p, t.pp, t.pn, t.dx, ⟨t.l.above, z, t.l.parts, t.l.nums⟩⟩) (t' := t) rfl]
          exact List.Perm.refl _)
        exact q H5 ⟨r, dr, lv, nm, "part", names, ⟨t.p, t.pp, t.pn, t.dx, ⟨t.l.above, z, t.l.parts, t.l.nums⟩⟩ :: b⟩ rfl hp.1 rfl (fun b2 o hb2 e => w5.fr b2 o hb2 e) hp.2 (by simp)
end
end K77

set_option Elab.async false
set_option linter.all false
set_option maxRecDepth 100000
set_option maxHeartbeats 1000000
namespace K77
open PySem PySem.Spec PyProof.Rows L2 DL
local macro_rules | `(tactic| walk_at "dl.1") => `(tactic| first
  | with_reducible exact ev_int
  | with_reducible exact ev_str
  | with_reducible exact ev_bl
  | with_reducible exact ev_non
  | with_reducible exact ea_nil
  | with_reducible exact eo_none
  | ((with_reducible refine' ev_var ?_ ?_) <;> rfl)
  | with_reducible refine' ea_cons ?_ ?_
  | with_reducible refine' eo_some ?_
  | with_reducible refine' ev_I0 ?_ ?_
  | with_reducible refine' ev_B0 ?_ ?_
  | with_reducible refine' ev_I ?_ ?_ ?_
  | with_reducible refine' ev_qEqI ?_ ?_
  | with_reducible refine' ev_qNeI ?_ ?_
  | with_reducible refine' ev_qEqS ?_ ?_
  | with_reducible refine' ev_qNeS ?_ ?_
  | with_reducible refine' ev_neg ?_
  | with_reducible refine' ev_addT ?_ ?_ ?_
  | with_reducible refine' ev_sign ?_ ?_
  | with_reducible refine' ev_chI ?_ ?_ (fun _ => ?_)
  | with_reducible refine' et_test ?_
  | with_reducible refine' et_B ?_
  | with_reducible refine' et_and ?_ (fun _ => ?_)
  | with_reducible refine' et_or ?_ (fun _ => ?_)
  | with_reducible refine' et_not ?_
  | with_reducible refine' ev_andV ?_ (fun _ => ?_)
  | with_reducible refine' ev_orV ?_ (fun _ => ?_)
  | with_reducible refine' ev_notV ?_
  | with_reducible refine' ev_abs ?_
  | with_reducible refine' ev_strI ?_ ?_
  | with_reducible refine' ev_lenS ?_ ?_
  | with_reducible refine' ev_isS (ea_cons ?_ (ea_cons ev_raw ea_nil)))
local macro_rules | `(tactic| walk_at "dl") => `(tactic| (repeat' walk_at "dl.1"))
local macro_rules | `(tactic| walk_at "dl.s") => `(tactic| first | assumption | omega | decide | exact trivial)
local macro_rules | `(tactic| walk_at "dls") => `(tactic| (walk_at "dl") <;> (walk_at "dl.s"))
local macro_rules | `(tactic| walk_at "dl.n") => `(tactic| (refine nxt ?_; dsimp only))

section
variable {P : Program} {w : World} {K : PySem.W.Frag} {mg : Str → Option Value} {base : Heap} {a : Ads}
/-- the state's method, called at the end of another -/
theorem ret_step {A : List Addr} {Cr Cl : Addr} {F : Fx} {H0 H : Hp} {σ : L2.St} {D : Ends} {te tz : TE} {g : RG} {t : LA} {b : List LA} {z m : Str} {pr : RM → Prop} {f : RM → Str → Bool × RM} {Q : VK} {S : List Sl} {E : XK}
    (w : Wd ⟨(g.cells Cr Cl).map (·.1), H0⟩ ⟨(g.cells Cr Cl).map (·.1), [], g.cells Cr Cl, S⟩ H σ) (hst : g.st = t :: b) (hs : S[0]? = some (.v (.ref g.r))) (he : EvP ⟨(g.cells Cr Cl).map (·.1), H0⟩ ⟨(g.cells Cr Cl).map (·.1), [], g.cells Cr Cl, S⟩ te (.v (.ref t.p)))
    (hz : EvP ⟨(g.cells Cr Cl).map (·.1), H0⟩ ⟨(g.cells Cr Cl).map (·.1), [], g.cells Cr Cl, S⟩ tz (.d (.str z))) (hm : m ∉ rdNs) (hM : RmOk g.m) (hp : pr g.m) (hl : g.st.length < 90000) (hzl : z.length ≤ 100000)
    (q : ∀ H' g', g'.r = g.r → RdAt Cr Cl H' g' → g'.m = (f g.m z).2 → (∀ b o, b ∉ g.addrs Cr Cl → H0 b = some o → H' b = some o) → (∀ b ∈ g'.addrs Cr Cl, b ∈ g.addrs Cr Cl ∨ H0 b = none) → g'.st.length ≤ g.st.length + 1 → Q (.bl (f g.m z).1) H') (hD : D.rt = Q) :
    tRet (tMeth Cr m (spStep Cr Cl true pr f) [] E (tVar 0) (tCons te (tCons tz tNil))) D σ H := by
  subst hD
  unfold tRet tMeth
  refine (ev_var hs).run w fun x H1 w1 k1 g1 => ?_
  obtain rfl : x = .ref g.r := g1
  obtain ⟨fs, e1, e2, e3⟩ : CellOk _ H1 g.r (rdIns Cr g) := w1.mO (g.r, rdIns Cr g) List.mem_cons_self
  refine ⟨g.r, g.dr, fs, rfl, e1, no_look (by rw [e2]; exact hm), ?_⟩
  refine ea_cons he (ea_cons hz ea_nil) _ (Xt.refl _) H1 σ w1 _ fun vs H2 w2 k2 g2 => ?_
  rw [List.append_nil]
  cases g2 with
  | cons a1 r1 => cases r1 with
    | cons a2 r2 =>
      cases r2
      obtain rfl := a1
      have e4 := SlOk.str a2
      subst e4
      have hp2 := rd_end (g := g) (Cr := Cr) (Cl := Cl) (J := []) w2 (by rw [List.append_nil])
      refine ⟨g, t, b, z, hst, rfl, hp2.1, hM, hp, hl, hzl, fun H' g' h1 h2 h3 h4 h5 h6 => q H' g' h1 h2 h3 (fun b o hb e => h4 b o hb (w2.fr b o hb e)) (fun b hb => ?_) h6⟩
      rcases h5 b hb with h | h
      · exact .inl h
      · rcases Classical.em (b ∈ g.addrs Cr Cl) with hm | hm
        · exact .inl hm
        · refine .inr ?_
          cases e : H0 b with
          | none => rfl
          | some o =>
            have := w2.fr b o hm e
            rw [h] at this; cases this
theorem ok_take (T : Txt K mg a) : FnOk P w K mg base CX0 4 a.Reading_take a.d_Reading_take P_Reading_take (spStep a.c_Reading a.c_Level false (fun m => m.due = "of" ∨ m.due = "part" ∨ m.due = "joint") takeM) := by
  refine T.Reading_take.F.ok sc_Reading_take (fun vs H Q E h => ?_) (fun cdv A outer s H vs Q E hr h => ?_)
  · obtain ⟨g, t, b, z, _, rfl, _⟩ := h
    rfl
  · obtain ⟨⟨r, dr, lv, nm, due, names, st⟩, t, b, z, hst, rfl, hR, hM, hdue, hlen, hz, q⟩ := h
    dsimp only at hst
    subst hst
    dsimp only at hlen q
    have w0 := wd_startM (N := N_Reading_take) (vs := [.ref r, .str z]) (ss := [.v (.ref r), .d (.str z)]) hR.nd hR.ok plain_cells (.cons rfl (.cons (Dq.str z) .nil)) rfl 0 rfl
    refine ⟨_, (pss_cons (ps_if (pt_cmpR do_eqS (pe_fld (pv 0) rfl) pe_str (nomark _)) (pss_cons (ps_fld (pv 0) pe_str rfl)
      (pss_one (ps_ret (pe_cmpR do_eqS (pv 1) pe_str (nomark _))))) pss_nil)
      (pss_cons (ps_if (pt_cmpR do_eqS (pe_fld (pv 0) rfl) pe_str (nomark _)) (pss_one (ps_ret (pe_meth (pv 0) T.cl_Reading T.Reading_begin.m (ok_begin T) (hr.mono (by decide)) T.Reading_begin.b .nil pass0 (pa_cons (pe_ix ix_list (pe_fld (pv 0) rfl) (pe_un un_neg pe_int) (fun _ _ => rfl)) (pa_cons (pv 1) pa_nil))))) pss_nil)
      (pss_one (ps_ret (pe_meth (pv 0) T.cl_Reading T.Reading_go_on.m (ok_go_on T) (hr.mono (by decide)) T.Reading_go_on.b .nil pass0 (pa_cons (pe_ix ix_list (pe_fld (pv 0) rfl) (pe_un un_neg pe_int) (fun _ _ => rfl)) (pa_cons (pv 1) pa_nil))))))), ?_⟩
    have eD : ∀ {A : List Addr} {G : List (V × Dt)} {S : List Sl} {M : List (Addr × Cell)} {F : Fx}, S[0]? = some (.v (.ref r)) → M[0]? = some (r, rdIns a.c_Reading ⟨r, dr, lv, nm, due, names, t :: b⟩) → EvP F ⟨A, G, M, S⟩ (tFld K (tVar 0) "due") (.d (.str due)) := fun h1 h2 => ev_fldC (k := 0) (j := 2) (ev_var h1) h2 T.cl_Reading T.no_Reading_due rfl (by decide) rfl
    have eT : EvP ⟨(RG.cells a.c_Reading a.c_Level ⟨r, dr, lv, nm, due, names, t :: b⟩).map (·.1), H⟩ ⟨(RG.cells a.c_Reading a.c_Level ⟨r, dr, lv, nm, due, names, t :: b⟩).map (·.1), [], RG.cells a.c_Reading a.c_Level ⟨r, dr, lv, nm, due, names, t :: b⟩, [.v (.ref r), .d (.str z)]⟩ (tOp (rIxL K) (tFld K (tVar 0) "levels") (tUn (rU fun i => .int (-i)) (tC (.int 1)))) (.v (.ref t.p)) := by
      refine ev_ixC (k := 1) (ss := (b.reverse.map fun x => Sl.v (.ref x.p)) ++ [.v (.ref t.p)]) (ev_fldC (k := 0) (j := 0) (ev_var rfl) rfl T.cl_Reading T.no_Reading_levels rfl (by decide) rfl) (ev_neg ev_int) ?_ (atI_last _ _)
      have el : lvC (t :: b) = .lst ((b.reverse.map fun x => Sl.v (.ref x.p)) ++ [.v (.ref t.p)]) := by simp [lvC]
      rw [← el]
      rfl
    refine q_if1 w0 (et_test (ev_qEqS (eD rfl rfl) ev_str)) (fun hb H1 w1 => ?_) fun hb H1 w1 => ?_
    · have htk : takeM (RG.m ⟨r, dr, lv, nm, due, names, t :: b⟩) z = (decide (z = "of"), ⟨"part", names, t.l :: b.map (·.l)⟩) := by
        show (if due = "of" then _ else _) = _
        rw [if_pos (of_decide_eq_true hb)]
        rfl
      rw [htk] at q
      refine sq (s_fldC (k := 0) (j := 2) (s := .d (.str "part")) w1 rfl (ev_var rfl) ev_str T.cl_Reading T.no_Reading_due rfl (by decide) (by decide) fun H4 w4 => ?_)
      dsimp only
      refine s_ret w4 (ev_qEqS (ev_var rfl) ev_str) fun v H5 w5 hv => ?_
      have e : v = .bl (decide (z = "of")) := hv.bl
      subst e
      have hp := rd_end (g := ⟨r, dr, lv, nm, "part", names, t :: b⟩) (Cr := a.c_Reading) (Cl := a.c_Level) (J := []) w5 (by
        rw [List.append_nil]
        exact List.Perm.refl _)
      exact q H5 ⟨r, dr, lv, nm, "part", names, t :: b⟩ rfl hp.1 rfl (fun b2 o hb2 e => w5.fr b2 o hb2 e) hp.2 (by simp)
    · have hb' := of_decide_eq_false hb
      refine q_if1 w1 (et_test (ev_qEqS (eD rfl rfl) ev_str)) (fun hb2 H2 w2 => ?_) fun hb2 H2 w2 => ?_
      · have htk : takeM (RG.m ⟨r, dr, lv, nm, due, names, t :: b⟩) z = begM (RG.m ⟨r, dr, lv, nm, due, names, t :: b⟩) z := by
          show (if due = "of" then _ else _) = _
          rw [if_neg hb']
          show (if due = "part" then _ else _) = _
          rw [if_pos (of_decide_eq_true hb2)]
        rw [htk] at q
        exact ret_step (A := []) (F := ⟨[], H⟩) (g := ⟨r, dr, lv, nm, due, names, t :: b⟩) w2 rfl rfl eT (ev_var rfl) (by decide) hM trivial hlen hz q rfl
      · have hb2' := of_decide_eq_false hb2
        have htk : takeM (RG.m ⟨r, dr, lv, nm, due, names, t :: b⟩) z = goM (RG.m ⟨r, dr, lv, nm, due, names, t :: b⟩) z := by
          show (if due = "of" then _ else _) = _
          rw [if_neg hb']
          show (if due = "part" then _ else _) = _
          rw [if_neg hb2']
        rw [htk] at q
        have hj : due = "joint" := by
          rcases hdue with h | h | h
          · exact absurd h hb'
          · exact absurd h hb2'
          · exact h
        exact ret_step (A := []) (F := ⟨[], H⟩) (g := ⟨r, dr, lv, nm, due, names, t :: b⟩) w2 rfl rfl eT (ev_var rfl) (by decide) hM hj hlen hz q rfl
end
end K77

set_option Elab.async false
set_option linter.all false
set_option maxRecDepth 100000
set_option maxHeartbeats 1000000
namespace K77
open PySem PySem.Spec PyProof.Rows L2 DL
local macro_rules | `(tactic| walk_at "dl.1") => `(tactic| first
  | with_reducible exact ev_int
  | with_reducible exact ev_str
  | with_reducible exact ev_bl
  | with_reducible exact ev_non
  | with_reducible exact ea_nil
  | with_reducible exact eo_none
  | ((with_reducible refine' ev_var ?_ ?_) <;> rfl)
  | with_reducible refine' ea_cons ?_ ?_
  | with_reducible refine' eo_some ?_
  | with_reducible refine' ev_I0 ?_ ?_
  | with_reducible refine' ev_B0 ?_ ?_
  | with_reducible refine' ev_I ?_ ?_ ?_
  | with_reducible refine' ev_qEqI ?_ ?_
  | with_reducible refine' ev_qNeI ?_ ?_
  | with_reducible refine' ev_qEqS ?_ ?_
  | with_reducible refine' ev_qNeS ?_ ?_
  | with_reducible refine' ev_neg ?_
  | with_reducible refine' ev_addT ?_ ?_ ?_
  | with_reducible refine' ev_sign ?_ ?_
  | with_reducible refine' ev_chI ?_ ?_ (fun _ => ?_)
  | with_reducible refine' et_test ?_
  | with_reducible refine' et_B ?_
  | with_reducible refine' et_and ?_ (fun _ => ?_)
  | with_reducible refine' et_or ?_ (fun _ => ?_)
  | with_reducible refine' et_not ?_
  | with_reducible refine' ev_andV ?_ (fun _ => ?_)
  | with_reducible refine' ev_orV ?_ (fun _ => ?_)
  | with_reducible refine' ev_notV ?_
  | with_reducible refine' ev_abs ?_
  | with_reducible refine' ev_strI ?_ ?_
  | with_reducible refine' ev_lenS ?_ ?_
  | with_reducible refine' ev_isS (ea_cons ?_ (ea_cons ev_raw ea_nil)))
local macro_rules | `(tactic| walk_at "dl") => `(tactic| (repeat' walk_at "dl.1"))
local macro_rules | `(tactic| walk_at "dl.s") => `(tactic| first | assumption | omega | decide | exact trivial)
local macro_rules | `(tactic| walk_at "dls") => `(tactic| (walk_at "dl") <;> (walk_at "dl.s"))
local macro_rules | `(tactic| walk_at "dl.n") => `(tactic| (refine nxt ?_; dsimp only))

section
variable {P : Program} {w : World} {K : PySem.W.Frag} {mg : Str → Option Value} {base : Heap} {a : Ads}
def rm0 : RM := ⟨"part", [], [Lev.new 1]⟩
/-- Reading.__init__ -/
def spRdIni (Cr Cl : Addr) : Sp := fun vs H Q _ => ∃ (x dx : Addr), vs = [.ref x] ∧ H x = some (.ins Cr dx []) ∧
  ∀ H' g, g.r = x → g.st.length = 1 → g.m = rm0 → RdAt Cr Cl H' g → (∀ b o, b ≠ x → H b = some o → H' b = some o) → (∀ b ∈ g.addrs Cr Cl, b = x ∨ H b = none) → Q .non H'
theorem ok_Reading_init (T : Txt K mg a) : FnOk P w K mg base CX0 3 a.Reading_init a.d_Reading_init P_Reading_init (spRdIni a.c_Reading a.c_Level) := by
  refine T.Reading_init.ok sc_Reading_init (fun vs H Q E h => ?_) (fun cdv A outer s H vs Q E hr h => ?_)
  · obtain ⟨x, dx, rfl, _⟩ := h
    rfl
  · obtain ⟨x, dx, rfl, hx, q⟩ := h
    refine ⟨_, (pss_cons (ps_fld (pv 0) (pe_lst (pa_cons (pe_make T.mk_Level (ok_Level_init T) (hr.mono (by decide)) (by rfl) T.mg_Level T.b_Level_init .nil pass0 (pa_cons pe_int pa_nil)) pa_nil)) rfl)
      (pss_cons (ps_fld (pv 0) pe_dnewK rfl)
      (pss_one (ps_fld (pv 0) pe_str rfl)))), ?_⟩
    -- the first level
    refine sq fun p dp hp hdp hne => ⟨p, dp, 1, rfl, upd_same, fun H1 pp pn hpp hpn hpq fr hP hPP hPN => ⟨rfl, by show 1 ≤ sizeLine; decide, fun lv hlv => ?_⟩⟩
    have a1 : p ≠ x := fun e => by rw [e, hx] at hp; cases hp
    have a2 : dp ≠ x := fun e => by rw [e, hx] at hdp; cases hdp
    have a3 : pp ≠ p := fun e => by rw [e, upd_same] at hpp; cases hpp
    have a4 : pn ≠ p := fun e => by rw [e, upd_same] at hpn; cases hpn
    have a5 : pp ≠ dp := fun e => by rw [e, upd_ne hne, upd_same] at hpp; cases hpp
    have a6 : pn ≠ dp := fun e => by rw [e, upd_ne hne, upd_same] at hpn; cases hpn
    rw [upd_ne a3, upd_ne a5] at hpp
    rw [upd_ne a4, upd_ne a6] at hpn
    have a7 : pp ≠ x := fun e => by rw [e, hx] at hpp; cases hpp
    have a8 : pn ≠ x := fun e => by rw [e, hx] at hpn; cases hpn
    have k1 : ∀ b o, H b = some o → H1 b = some o := fun b o e => by
      have b1 : b ≠ p := fun z => by rw [z, hp] at e; cases e
      have b2 : b ≠ dp := fun z => by rw [z, hdp] at e; cases e
      exact fr b o b1 (by rw [upd_ne b1, upd_ne b2]; exact e)
    have hx1 := k1 _ _ hx
    have c1 : lv ≠ x := fun e => by rw [e, hx1] at hlv; cases hlv
    have c2 : lv ≠ p := fun e => by rw [e, hP] at hlv; cases hlv
    have c3 : lv ≠ pp := fun e => by rw [e, hPP] at hlv; cases hlv
    have c4 : lv ≠ pn := fun e => by rw [e, hPN] at hlv; cases hlv
    refine ⟨.ref x, rfl, x, a.c_Reading, dx, [], rfl, by rw [upd_ne c1.symm]; exact hx1, T.cl_Reading, T.no_Reading_levels, by decide, ?_⟩
    refine sq fun nm hnm => ?_
    have d1 : nm ≠ x := fun e => by rw [e, upd_same] at hnm; cases hnm
    have d2 : nm ≠ lv := fun e => by rw [e, upd_ne c1, upd_same] at hnm; cases hnm
    rw [upd_ne d1, upd_ne d2] at hnm
    have d3 : nm ≠ p := fun e => by rw [e, hP] at hnm; cases hnm
    have d4 : nm ≠ pp := fun e => by rw [e, hPP] at hnm; cases hnm
    have d5 : nm ≠ pn := fun e => by rw [e, hPN] at hnm; cases hnm
    refine ⟨.ref x, rfl, x, a.c_Reading, dx, [("levels", .ref lv)], rfl, by rw [upd_ne d1.symm]; exact upd_same, T.cl_Reading, T.no_Reading_names, by simp, ?_⟩
    refine ⟨.ref x, rfl, x, a.c_Reading, dx, [("levels", .ref lv), ("names", .ref nm)], rfl, upd_same, T.cl_Reading, T.no_Reading_due, by simp, ?_⟩
    have none0 : ∀ {b : Addr}, H1 b = none → H b = none := fun {b} hb => by
      cases e : H b with
      | none => rfl
      | some o => rw [k1 _ _ e] at hb; cases hb
    refine q _ ⟨x, dx, lv, nm, "part", [], [⟨p, pp, pn, dp, Lev.new 1⟩]⟩ rfl rfl rfl ⟨?_, fun e he => ?_⟩ (fun b o hb e => ?_) (fun b hb => ?_)
    · show [x, lv, nm, p, pp, pn].Nodup
      simp only [List.nodup_cons, List.mem_cons, List.not_mem_nil, or_false, not_or, not_false_eq_true, List.nodup_nil, and_true]
      exact ⟨⟨c1.symm, d1.symm, a1.symm, a7.symm, a8.symm⟩, ⟨d2.symm, c2, c3, c4⟩, ⟨d3, d4, d5⟩, ⟨a3.symm, a4.symm⟩, hpq⟩
    · have he' : e ∈ [(x, rdIns a.c_Reading ⟨x, dx, lv, nm, "part", [], [⟨p, pp, pn, dp, Lev.new 1⟩]⟩), (lv, lvC [⟨p, pp, pn, dp, Lev.new 1⟩]), (nm, nmC []), (p, levIns a.c_Level dp (Lev.new 1) pp pn), (pp, partsC (Lev.new 1)), (pn, numsC (Lev.new 1))] := he
      simp only [List.mem_cons, List.not_mem_nil, or_false] at he'
      rcases he' with rfl | rfl | rfl | rfl | rfl | rfl
      · exact ⟨[("levels", .ref lv), ("names", .ref nm), ("due", .str "part")], upd_same, rfl, .cons (show SlOk _ _ (.v (.ref lv)) (.ref lv) from rfl) (.cons (show SlOk _ _ (.v (.ref nm)) (.ref nm) from rfl) (.cons (Dq.str _) .nil))⟩
      · exact ⟨[.ref p], by rw [upd_ne c1, upd_ne c1, upd_ne d2.symm, upd_ne c1, upd_same], .cons rfl .nil⟩
      · exact ⟨[], by rw [upd_ne d1, upd_ne d1, upd_same], rfl, .nil⟩
      · exact ⟨[("above", .int 1), ("word", .str ""), ("parts", .ref pp), ("numbers", .ref pn)], by rw [upd_ne a1, upd_ne a1, upd_ne d3.symm, upd_ne a1, upd_ne c2.symm]; exact hP, rfl, .cons (Dq.int _) (.cons (Dq.str _) (.cons (show SlOk _ _ (.v (.ref pp)) (.ref pp) from rfl) (.cons (show SlOk _ _ (.v (.ref pn)) (.ref pn) from rfl) .nil)))⟩
      · exact ⟨[], by rw [upd_ne a7, upd_ne a7, upd_ne d4.symm, upd_ne a7, upd_ne c3.symm]; exact hPP, .nil⟩
      · exact ⟨[], by rw [upd_ne a8, upd_ne a8, upd_ne d5.symm, upd_ne a8, upd_ne c4.symm]; exact hPN, .nil⟩
    · have e1 := k1 _ _ e
      have b1 : b ≠ lv := fun z => by rw [z, hlv] at e1; cases e1
      have b2 : b ≠ nm := fun z => by rw [z, hnm] at e1; cases e1
      rw [upd_ne hb, upd_ne hb, upd_ne b2, upd_ne hb, upd_ne b1]
      exact e1
    · have hb' : b ∈ [x, lv, nm, p, pp, pn] := hb
      simp only [List.mem_cons, List.not_mem_nil, or_false] at hb'
      rcases hb' with rfl | rfl | rfl | rfl | rfl | rfl
      · exact .inl rfl
      · exact .inr (none0 hlv)
      · exact .inr (none0 hnm)
      · exact .inr hp
      · exact .inr hpp
      · exact .inr hpn
end
end K77

set_option Elab.async false
set_option linter.all false
set_option maxRecDepth 100000
set_option maxHeartbeats 1000000
namespace K77
open PySem PySem.Spec PyProof.Rows L2 DL
/-- the state behind i words -/
structure Run (i : Nat) (m : RM) : Prop where
  nums : ∀ l ∈ m.levs, ∀ n ∈ l.nums, 0 ≤ n ∧ n ≤ 60
  cnt : ∀ l ∈ m.levs, l.nums.length ≤ i
  parts : (m.levs.map (·.parts.length)).sum ≤ m.names.length
  few : m.names.length ≤ 8
  top : m.due = "joint" → ∀ t b, m.levs = t :: b → t.parts ≠ []
  due : m.due = "of" ∨ m.due = "part" ∨ m.due = "joint"
  ne : m.levs ≠ []
  len : m.levs.length ≤ i + 1
theorem Run.ok {i : Nat} {m : RM} (h : Run i m) (hi : i ≤ 80000) : RmOk m := ⟨h.nums, fun l hl => Nat.le_trans (h.cnt l hl) hi, h.parts, h.few, h.top⟩
theorem run0 : Run 0 rm0 where
  nums := fun l hl n hn => by
    simp [rm0] at hl; subst hl; simp [Lev.new] at hn
  cnt := fun l hl => by simp [rm0] at hl; subst hl; simp [Lev.new]
  parts := by simp [rm0, Lev.new]
  few := by simp [rm0]
  top := fun h => absurd h (by decide)
  due := .inr (.inl rfl)
  ne := by simp [rm0]
  len := by simp [rm0]
theorem Run.step {i : Nat} {m : RM} (h : Run i m) (z : Str) (ht : (takeM m z).1 = true) : Run (i + 1) (takeM m z).2 := by
  obtain ⟨due, names, levs⟩ := m
  obtain ⟨hnum, hcnt, hpar, hfew, htop, hdue, hne, hlen⟩ := h
  dsimp only at hnum hcnt hpar hfew htop hdue hne hlen
  obtain ⟨t, b, rfl⟩ : ∃ t b, levs = t :: b := by
    cases levs with
    | nil => exact absurd rfl hne
    | cons t b => exact ⟨t, b, rfl⟩
  have cnt' : ∀ l ∈ t :: b, l.nums.length ≤ i + 1 := fun l hl => Nat.le_succ_of_le (hcnt l hl)
  have n1 : ("part" : Str) ≠ "joint" := by decide
  have n2 : ("of" : Str) ≠ "joint" := by decide
  unfold takeM at ht ⊢
  split at ht
  · rename_i hd
    rw [if_pos hd]
    exact ⟨hnum, cnt', hpar, hfew, fun h => absurd h n1, .inr (.inl rfl), hne, Nat.le_succ_of_le hlen⟩
  · rename_i hd
    rw [if_neg hd]
    split at ht
    · rename_i hd2
      rw [if_pos hd2]
      -- a part is due
      have hbeg : begM ⟨due, names, t :: b⟩ z = if z = "(" then (true, ⟨due, names, Lev.new t.weight :: t :: b⟩)
        else if amount z > 1 then (decide ((⟨t.above, t.word, t.parts, t.nums ++ [amount z]⟩ : Lev).weight ≤ 60), ⟨"of", names, ⟨t.above, t.word, t.parts, t.nums ++ [amount z]⟩ :: b⟩)
        else if isName z = false ∨ z ∈ names ∨ 8 ≤ names.length then (false, ⟨due, names, t :: b⟩)
        else (true, ⟨"joint", names ++ [z], t.put (.kind z) :: b⟩) := rfl
      rw [hbeg] at ht ⊢
      split
      · refine ⟨fun l hl n hn => ?_, fun l hl => ?_, by simpa [Lev.new] using hpar, hfew, fun h => ?_, hdue, by simp, by simp at hlen ⊢; omega⟩
        · rcases List.mem_cons.mp hl with rfl | hl
          · simp [Lev.new] at hn
          · exact hnum l hl n hn
        · rcases List.mem_cons.mp hl with rfl | hl
          · simp [Lev.new]
          · exact cnt' l hl
        · rw [show due = "part" from hd2] at h; exact absurd h n1
      · rename_i hz
        rw [if_neg hz] at ht
        split
        · refine ⟨fun l hl n hn => ?_, fun l hl => ?_, hpar, hfew, fun h => absurd h n2, .inl rfl, by simp, by simp at hlen ⊢; omega⟩
          · rcases List.mem_cons.mp hl with rfl | hl
            · rcases List.mem_append.mp hn with hn | hn
              · exact hnum t (by simp) n hn
              · rw [List.mem_singleton] at hn; subst hn; exact amount_le z
            · exact hnum l (by simp [hl]) n hn
          · rcases List.mem_cons.mp hl with rfl | hl
            · have := hcnt t (by simp)
              simp; omega
            · exact cnt' l (by simp [hl])
        · rename_i ha
          rw [if_neg ha] at ht
          split
          · rename_i hb
            rw [if_pos hb] at ht
            cases ht
          · rename_i hb
            refine ⟨fun l hl n hn => ?_, fun l hl => ?_, ?_, ?_, fun h t2 b2 e => ?_, .inr (.inr rfl), by simp, by simp at hlen ⊢; omega⟩
            · rcases List.mem_cons.mp hl with rfl | hl
              · simp [Lev.put] at hn
              · exact hnum l (by simp [hl]) n hn
            · rcases List.mem_cons.mp hl with rfl | hl
              · simp [Lev.put]
              · exact cnt' l (by simp [hl])
            · simp [Lev.put] at hpar ⊢; omega
            · simp only [not_or] at hb
              simp; omega
            · cases e
              simp [Lev.put]
    · rename_i hd2
      rw [if_neg hd2]
      have hj : due = "joint" := by
        rcases hdue with h | h | h
        · exact absurd h hd
        · exact absurd h hd2
        · exact h
      have hgo : goM ⟨due, names, t :: b⟩ z = match b with
        | [] => if (z ≠ "and" ∧ z ≠ "or") ∨ (t.word ≠ "" ∧ t.word ≠ z) then (false, ⟨due, names, [t]⟩) else (true, ⟨"part", names, [⟨t.above, z, t.parts, t.nums⟩]⟩)
        | t2 :: b2 => if z = ")" then (true, ⟨due, names, t2.put t.whole :: b2⟩)
          else if (z ≠ "and" ∧ z ≠ "or") ∨ (t.word ≠ "" ∧ t.word ≠ z) then (false, ⟨due, names, t :: t2 :: b2⟩) else (true, ⟨"part", names, ⟨t.above, z, t.parts, t.nums⟩ :: t2 :: b2⟩) := by
        cases b <;> rfl
      rw [hgo] at ht ⊢
      have joint : ∀ b' : List Lev, (∀ l ∈ b', l ∈ b) → b'.length = b.length → (b'.map (·.parts.length)).sum = (b.map (·.parts.length)).sum → Run (i + 1) ⟨"part", names, ⟨t.above, z, t.parts, t.nums⟩ :: b'⟩ := fun b' hb hl hs => by
        refine ⟨fun l hl n hn => ?_, fun l hl => ?_, by simp [hs] at hpar ⊢; exact hpar, hfew, fun h => absurd h n1, .inr (.inl rfl), by simp, by simp at hlen ⊢; omega⟩
        · rcases List.mem_cons.mp hl with rfl | hl
          · exact hnum t (by simp) n hn
          · exact hnum l (by simp [hb l hl]) n hn
        · rcases List.mem_cons.mp hl with rfl | hl
          · exact cnt' t (by simp)
          · exact cnt' l (by simp [hb l hl])
      cases b with
      | nil =>
        dsimp only at ht ⊢
        split
        · rename_i hb; rw [if_pos hb] at ht; cases ht
        · exact joint [] (fun l hl => hl) rfl rfl
      | cons t2 b2 =>
        dsimp only at ht ⊢
        split
        · have htp := htop hj t (t2 :: b2) rfl
          have htl := List.length_pos_iff.mpr htp
          refine ⟨fun l hl n hn => ?_, fun l hl => ?_, by simp [Lev.put] at hpar ⊢; omega, hfew, fun h t3 b3 e => ?_, hdue, by simp, by simp at hlen ⊢; omega⟩
          · rcases List.mem_cons.mp hl with rfl | hl
            · simp [Lev.put] at hn
            · exact hnum l (by simp [hl]) n hn
          · rcases List.mem_cons.mp hl with rfl | hl
            · simp [Lev.put]
            · exact cnt' l (by simp [hl])
          · cases e
            simp [Lev.put]
        · rename_i hz
          rw [if_neg hz] at ht
          split
          · rename_i hb; rw [if_pos hb] at ht; cases ht
          · exact joint (t2 :: b2) (fun l hl => hl) rfl rfl
end K77

set_option Elab.async false
set_option linter.all false
set_option maxRecDepth 100000
set_option maxHeartbeats 1000000
namespace K77
open PySem PySem.Spec PyProof.Rows L2 DL
local macro_rules | `(tactic| walk_at "dl.1") => `(tactic| first
  | with_reducible exact ev_int
  | with_reducible exact ev_str
  | with_reducible exact ev_bl
  | with_reducible exact ev_non
  | with_reducible exact ea_nil
  | with_reducible exact eo_none
  | ((with_reducible refine' ev_var ?_ ?_) <;> rfl)
  | with_reducible refine' ea_cons ?_ ?_
  | with_reducible refine' eo_some ?_
  | with_reducible refine' ev_I0 ?_ ?_
  | with_reducible refine' ev_B0 ?_ ?_
  | with_reducible refine' ev_I ?_ ?_ ?_
  | with_reducible refine' ev_qEqI ?_ ?_
  | with_reducible refine' ev_qNeI ?_ ?_
  | with_reducible refine' ev_qEqS ?_ ?_
  | with_reducible refine' ev_qNeS ?_ ?_
  | with_reducible refine' ev_neg ?_
  | with_reducible refine' ev_addT ?_ ?_ ?_
  | with_reducible refine' ev_sign ?_ ?_
  | with_reducible refine' ev_chI ?_ ?_ (fun _ => ?_)
  | with_reducible refine' et_test ?_
  | with_reducible refine' et_B ?_
  | with_reducible refine' et_and ?_ (fun _ => ?_)
  | with_reducible refine' et_or ?_ (fun _ => ?_)
  | with_reducible refine' et_not ?_
  | with_reducible refine' ev_andV ?_ (fun _ => ?_)
  | with_reducible refine' ev_orV ?_ (fun _ => ?_)
  | with_reducible refine' ev_notV ?_
  | with_reducible refine' ev_abs ?_
  | with_reducible refine' ev_strI ?_ ?_
  | with_reducible refine' ev_lenS ?_ ?_
  | with_reducible refine' ev_isS (ea_cons ?_ (ea_cons ev_raw ea_nil)))
local macro_rules | `(tactic| walk_at "dl") => `(tactic| (repeat' walk_at "dl.1"))
local macro_rules | `(tactic| walk_at "dl.s") => `(tactic| first | assumption | omega | decide | exact trivial)
local macro_rules | `(tactic| walk_at "dls") => `(tactic| (walk_at "dl") <;> (walk_at "dl.s"))
local macro_rules | `(tactic| walk_at "dl.n") => `(tactic| (refine nxt ?_; dsimp only))

/-- the words, one after the other; where one is refused: its place -/
def runM : RM → List Str → Nat → Sum RM Nat
  | m, [], _ => .inl m
  | m, z :: zs, i => if (takeM m z).1 = true then runM (takeM m z).2 zs (i + 1) else .inr i
def readM (ws : List Str) : Sum Fm Nat := match runM rm0 ws 0 with
  | .inr i => .inr i
  | .inl m => if m.due ≠ "joint" ∨ 1 < m.levs.length then .inr ws.length else .inl (m.levs.headD (Lev.new 1)).whole
theorem runM_app : ∀ (xs ys : List Str) (m : RM) (i : Nat), runM m (xs ++ ys) i = match runM m xs i with
    | .inl m' => runM m' ys (i + xs.length)
    | .inr j => .inr j
  | [], ys, m, i => rfl
  | z :: zs, ys, m, i => by
    rw [List.cons_append, runM, runM]
    split
    · rw [runM_app zs ys _ (i + 1), List.length_cons, show i + 1 + zs.length = i + (zs.length + 1) by omega]
    · rfl
theorem pad_len (cs : List Nat) : ((cs.flatMap fun k => if k = 40 then [32, 40, 32] else [k]).flatMap fun k => if k = 41 then [32, 41, 32] else [k]).length ≤ 3 * cs.length := by
  induction cs with
  | nil => simp
  | cons c cs ih =>
    rw [List.flatMap_cons, List.flatMap_append, List.length_append, List.length_cons]
    have : ((if c = 40 then [32, 40, 32] else [c]).flatMap fun k => if k = 41 then [32, 41, 32] else [k]).length ≤ 3 := by
      by_cases h1 : c = 40
      · subst h1; decide
      · rw [if_neg h1]
        by_cases h2 : c = 41
        · subst h2; decide
        · simp [h2]
    omega
theorem pad1_len (cs : List Nat) : (cs.flatMap fun k => if k = 40 then [32, 40, 32] else [k]).length ≤ 3 * cs.length := by
  induction cs with
  | nil => simp
  | cons c cs ih =>
    rw [List.flatMap_cons, List.length_append, List.length_cons]
    by_cases h1 : c = 40
    · rw [if_pos h1]; simp only [List.length_cons, List.length_nil]; omega
    · rw [if_neg h1]; simp only [List.length_cons, List.length_nil]; omega
theorem len_cps (z : Str) : z.length = z.cps.toList.length := by simp [Str.length]
theorem rep1_len (z : Str) : (Txt.replace z "(" " ( ").length ≤ 3 * z.length := by
  rw [len_cps, rep_cps _ _ _ (by decide), len_cps z]
  have := pad1_len z.cps.toList
  rw [← repL_one] at this
  exact this
theorem rep2_len (z : Str) : (Txt.replace (Txt.replace z "(" " ( ") ")" " ) ").length ≤ 3 * z.length := by
  rw [len_cps, rep_cps _ _ _ (by decide), rep_cps _ _ _ (by decide), len_cps z]
  have := pad_len z.cps.toList
  rw [← repL_one, ← repL_one] at this
  exact this
/-- what the written part says of the error -/
structure ExcT (P : Program) (K : PySem.W.Frag) (mg : Str → Option Value) (a : Ads) : Prop where
  sup : ∃ fd, SupC P K mg a.c_InvalidText a.InvalidText_init fd s_InvalidText_init "InvalidText.__init__" ∧ Binds K fd ["self", "at"] []
  ini : PySem.W.findIn K (.ref a.c_InvalidText) "__init__" = some (some (.ref a.InvalidText_init))
  fn : PySem.W.typeIn K (.ref a.InvalidText_init) = some (.type "function")
  g : mg "InvalidText" = some (.ref a.c_InvalidText)
  one : PySem.W.exmOne K (.ref a.c_InvalidText) (.ref a.c_InvalidText) = some true
  no : PySem.W.findIn K (.ref a.c_InvalidText) "at" = some none
  fld : XfC K a.c_InvalidText
theorem supB : SupB s_InvalidText_init "at" "at" where
  body := ⟨_, _, _, _, _, _, _, _, _, _, _, _, rfl, fun _ => ⟨_, rfl⟩⟩
  hd := ⟨_, rfl, rfl⟩
  kind := rfl
  co := rfl
  gen := rfl
  cell := by decide +kernel
  free := by decide +kernel
  l1 := by decide +kernel
  l2 := by decide +kernel
  l3 := by decide +kernel
  l4 := by decide +kernel
  ne := by decide
  nd := by decide
  nc := by decide
def spRead (C : Addr) : Sp := fun vs H Q E => ∃ z : Str, vs = [.str z] ∧ z.length ≤ 25000 ∧ (∀ f, readM (tokens z) = .inl f → ∀ v H', Le H H' → Dq H' v f.enc → Q v H') ∧ ∀ i : Nat, readM (tokens z) = .inr i → ∀ dd H', Le H H' → H dd = none → H' dd = some (.xd [("at", .int (i : Nat))]) → E (.ref C) (some dd) H'
section
variable {P : Program} {w : World} {K : PySem.W.Frag} {mg : Str → Option Value} {base : Heap} {a : Ads}
theorem ok_read_formula (T : Txt K mg a) (X : ExcT P K mg a) : FnOk P w K mg base (L2.CX P w) 6 a.read_formula a.d_read_formula P_read_formula (spRead a.c_InvalidText) := by
  obtain ⟨oc, od, kV, doc, pm, an, cdv, ct, osl, efd, lk, hcd⟩ := T.read_formula.F.ex
  obtain ⟨fdI, supI, bI⟩ := X.sup
  have ok_Exc : FnOk P w K mg base CX0 1 a.InvalidText_init fdI ["self", "at"] (spIni a.c_InvalidText "at") := ini_ok supI supB X.no
  rw [efd] at lk ⊢
  refine fn_ofT lk hcd sc_read_formula (by decide +kernel) (by decide) (fun vs H Q E h => ?_) (fun A outer s H vs Q E hr h => ?_)
  · obtain ⟨z, rfl, _⟩ := h
    rfl
  · obtain ⟨z, rfl, hz, qok, qerr⟩ := h
    have w0 : Wd ⟨[], H⟩ ⟨[], [], [], [.d (.str z), .u, .u, .u, .u]⟩ H (L2.start N_read_formula [.str z]) := wd_start (N := N_read_formula) (ds := [.str z]) (by simp) (fun x hx => by simp at hx) (.cons (.str z) .nil)
    refine ⟨_, (psst_cons (PST.of (ps_if (pt_not (pt_val (pe_callB call_isi (by rfl) T.n_isinstance (by decide +kernel) (pa_cons (pv 0) (pa_cons (pe_bltn (v := .ty "str") (by rfl) T.n_str (by decide +kernel) rfl) pa_nil))))) (pss_one (ps_raise rfl (takes_of rfl rfl rfl rfl) (pmk_oex supI.cls X.ini X.fn ok_Exc (hr.mono (by decide)) bI .nil pass0 (by rfl) X.g (pa_cons (pe_un un_neg pe_int) pa_nil)))) pss_nil))
      (psst_cons (pst_setLcT (i := 1) (own := [("word", 4)]) (g := gName 4) (by rfl) sc_read_formula.nd rfl rfl (sw_true rfl rfl rfl (by decide +kernel)) (pit_list (pet_split (CwR.pet_replT (CwR.pet_replC (pv 0))) pe_str)) (blkOk_by (own := [("word", 4)]) (N := N_read_formula) (sc := defScope s_read_formula) (by decide +kernel)) (fun _ _ _ _ _ => (pg_name (i := 4) sc_read_formula.nd rfl (by first | exact Or.inl rfl | exact Or.inr rfl))) (fun _ _ _ _ _ => pts_one (pt_cmpR do_neS (pv 4) pe_str (nomark _))) (fun _ _ _ _ _ => (pv 4)))
      (PSsT.of (pss_cons (ps_set (i := 2) sc_read_formula.nd rfl (by first | exact Or.inl rfl | exact Or.inr rfl) (pe_make0 T.mk_Reading (ok_Reading_init T) (hr.mono (by decide)) (by rfl) T.mg_Reading T.b_Reading_init .nil pass0))
      (pss_cons (ps_for (passes_of rfl) rfl (pi_enum (by rfl) T.n_enumerate (pa_cons (pv 1) pa_nil)) (pg_tup (by rfl) (pgs_cons (pg_name (i := 3) sc_read_formula.nd rfl (by first | exact Or.inl rfl | exact Or.inr rfl)) (pgs_cons (pg_name (i := 4) sc_read_formula.nd rfl (by first | exact Or.inl rfl | exact Or.inr rfl)) pgs_nil))) (pss_one (ps_if (pt_not (pt_val (pe_meth (pv 2) T.cl_Reading T.Reading_take.m (ok_take T) (hr.mono (by decide)) T.Reading_take.b .nil pass0 (pa_cons (pv 4) pa_nil)))) (pss_one (ps_raise rfl (takes_of rfl rfl rfl rfl) (pmk_oex supI.cls X.ini X.fn ok_Exc (hr.mono (by decide)) bI .nil pass0 (by rfl) X.g (pa_cons (pv 3) pa_nil)))) pss_nil)))
      (pss_cons (ps_if (PW.pt (pw_or (pt_cmpR do_neS (pe_fld (pv 2) rfl) pe_str (nomark _)) (pw_or1 (pt_cmpR op_gt (pe_callB dc_len (by rfl) T.n_len PySem.boot_len (pa_cons (pe_fld (pv 2) rfl) pa_nil)) pe_int (nomark _))))) (pss_one (ps_raise rfl (takes_of rfl rfl rfl rfl) (pmk_oex supI.cls X.ini X.fn ok_Exc (hr.mono (by decide)) bI .nil pass0 (by rfl) X.g (pa_cons (pe_callB dc_len (by rfl) T.n_len PySem.boot_len (pa_cons (pv 1) pa_nil)) pa_nil)))) pss_nil)
      (pss_one (ps_ret (pe_meth0 (pe_ix ix_list (pe_fld (pv 2) rfl) pe_int (fun _ _ => rfl)) T.cl_Level T.Level_whole_part.m (ok_Level_whole T) (hr.mono (by decide)) T.Level_whole_part.b .nil pass0))))))))), ?_⟩
    have l1 := rep1_len z
    have l2 := rep2_len z
    have l3 := PyProof.Rows.split_le (Txt.replace (Txt.replace z "(" " ( ") ")" " ) ") " "
    refine q_if1 w0 (b := false) (et_is (et_not (et_test (ev_isS (ea_cons (ev_var rfl) (ea_cons ev_raw ea_nil))))) rfl) (fun hb => by cases hb) (fun _ H1 w1 => ?_)
    have htok : (tokens z).length ≤ 75002 := Nat.le_trans (List.length_filter_le _ _) (by omega)
    refine q_set w1 (s := .d (.lst (dStrs (tokens z)))) (ev_is (ev_lc (xs := Txt.split (Txt.replace (Txt.replace z "(" " ( ") ")" " ) ") " ") (enc := fun y => Sl.d (.str y)) (p := fun y => !decide (y = ("" : Str))) (f := fun y => .str y) (ev_iS (ei_list (ev_split (ev_repl (ev_repl (ev_var rfl) ?_) ?_) ev_str (by decide) (by omega)))) (by omega) (fun y _ => egc_name (by simp)) (fun y _ => et_test (ev_qNeS (ev_var rfl) ev_str)) (fun y _ _ => ev_var rfl)) rfl) fun H2 σ2 w2 => ?_
    · have e : (" ( " : Str).length = 3 := by decide
      rw [e]; omega
    · have e : (" ) " : Str).length = 3 := by decide
      rw [e]; omega
    refine sq fun x dx hx hdx hne => ⟨x, dx, rfl, upd_same, fun H3 g g1 g2 g3 hR fr fresh => ⟨rfl, ?_⟩⟩
    subst g1
    have fr3 : ∀ b o, b ∉ ([] : List Addr) → H2 b = some o → H3 b = some o := fun b o _ e => by
      have b1 : b ≠ g.r := fun z => by rw [z, hx] at e; cases e
      have b2 : b ≠ dx := fun z => by rw [z, hdx] at e; cases e
      exact fr b o b1 (by rw [upd_ne b1, upd_ne b2]; exact e)
    have fresh3 : ∀ b ∈ g.addrs a.c_Reading a.c_Level, b ∈ ([] : List Addr) ∨ H2 b = none := fun b hb => .inr (by
      rcases fresh b hb with h | h
      · rw [h]; exact hx
      · by_cases h1 : b = g.r
        · rw [h1]; exact hx
        · by_cases h2 : b = dx
          · rw [h2]; exact hdx
          · rwa [upd_ne h1, upd_ne h2] at h)
    have w3 : Wd ⟨[], H⟩ ⟨g.addrs a.c_Reading a.c_Level, [], g.cells a.c_Reading a.c_Level, [.d (.str z), .d (.lst (dStrs (tokens z))), .u, .u, .u]⟩ H3 σ2 := w2.toRd (fun b hb => by simp at hb) hR fr3 fresh3
    have w4 : Wd ⟨[], H⟩ ⟨g.addrs a.c_Reading a.c_Level, [], g.cells a.c_Reading a.c_Level, [.d (.str z), .d (.lst (dStrs (tokens z))), .v (.ref g.r), .u, .u]⟩ H3 (σ2.set 2 (some (.ref g.r))) := w3.set (s := .v (.ref g.r)) rfl 2
    show tSeq _ _ _ (σ2.set 2 (some (.ref g.r))) H3
    refine q_for w4 (ei_enum (ea_cons (ev_var rfl) ea_nil)) (fun i c1 => ∃ (g : RG) (x y : Sl), runM rm0 ((tokens z).take i) 0 = .inl g.m ∧ Run i g.m ∧ c1 = ⟨g.addrs a.c_Reading a.c_Level, [], g.cells a.c_Reading a.c_Level, [.d (.str z), .d (.lst (dStrs (tokens z))), .v (.ref g.r), x, y]⟩) ⟨g, .u, .u, by rw [List.take_zero, g3]; rfl, by rw [g3]; exact run0, rfl⟩ ?_ ?_
    · rintro i s c1 hi ⟨g, x, y, hrun, hok, rfl⟩
      obtain ⟨d, hd, rfl⟩ := enumD_at hi
      obtain ⟨wd, hwd, rfl⟩ : ∃ wd, (tokens z)[i]? = some wd ∧ d = .str wd := by
        rw [dStrs, List.getElem?_map] at hd
        cases hk : (tokens z)[i]? with
        | none => rw [hk] at hd; cases hd
        | some g => rw [hk] at hd; cases hd; exact ⟨g, rfl, rfl⟩
      refine ⟨_, eg_pair, fun G H5 σ5 w5' => ?_⟩
      have w5 : Wd ⟨[], H⟩ ⟨g.addrs a.c_Reading a.c_Level, G, g.cells a.c_Reading a.c_Level, [.d (.str z), .d (.lst (dStrs (tokens z))), .v (.ref g.r), .d (.int (i : Nat)), .d (.str wd)]⟩ H5 σ5 := w5'
      clear w5'
      have hil := (List.getElem?_eq_some_iff.mp hwd).1
      have htk : (tokens z).take (i + 1) = (tokens z).take i ++ [wd] := by rw [List.take_succ, hwd]; rfl
      have hrun2 : runM rm0 ((tokens z).take (i + 1)) 0 = if (takeM g.m wd).1 = true then .inl (takeM g.m wd).2 else .inr i := by
        rw [htk, runM_app, hrun]
        have : ((tokens z).take i).length = i := by rw [List.length_take]; omega
        simp only [runM, this, Nat.zero_add]
      unfold tIfS tNot tB tMeth
      refine (ev_var (i := 2) (s := .v (.ref g.r)) rfl).run w5 fun x6 H6 w6 k6 g6 => ?_
      obtain rfl : x6 = .ref g.r := g6
      obtain ⟨fs, e1, e2, e3⟩ : CellOk _ H6 g.r (rdIns a.c_Reading g) := w6.mO (g.r, rdIns a.c_Reading g) List.mem_cons_self
      refine ⟨g.r, g.dr, fs, rfl, e1, no_look (by rw [e2]; decide), ?_⟩
      refine ea_cons (ev_var (i := 4) rfl) ea_nil _ (Xt.refl _) H6 _ w6 _ fun vs H7 w7 k7 g7 => ?_
      rw [List.append_nil]
      cases g7 with
      | cons a1 r1 =>
        cases r1
        have e4 := SlOk.str a1
        subst e4
        obtain ⟨t, b, hst⟩ : ∃ t b, g.st = t :: b := by
          cases e : g.st with
          | nil => exact absurd (by simp [RG.m, e]) hok.ne
          | cons t b => exact ⟨t, b, rfl⟩
        have hstl : g.st.length ≤ i + 1 := by
          have := hok.len
          simpa [RG.m] using this
        have hwl : wd.length ≤ 100000 := by
          have h1 : wd ∈ tokens z := List.mem_of_getElem? hwd
          have h2 := (List.mem_filter.mp h1).1
          have h3 := PyProof.Rows.part_short h2
          omega
        refine ⟨g, t, b, wd, hst, rfl, w7.rdAt, hok.ok (by omega), hok.due, by omega, hwl, fun H8 g8 h1 h2 h3 h4 h5 h6 => ?_⟩
        have w8 := w7.toRd (fun b hb => hb) h2 h4 h5
        refine ⟨_, rfl, ?_⟩
        cases hb : (takeM g.m wd).1 with
        | false =>
          refine iteT ?_
          rw [hb] at hrun2
          have hread : readM (tokens z) = .inr i := by
            have e5 : tokens z = (tokens z).take (i + 1) ++ (tokens z).drop (i + 1) := (List.take_append_drop _ _).symm
            unfold readM
            rw [e5, runM_app, hrun2]
            rfl
          exact mk_at (H0 := H) (n := (i : Nat)) (fun Q k => (ea_cons (ev_var (i := 3) rfl) ea_nil) _ (Xt.refl _) H8 _ w8 _ fun vs H9 w9 k9 g9 => by
            cases g9 with
            | cons b1 r1 =>
              cases r1
              have e6 := SlOk.int b1
              subst e6
              exact k H9 fun b o e => w9.fr b o (by simp) e) fun dd Hf le h0 hd => qerr i hread dd Hf le h0 hd
        | true =>
          refine iteF ?_
          rw [hb, if_pos rfl] at hrun2
          refine ⟨_, ⟨g8, .d (.int (i : Nat)), .d (.str wd), by rw [hrun2, h3], by rw [h3]; exact hok.step wd hb, rfl⟩, ?_⟩
          rw [h1]
          exact w8
    · rintro c1 H5 σ5 ⟨g, x, y, hrun, hok, rfl⟩ w5
      have hlen : (enumD (dStrs (tokens z))).length = (tokens z).length := by simp [enumD, dStrs]
      rw [hlen] at hok hrun
      rw [List.take_length] at hrun
      have hread : readM (tokens z) = if g.due ≠ "joint" ∨ 1 < g.st.length then .inr (tokens z).length else .inl (g.m.levs.headD (Lev.new 1)).whole := by
        unfold readM
        rw [hrun]
        show (if g.m.due ≠ "joint" ∨ 1 < g.m.levs.length then _ else _) = _
        rw [show g.m.levs.length = g.st.length by simp [RG.m]]
        rfl
      have eLv : ∀ {G : List (V × Dt)}, EvP ⟨[], H⟩ ⟨g.addrs a.c_Reading a.c_Level, G, g.cells a.c_Reading a.c_Level, [.d (.str z), .d (.lst (dStrs (tokens z))), .v (.ref g.r), x, y]⟩ (tFld K (tVar 2) "levels") (.v (.ref g.lv)) := ev_fldC (k := 0) (j := 0) (ev_var (i := 2) rfl) rfl T.cl_Reading T.no_Reading_levels rfl (by decide) rfl
      have hll : (g.st.reverse.map fun x => Sl.v (.ref x.p)).length = g.st.length := by simp
      refine q_if1 w5 (b := !decide (g.due = "joint") || decide (((g.st.reverse.map fun x => Sl.v (.ref x.p)).length : Int) > 1)) (et_or (et_test (ev_qNeS (ev_fldC (k := 0) (j := 2) (ev_var (i := 2) rfl) rfl T.cl_Reading T.no_Reading_due rfl (by decide) rfl) ev_str)) fun _ => et_test (ev_B0 (ev_lenC (k := 1) (ea_cons eLv ea_nil) rfl) ev_int)) (fun hb H6 w6 => ?_) fun hb H6 w6 => ?_
      · rw [if_pos (by
          simp only [Bool.or_eq_true, Bool.not_eq_true', decide_eq_false_iff_not, decide_eq_true_eq, hll] at hb
          rcases hb with h | h
          · exact .inl h
          · exact .inr (by omega))] at hread
        exact mk_at (H0 := H) (n := ((tokens z).length : Nat)) (fun Q k => (ea_cons (ev_is (s' := .d (.int ((tokens z).length : Nat))) (ev_len (ea_cons (ev_var (i := 1) rfl) ea_nil)) (by simp [dStrs])) ea_nil) _ (Xt.refl _) H6 _ w6 _ fun vs H9 w9 k9 g9 => by
            cases g9 with
            | cons b1 r1 =>
              cases r1
              have e6 := SlOk.int b1
              subst e6
              exact k H9 fun b o e => w9.fr b o (by simp) e) fun dd Hf le h0 hd => qerr _ hread dd Hf le h0 hd
      · simp only [Bool.or_eq_false_iff, Bool.not_eq_false', decide_eq_false_iff_not, decide_eq_true_eq, hll] at hb
        obtain ⟨hj, hl1⟩ := hb
        rw [if_neg (by rintro (h | h); exact h hj; omega)] at hread
        obtain ⟨r, dr, lv, nm, due, names, st⟩ := g
        obtain ⟨t, rfl⟩ : ∃ t, st = [t] := by
          match st, hok.ne, hl1 with
          | [], h, _ => exact absurd rfl h
          | [t], _, _ => exact ⟨t, rfl⟩
          | _ :: _ :: _, _, h => simp at h; omega
        have htop : t.l.parts ≠ [] := hok.top hj t.l [] rfl
        refine s_ret w6 (s := .d t.l.whole.enc) (ev_lev0 (i0 := 3) (i1 := 4) (i2 := 5) (l := t.l) (f := fun l => l.whole.enc) rfl rfl rfl (ev_ixC (k := 1) eLv ev_int rfl rfl) (fun _ => htop) (by decide) (plain_fm _)) fun v H7 w7 hv => ?_
        exact qok _ hread v H7 (fun b o e => w7.fr b o (by simp) e) (Dq.mono off_le hv)
end
end K77

set_option Elab.async false
set_option linter.all false
set_option maxRecDepth 100000
set_option maxHeartbeats 1000000
namespace K77
open PySem PySem.Spec PyProof.Rows L2 DL
local macro_rules | `(tactic| walk_at "dl.1") => `(tactic| first
  | with_reducible exact ev_int
  | with_reducible exact ev_str
  | with_reducible exact ev_bl
  | with_reducible exact ev_non
  | with_reducible exact ea_nil
  | with_reducible exact eo_none
  | ((with_reducible refine' ev_var ?_ ?_) <;> rfl)
  | with_reducible refine' ea_cons ?_ ?_
  | with_reducible refine' eo_some ?_
  | with_reducible refine' ev_I0 ?_ ?_
  | with_reducible refine' ev_B0 ?_ ?_
  | with_reducible refine' ev_I ?_ ?_ ?_
  | with_reducible refine' ev_qEqI ?_ ?_
  | with_reducible refine' ev_qNeI ?_ ?_
  | with_reducible refine' ev_qEqS ?_ ?_
  | with_reducible refine' ev_qNeS ?_ ?_
  | with_reducible refine' ev_neg ?_
  | with_reducible refine' ev_addT ?_ ?_ ?_
  | with_reducible refine' ev_sign ?_ ?_
  | with_reducible refine' ev_chI ?_ ?_ (fun _ => ?_)
  | with_reducible refine' et_test ?_
  | with_reducible refine' et_B ?_
  | with_reducible refine' et_and ?_ (fun _ => ?_)
  | with_reducible refine' et_or ?_ (fun _ => ?_)
  | with_reducible refine' et_not ?_
  | with_reducible refine' ev_andV ?_ (fun _ => ?_)
  | with_reducible refine' ev_orV ?_ (fun _ => ?_)
  | with_reducible refine' ev_notV ?_
  | with_reducible refine' ev_abs ?_
  | with_reducible refine' ev_strI ?_ ?_
  | with_reducible refine' ev_lenS ?_ ?_
  | with_reducible refine' ev_isS (ea_cons ?_ (ea_cons ev_raw ea_nil)))
local macro_rules | `(tactic| walk_at "dl") => `(tactic| (repeat' walk_at "dl.1"))
local macro_rules | `(tactic| walk_at "dl.s") => `(tactic| first | assumption | omega | decide | exact trivial)
local macro_rules | `(tactic| walk_at "dls") => `(tactic| (walk_at "dl") <;> (walk_at "dl.s"))
local macro_rules | `(tactic| walk_at "dl.n") => `(tactic| (refine nxt ?_; dsimp only))

/-- what _law_wrong hands back -/
def wrongM (ws : List Str) : Dt := match readM ws with
  | .inl _ => .non
  | .inr i => .int (i : Nat)
section
variable {P : Program} {w : World} {K : PySem.W.Frag} {mg : Str → Option Value} {base : Heap} {a : Ads}
abbrev spWrong : Sp := SpP (fun z : Str => [Dt.str z]) (fun z => z.length ≤ 25000) (fun z d => d = wrongM (tokens z))
theorem ok_wrong (T : Txt K mg a) (X : ExcT P K mg a) : FnOk P w K mg base CX0 7 a.wrong a.d_wrong P_wrong spWrong := by
  refine T.wrong.F.ok sc_wrong (fun vs H Q E h => ?_) (fun cdv A outer s H vs Q E hr h => ?_)
  · obtain ⟨A, z, _, _, hd, _⟩ := h
    exact hd.length
  · obtain ⟨A', z, nA, lv, hd, hz, q⟩ := h
    have w0 : Wd ⟨[], H⟩ ⟨A', [], [], [.d (.str z), .u]⟩ H (L2.start N_wrong vs) := wd_start (N := N_wrong) nA lv hd
    refine ⟨_, (pss_cons (ps_try_as (i := 1) (tb := fun W => tDrop (tCallS (spRead a.c_InvalidText) (WE W) (tCons (tVar 0) tNil))) (ts := fun a0 cls d => tRet (tXf a0 cls d a.c_InvalidText "at" (tVar 1))) (Wout := fun _ _ _ _ => False) rfl rfl sc_wrong.nd rfl rfl ⟨rfl, by decide, Or.inl X.g⟩ takes0
      (fun W pn xe tk _ => pss_one (ps_expr (by exact (pe_callS (ok_read_formula T X) (hr.mono (by decide)) rfl T.read_formula.g T.read_formula.F.kp T.read_formula.b (fun σ => passAt tk σ) (by exact pa_cons (pv 0) pa_nil)))))
      (fun a0 oe cls d pn hz hf => pss_one (ps_ret (by exact (pe_xf X.fld X.no hz hf (pv 1))))))
      (pss_one (ps_ret pe_non))), ?_⟩
    refine sq ?_
    dsimp only
    unfold tDrop tCallS
    refine ea_cons (ev_var (i := 0) rfl) ea_nil _ (Xt.refl _) H _ w0 _ fun vs1 H1 w1 k1 g1 => ?_
    cases g1 with
    | cons a1 r1 =>
      cases r1
      have e4 := SlOk.str a1
      subst e4
      have le0 : Le H H1 := fun b o e => w1.fr b o (by simp) e
      refine ⟨z, rfl, hz, fun f hf v H2 le hv => ?_, fun i hi dd H2 le h0 hd2 => ⟨true, X.one, fun _ a0 ha0 => ?_, fun e => by cases e⟩⟩
      · have e : wrongM (tokens z) = .non := by unfold wrongM; rw [hf]
        exact q .non H2 .non e.symm (le0.trans le) .non
      · have e : wrongM (tokens z) = .int (i : Nat) := by unfold wrongM; rw [hi]
        have hlen : 1 < (L2.start N_wrong vs).length := by
          have := (w0.sl.length)
          rw [← this]
          show 1 < 2
          decide
        refine ⟨.ref a0, by rw [List.getElem?_set_self hlen], rfl, rfl, dd, [("at", .int (i : Nat))], .int (i : Nat), rfl, hd2, by simp [List.lookup], ?_⟩
        exact q _ H2 _ e.symm (le0.trans le) (.int _)
end
end K77

set_option Elab.async false
set_option linter.all false
set_option maxRecDepth 100000
set_option maxHeartbeats 1000000
/-! the parser on the words that say a formula -/
namespace K77
open PySem PySem.Spec PyProof.Rows L2 DL
/-- a kind's name that the laws use -/
structure OkN (z : Str) : Prop where
  nm : isName z = true
  am : ¬ amount z > 1
  lp : z ≠ "("
theorem num_word : ∀ n : Fin 61, 2 ≤ n.val → amount ((toString ((n.val : Nat) : Int) : String) : Str) = (n.val : Int) ∧ (((toString ((n.val : Nat) : Int) : String) : Str) ≠ "(") := by decide +kernel
theorem num_word' {n : Int} (h1 : 1 < n) (h2 : n ≤ 60) : amount ((toString n : String) : Str) = n ∧ (((toString n : String) : Str) ≠ "(") := by
  have := num_word ⟨n.toNat, by omega⟩ (by show 2 ≤ n.toNat; omega)
  rwa [show ((n.toNat : Nat) : Int) = n by omega] at this
theorem runM_one {m m' : RM} {z : Str} {i : Nat} (h : takeM m z = (true, m')) : runM m [z] i = .inl m' := by
  rw [runM, h, if_pos rfl, runM]
theorem runM_bad {m m' : RM} {z : Str} {i : Nat} {zs : List Str} (h : takeM m z = (false, m')) : runM m (z :: zs) i = .inr i := by
  rw [runM, h, if_neg (by simp)]
theorem runM_seq {xs ys : List Str} {m m' m'' : RM} (h1 : ∀ i, runM m xs i = .inl m') (h2 : ∀ i, runM m' ys i = .inl m'') (i : Nat) : runM m (xs ++ ys) i = .inl m'' := by
  rw [runM_app, h1 i]
  exact h2 _
theorem tk_part (N : List Str) (l : List Lev) (z : Str) : takeM ⟨"part", N, l⟩ z = begM ⟨"part", N, l⟩ z := by
  show (if ("part" : Str) = "of" then _ else if ("part" : Str) = "part" then _ else _) = _
  rw [if_neg (by decide), if_pos rfl]
theorem tk_joint (N : List Str) (l : List Lev) (z : Str) : takeM ⟨"joint", N, l⟩ z = goM ⟨"joint", N, l⟩ z := by
  show (if ("joint" : Str) = "of" then _ else if ("joint" : Str) = "part" then _ else _) = _
  rw [if_neg (by decide), if_neg (by decide)]
theorem take_lp (N : List Str) (t : Lev) (b : List Lev) : takeM ⟨"part", N, t :: b⟩ "(" = (true, ⟨"part", N, Lev.new t.weight :: t :: b⟩) := by
  rw [tk_part]
  unfold begM
  dsimp only
  rw [if_pos rfl]
theorem take_rp (N : List Str) (t t2 : Lev) (b : List Lev) : takeM ⟨"joint", N, t :: t2 :: b⟩ ")" = (true, ⟨"joint", N, t2.put t.whole :: b⟩) := by
  rw [tk_joint]
  unfold goM
  dsimp only
  rw [if_pos rfl]
theorem take_kind {N : List Str} {t : Lev} {b : List Lev} {z : Str} (hz : OkN z) (h1 : z ∉ N) (h2 : N.length < 8) : takeM ⟨"part", N, t :: b⟩ z = (true, ⟨"joint", N ++ [z], t.put (.kind z) :: b⟩) := by
  rw [tk_part]
  show (if z = "(" then _ else if amount z > 1 then _ else if isName z = false ∨ z ∈ N ∨ 8 ≤ N.length then _ else _) = _
  rw [if_neg hz.lp, if_neg hz.am, if_neg]
  rintro (h | h | h)
  · rw [hz.nm] at h; cases h
  · exact h1 h
  · omega
theorem take_num {N : List Str} {t : Lev} {b : List Lev} {n : Int} (h1 : 1 < n) (h2 : n ≤ 60) (h3 : t.weight * n ≤ 60) : takeM ⟨"part", N, t :: b⟩ ((toString n : String) : Str) = (true, ⟨"of", N, ⟨t.above, t.word, t.parts, t.nums ++ [n]⟩ :: b⟩) := by
  obtain ⟨e1, e2⟩ := num_word' h1 h2
  rw [tk_part]
  show (if ((toString n : String) : Str) = "(" then _ else if amount ((toString n : String) : Str) > 1 then _ else _) = _
  rw [if_neg e2, e1, if_pos h1]
  have : (⟨t.above, t.word, t.parts, t.nums ++ [n]⟩ : Lev).weight = t.weight * n := by
    unfold Lev.weight
    rw [List.foldl_append]
    rfl
  rw [this, decide_eq_true h3]
theorem take_of (N : List Str) (l : List Lev) : takeM ⟨"of", N, l⟩ "of" = (true, ⟨"part", N, l⟩) := by
  show (if ("of" : Str) = "of" then _ else _) = _
  rw [if_pos rfl]
  rfl
theorem take_joint {N : List Str} {t : Lev} {b : List Lev} {w : Str} (hw : w = "and" ∨ w = "or") (ht : t.word = "" ∨ t.word = w) : takeM ⟨"joint", N, t :: b⟩ w = (true, ⟨"part", N, ⟨t.above, w, t.parts, t.nums⟩ :: b⟩) := by
  rw [tk_joint]
  have hno : ¬ ((w ≠ "and" ∧ w ≠ "or") ∨ (t.word ≠ "" ∧ t.word ≠ w)) := by
    rintro (⟨h1, h2⟩ | ⟨h1, h2⟩)
    · rcases hw with h | h
      · exact h1 h
      · exact h2 h
    · rcases ht with h | h
      · exact h1 h
      · exact h2 h
  cases b with
  | nil =>
    show (if (w ≠ "and" ∧ w ≠ "or") ∨ (t.word ≠ "" ∧ t.word ≠ w) then _ else _) = _
    rw [if_neg hno]
  | cons t2 b =>
    have hr : w ≠ ")" := by rcases hw with rfl | rfl <;> decide
    show (if w = ")" then _ else if (w ≠ "and" ∧ w ≠ "or") ∨ (t.word ≠ "" ∧ t.word ≠ w) then _ else _) = _
    rw [if_neg hr, if_neg hno]
/-- what is asked of the state ahead of a formula -/
structure Cond (N : List Str) (w : Int) (f : Fm) : Prop where
  fit : ∃ m, f.fits m ∧ w * m ≤ 60
  pos : 0 < w
  nd : (N ++ f.leaves).Nodup
  few : (N ++ f.leaves).length ≤ 8
  ok : ∀ z ∈ f.leaves, OkN z
structure CondL (N : List Str) (w : Int) (fs : List Fm) : Prop where
  fit : ∃ m, (∀ f ∈ fs, f.fits m) ∧ w * m ≤ 60
  pos : 0 < w
  nd : (N ++ Fm.leavesL fs).Nodup
  few : (N ++ Fm.leavesL fs).length ≤ 8
  ok : ∀ z ∈ Fm.leavesL fs, OkN z
def P1 (f : Fm) (ws : List Str) : Prop := ∀ N t b, Cond N t.weight f → ∀ i, runM ⟨"part", N, t :: b⟩ ws i = .inl ⟨"joint", N ++ f.leaves, t.put f :: b⟩
def P2 (f : Fm) (ws : List Str) : Prop := ∀ N w b, Cond N w f → ∃ t1, t1.whole = f ∧ ∀ i, runM ⟨"part", N, Lev.new w :: b⟩ ws i = .inl ⟨"joint", N ++ f.leaves, t1 :: b⟩
theorem new_weight (w : Int) : (Lev.new w).weight = w := rfl
theorem put_whole {w : Int} {f : Fm} : ((Lev.new w).put f).whole = f := rfl
theorem P1.two {f : Fm} {ws : List Str} (h : P1 f ws) : P2 f ws := fun N w b hc => ⟨(Lev.new w).put f, put_whole, h N (Lev.new w) b hc⟩
theorem par_succ (k : Nat) (ws : List Str) : par (k + 1) ws = [lpS] ++ par k ws ++ [rpS] := by
  unfold par
  rw [List.replicate_succ, List.replicate_succ']
  simp
theorem P2.paren1 {f : Fm} {ws : List Str} (h : P2 f ws) : P1 f ([lpS] ++ ws ++ [rpS]) := fun N t b hc i => by
  obtain ⟨t1, e, hr⟩ := h N t.weight (t :: b) hc
  refine runM_seq (runM_seq (fun i => runM_one (take_lp N t b)) hr) (fun i => ?_) i
  have := runM_one (i := i) (take_rp (N ++ f.leaves) t1 t b)
  rwa [e] at this
theorem P2.pars {f : Fm} {ws : List Str} (h : P2 f ws) : ∀ k, P2 f (par k ws)
  | 0 => by rw [show par 0 ws = ws by simp [par]]; exact h
  | k + 1 => by rw [par_succ]; exact (P2.paren1 (P2.pars h k)).two
theorem P1.pars {f : Fm} {ws : List Str} (h : P1 f ws) : ∀ k, P1 f (par k ws)
  | 0 => by rw [show par 0 ws = ws by simp [par]]; exact h
  | k + 1 => by rw [par_succ]; exact P2.paren1 (P2.pars h.two k)
theorem wrap_snoc (ns : List Int) (n : Int) (f : Fm) : wrap (ns ++ [n]) f = wrap ns (.many n f) := by simp [wrap]
mutual
theorem parse {on : Bool} : ∀ {b : Bool} {f : Fm} {ws : List Str}, Says on b f ws → (b = true → P1 f ws) ∧ P2 f ws
  | b, _, _, @Says.kind _ _ z k _ => by
    have h : P1 (.kind z) [z] := fun N t b hc i => runM_one (take_kind (hc.ok z (by simp [Fm.leaves])) (fun hz => by
      have := hc.nd
      rw [List.nodup_append] at this
      exact this.2.2 z hz z (by simp [Fm.leaves]) rfl) (by
      have := hc.few
      simp [Fm.leaves] at this
      omega))
    exact ⟨fun _ => h.pars k, (h.pars k).two⟩
  | b, _, _, @Says.many _ _ n f ws k _ s => by
    have ih := (parse s).1 rfl
    have h : P1 (.many n f) ([((toString n : String) : Str), "of"] ++ ws) := fun N t b hc i => by
      obtain ⟨m, ⟨f1, f2, f3⟩, hm⟩ := hc.fit
      have hp := hc.pos
      have e1 : t.weight * n ≤ t.weight * m := Int.mul_le_mul_of_nonneg_left f2 (by omega)
      have e2 : n ≤ t.weight * n := by
        have := Int.mul_le_mul_of_nonneg_right (show 1 ≤ t.weight by omega) (show 0 ≤ n by omega)
        omega
      have hw : (⟨t.above, t.word, t.parts, t.nums ++ [n]⟩ : Lev).weight = t.weight * n := by
        unfold Lev.weight
        rw [List.foldl_append]
        rfl
      have h1 : ∀ i, runM ⟨"part", N, t :: b⟩ [((toString n : String) : Str), "of"] i = .inl ⟨"part", N, ⟨t.above, t.word, t.parts, t.nums ++ [n]⟩ :: b⟩ := fun i => by
        rw [show ([((toString n : String) : Str), "of"] : List Str) = ([((toString n : String) : Str)] : List Str) ++ (["of"] : List Str) from rfl]
        exact runM_seq (fun i => runM_one (take_num f1 (by omega) (by omega))) (fun i => runM_one (take_of _ _)) i
      have h2 := ih N ⟨t.above, t.word, t.parts, t.nums ++ [n]⟩ b ⟨⟨m / n, f3, by
        rw [hw, Int.mul_assoc]
        have : n * (m / n) ≤ m := Int.mul_ediv_self_le (by omega)
        have := Int.mul_le_mul_of_nonneg_left this (show 0 ≤ t.weight by omega)
        omega⟩, by rw [hw]; exact Int.mul_pos hp (by omega), hc.nd, hc.few, hc.ok⟩
      have e3 : (⟨t.above, t.word, t.parts, t.nums ++ [n]⟩ : Lev).put f = t.put (.many n f) := by
        unfold Lev.put
        rw [wrap_snoc]
      rw [e3] at h2
      exact runM_seq h1 h2 i
    exact ⟨fun _ => h.pars k, (h.pars k).two⟩
  | b, _, _, @Says.join _ _ w fs wss k _ s => by
    have h : P2 (.join w fs) (weave w wss) := fun N w0 b hc => by
      obtain ⟨m, ⟨hw, hlen, hf⟩, hm⟩ := hc.fit
      obtain ⟨f1, fs', rfl⟩ : ∃ f1 fs', fs = f1 :: fs' := by
        cases fs with
        | nil => simp at hlen
        | cons f1 fs' => exact ⟨f1, fs', rfl⟩
      cases s with
      | @cons _ _ ws1 wss' s1 sr =>
        have hfl := Fm.fitsL_all.mp hf
        have hnd := hc.nd
        have hfew := hc.few
        have e0 : (Fm.join w (f1 :: fs')).leaves = f1.leaves ++ Fm.leavesL fs' := rfl
        rw [e0, ← List.append_assoc] at hnd hfew
        have h1 := (parse s1).1 rfl N (Lev.new w0) b ⟨⟨m, hfl f1 (by simp), hm⟩, hc.pos, (List.nodup_append.mp hnd).1, by rw [List.length_append] at hfew; omega, fun z hz => hc.ok z (by rw [e0]; exact List.mem_append_left _ hz)⟩
        have h2 := parseL sr hw (N ++ f1.leaves) w0 "" [f1] b (.inl rfl) ⟨⟨m, fun g hg => hfl g (by simp [hg]), hm⟩, hc.pos, hnd, hfew, fun z hz => hc.ok z (by rw [e0]; exact List.mem_append_right _ hz)⟩
        have hne : fs' ≠ [] := by intro e; subst e; simp at hlen
        refine ⟨⟨w0, w, f1 :: fs', []⟩, ?_, fun i => ?_⟩
        · unfold Lev.whole
          rw [if_neg (show ¬ w = "" from by rcases hw with rfl | rfl <;> decide)]
        · have e1 : weave w (ws1 :: wss') = ws1 ++ (wss'.map fun x => w :: x).flatten := by simp [weave]
          rw [e1, e0, ← List.append_assoc]
          have h3 := runM_seq h1 h2 i
          rw [if_neg hne] at h3
          exact h3
    cases b with
    | false => exact ⟨fun e => (by cases e), h.pars k⟩
    | true =>
      have h1 : P1 (.join w fs) ([lpS] ++ weave w wss ++ [rpS]) := h.paren1
      exact ⟨fun _ => h1.pars k, (h1.pars k).two⟩
theorem parseL {on : Bool} : ∀ {fs : List Fm} {wss : List (List Str)}, SaysL on fs wss → ∀ {w : Str}, (w = "and" ∨ w = "or") → ∀ (N : List Str) (w0 : Int) (wd : Str) (ps : List Fm) (b : List Lev), (wd = "" ∨ wd = w) → CondL N w0 fs → ∀ i, runM ⟨"joint", N, ⟨w0, wd, ps, []⟩ :: b⟩ ((wss.map fun x => w :: x).flatten) i = .inl ⟨"joint", N ++ Fm.leavesL fs, ⟨w0, if fs = [] then wd else w, ps ++ fs, []⟩ :: b⟩
  | _, _, .nil, w, hw, N, w0, wd, ps, b, hwd, hc, i => by
    simp [runM, Fm.leavesL]
  | _, _, @SaysL.cons _ f fs ws wss s r, w, hw, N, w0, wd, ps, b, hwd, hc, i => by
    obtain ⟨m, hf, hm⟩ := hc.fit
    have hnd := hc.nd
    have hfew := hc.few
    rw [Fm.leavesL, ← List.append_assoc] at hnd hfew
    have h1 := (parse s).1 rfl N ⟨w0, w, ps, []⟩ b ⟨⟨m, hf f (by simp), hm⟩, hc.pos, (List.nodup_append.mp hnd).1, by rw [List.length_append] at hfew; omega, fun z hz => hc.ok z (by rw [Fm.leavesL]; exact List.mem_append_left _ hz)⟩
    have h2 := parseL r hw (N ++ f.leaves) w0 w (ps ++ [f]) b (.inr rfl) ⟨⟨m, fun g hg => hf g (by simp [hg]), hm⟩, hc.pos, hnd, hfew, fun z hz => hc.ok z (by rw [Fm.leavesL]; exact List.mem_append_right _ hz)⟩
    have h0 : ∀ i, runM ⟨"joint", N, ⟨w0, wd, ps, []⟩ :: b⟩ [w] i = .inl ⟨"part", N, ⟨w0, w, ps, []⟩ :: b⟩ := fun i => runM_one (take_joint hw hwd)
    have h3 := runM_seq h0 (runM_seq h1 h2) i
    have e1 : (((ws :: wss).map fun x => w :: x).flatten) = [w] ++ (ws ++ (wss.map fun x => w :: x).flatten) := by simp
    rw [e1, h3]
    simp [Fm.leavesL]
end
end K77

set_option Elab.async false
set_option linter.all false
set_option maxRecDepth 100000
set_option maxHeartbeats 1000000
namespace K77
open PySem PySem.Spec PyProof.Rows L2 DL
theorem lp_run (N : List Str) (w : Int) : ∀ (k : Nat) (t : Lev) (b : List Lev), t.weight = w → ∀ i, runM ⟨"part", N, t :: b⟩ (List.replicate k lpS) i = .inl ⟨"part", N, List.replicate k (Lev.new w) ++ t :: b⟩
  | 0, t, b, _, i => rfl
  | k + 1, t, b, hw, i => by
    rw [List.replicate_succ, ← List.singleton_append]
    have h1 : ∀ i, runM ⟨"part", N, t :: b⟩ [lpS] i = .inl ⟨"part", N, Lev.new w :: t :: b⟩ := fun i => by
      have := runM_one (i := i) (take_lp N t b)
      rwa [hw] at this
    have h2 := fun i => lp_run N w k (Lev.new w) (t :: b) rfl i
    have e : List.replicate k (Lev.new w) ++ Lev.new w :: t :: b = List.replicate (k + 1) (Lev.new w) ++ t :: b := by
      rw [List.replicate_succ', List.append_assoc]
      rfl
    rw [e] at h2
    exact runM_seq h1 h2 i
theorem rp_run (N : List Str) (f : Fm) (w : Int) : ∀ (j n : Nat) (t : Lev), j ≤ n → t.whole = f → ∃ t' : Lev, t'.whole = f ∧ (0 < j → t'.word = ("" : Str)) ∧ ∀ i, runM ⟨"joint", N, t :: List.replicate n (Lev.new w)⟩ (List.replicate j rpS) i = .inl ⟨"joint", N, t' :: List.replicate (n - j) (Lev.new w)⟩
  | 0, n, t, _, ht => ⟨t, ht, fun h => by omega, fun i => rfl⟩
  | j + 1, n + 1, t, hj, ht => by
    obtain ⟨t', h1, h2, h3⟩ := rp_run N f w j n ((Lev.new w).put t.whole) (by omega) (by rw [put_whole, ht])
    refine ⟨t', h1, fun _ => ?_, fun i => ?_⟩
    · rcases Nat.eq_zero_or_pos j with hj0 | hp
      · subst hj0
        have e := Sum.inl.inj (h3 0)
        have e2 : ((Lev.new w).put t.whole) = t' := (List.cons.inj (congrArg RM.levs e)).1
        rw [← e2]
        rfl
      · exact h2 hp
    · rw [List.replicate_succ (n := n), show List.replicate (j + 1) rpS = [rpS] ++ List.replicate j rpS from rfl]
      have := runM_seq (fun i => runM_one (take_rp N t (Lev.new w) (List.replicate n (Lev.new w)))) h3 i
      rw [this, show n + 1 - (j + 1) = n - j by omega]
/-- behind so many (, the words, and so many ) -/
theorem cut_state {f : Fm} {ws : List Str} (hP : P2 f ws) (hc : Cond [] 1 f) {many j : Nat} (hj : j ≤ many) : ∃ t' : Lev, t'.whole = f ∧ (0 < j → t'.word = ("" : Str)) ∧ ∀ i, runM rm0 (List.replicate many lpS ++ ws ++ List.replicate j rpS) i = .inl ⟨"joint", f.leaves, t' :: List.replicate (many - j) (Lev.new 1)⟩ := by
  obtain ⟨t1, h1, h2⟩ := hP [] 1 (List.replicate many (Lev.new 1)) hc
  obtain ⟨t', h3, h4, h5⟩ := rp_run f.leaves f 1 j many t1 hj h1
  refine ⟨t', h3, h4, fun i => ?_⟩
  have h0 := fun i => lp_run [] 1 many (Lev.new 1) [] rfl i
  have e : List.replicate many (Lev.new 1) ++ [Lev.new 1] = Lev.new 1 :: List.replicate many (Lev.new 1) := by rw [← List.replicate_succ', List.replicate_succ]
  rw [e] at h0
  rw [List.nil_append] at h2
  exact runM_seq (runM_seq h0 h2) h5 i
theorem readM_bad {ws : List Str} {i : Nat} (h : runM rm0 ws 0 = .inr i) : readM ws = .inr i := by
  unfold readM
  rw [h]
theorem readM_ok {ws : List Str} {N : List Str} {t : Lev} (h : runM rm0 ws 0 = .inl ⟨"joint", N, [t]⟩) : readM ws = .inl t.whole := by
  unfold readM
  rw [h]
  show (if ("joint" : Str) ≠ "joint" ∨ 1 < 1 then _ else _) = _
  rw [if_neg (by simp)]
  rfl
theorem readM_open {ws : List Str} {N : List Str} {t : Lev} {b : List Lev} (h : runM rm0 ws 0 = .inl ⟨"joint", N, t :: b⟩) (hb : 0 < b.length) : readM ws = .inr ws.length := by
  unfold readM
  rw [h]
  show (if ("joint" : Str) ≠ "joint" ∨ 1 < (t :: b).length then _ else _) = _
  rw [if_pos (.inr (by rw [List.length_cons]; omega))]
theorem joint_bad {N : List Str} {t : Lev} {b : List Lev} {z : Str} (h1 : z ≠ ")" ∨ b = []) (h2 : z ≠ "and") (h3 : z ≠ "or") : takeM ⟨"joint", N, t :: b⟩ z = (false, ⟨"joint", N, t :: b⟩) := by
  rw [tk_joint]
  cases b with
  | nil =>
    unfold goM
    dsimp only
    rw [if_pos (.inl ⟨h2, h3⟩)]
  | cons t2 b =>
    have h4 : z ≠ ")" := h1.elim id fun e => by cases e
    unfold goM
    dsimp only
    rw [if_neg h4, if_pos (.inl ⟨h2, h3⟩)]
section
variable {f : Fm} {ws : List Str} {many j : Nat}
theorem read_par (hP : P2 f ws) (hc : Cond [] 1 f) : readM (par many ws) = .inl f := by
  obtain ⟨t', h1, _, h2⟩ := cut_state hP hc (Nat.le_refl many)
  have h3 := h2 0
  rw [Nat.sub_self] at h3
  have := readM_ok h3
  rwa [h1] at this
theorem read_self (hP : P2 f ws) (hc : Cond [] 1 f) : readM ws = .inl f := by
  have := read_par (many := 0) hP hc
  rwa [show par 0 ws = ws by simp [par]] at this
/-- a ) too many -/
theorem read_more (hP : P2 f ws) (hc : Cond [] 1 f) : readM (par many ws ++ [rpS]) = .inr (par many ws).length := by
  obtain ⟨t', h1, _, h2⟩ := cut_state hP hc (Nat.le_refl many)
  refine readM_bad ?_
  rw [runM_app, show par many ws = List.replicate many lpS ++ ws ++ List.replicate many rpS from rfl, h2 0]
  rw [Nat.sub_self, List.replicate_zero]
  dsimp only
  rw [runM_bad (joint_bad (.inr rfl) (by decide) (by decide)), Nat.zero_add]
/-- cut off within the ) -/
theorem read_cut (hP : P2 f ws) (hc : Cond [] 1 f) (hj : j < many) : readM (List.replicate many lpS ++ ws ++ List.replicate j rpS) = .inr (many + ws.length + j) := by
  obtain ⟨t', h1, _, h2⟩ := cut_state hP hc (Nat.le_of_lt hj)
  rw [readM_open (h2 0) (by rw [List.length_replicate]; omega)]
  simp [Nat.add_assoc]
/-- then x1 -/
theorem read_cutx (hP : P2 f ws) (hc : Cond [] 1 f) (hj : j < many) : readM (List.replicate many lpS ++ ws ++ List.replicate j rpS ++ (["x1"] : List Str)) = .inr (many + ws.length + j) := by
  obtain ⟨t', h1, _, h2⟩ := cut_state hP hc (Nat.le_of_lt hj)
  refine readM_bad ?_
  rw [runM_app, h2 0]
  dsimp only
  rw [runM_bad (joint_bad (.inl (by decide)) (by decide) (by decide))]
  simp [Nat.add_assoc]
theorem read_none : readM (List.replicate many lpS ++ [rpS]) = .inr many := by
  refine readM_bad ?_
  rw [runM_app, show rm0 = ⟨"part", [], Lev.new 1 :: []⟩ from rfl, lp_run [] 1 many (Lev.new 1) [] rfl 0]
  dsimp only
  have h : ∀ l : List Lev, l ≠ [] → takeM ⟨"part", [], l⟩ rpS = (false, ⟨"part", [], l⟩) := fun l hl => by
    cases l with
    | nil => exact absurd rfl hl
    | cons t b =>
      rw [tk_part]
      unfold begM
      dsimp only
      rw [if_neg (by decide), if_neg (by decide), if_pos (.inl (by decide +kernel))]
  rw [runM_bad (h _ (by simp))]
  simp
theorem read_twice (hP : P2 f ws) (hc : Cond [] 1 f) (hm : 0 < many) {w z : Str} (hw : w = "and" ∨ w = "or") (hz : z ∈ f.leaves) : readM (par many ws ++ [w, z]) = .inr ((par many ws ++ [w, z]).length - 1) := by
  obtain ⟨t', h1, h0, h2⟩ := cut_state hP hc (Nat.le_refl many)
  refine readM_bad ?_
  rw [runM_app, show par many ws = List.replicate many lpS ++ ws ++ List.replicate many rpS from rfl, h2 0]
  rw [Nat.sub_self, List.replicate_zero]
  dsimp only
  rw [show ([w, z] : List Str) = ([w] : List Str) ++ ([z] : List Str) from rfl, runM_app, runM_one (take_joint hw (.inl (h0 hm)))]
  dsimp only
  have hk := hc.ok z hz
  have hb : ∀ t b, takeM ⟨"part", f.leaves, t :: b⟩ z = (false, ⟨"part", f.leaves, t :: b⟩) := fun t b => by
    rw [tk_part]
    unfold begM
    dsimp only
    rw [if_neg hk.lp, if_neg hk.am, if_pos (.inr (.inl hz))]
  rw [runM_bad (hb _ _)]
  simp
  omega
/-- too great a number -/
theorem read_great : readM ((List.replicate 5 (["2", "of"] : List Str)).flatten ++ List.replicate many lpS ++ (["2", "of"] : List Str) ++ ws ++ List.replicate many rpS) = .inr (10 + many) := by
  refine readM_bad ?_
  have h1 : ∀ i, runM rm0 (List.replicate 5 (["2", "of"] : List Str)).flatten i = .inl ⟨"part", [], [⟨1, "", [], [2, 2, 2, 2, 2]⟩]⟩ := by
    intro i
    have s : ∀ (ns : List Int) (i : Nat), (⟨1, "", [], ns⟩ : Lev).weight * 2 ≤ 60 → runM ⟨"part", [], [⟨1, "", [], ns⟩]⟩ (["2", "of"] : List Str) i = .inl ⟨"part", [], [⟨1, "", [], ns ++ [2]⟩]⟩ := fun ns i h => by
      have e : (["2", "of"] : List Str) = ([((toString (2 : Int) : String) : Str)] : List Str) ++ (["of"] : List Str) := by decide
      rw [e]
      exact runM_seq (fun i => runM_one (take_num (by decide) (by decide) h)) (fun i => runM_one (take_of _ _)) i
    have e5 : (List.replicate 5 (["2", "of"] : List Str)).flatten = (["2", "of"] : List Str) ++ ((["2", "of"] : List Str) ++ ((["2", "of"] : List Str) ++ ((["2", "of"] : List Str) ++ (["2", "of"] : List Str)))) := rfl
    rw [e5]
    exact runM_seq (fun i => s [] i (by decide)) (runM_seq (fun i => s [2] i (by decide)) (runM_seq (fun i => s [2, 2] i (by decide)) (runM_seq (fun i => s [2, 2, 2] i (by decide)) (fun i => s [2, 2, 2, 2] i (by decide))))) i
  have h2 := fun i => lp_run [] 32 many ⟨1, "", [], [2, 2, 2, 2, 2]⟩ [] (by decide) i
  have h3 := runM_seq h1 h2 0
  have bad : ∀ l : List Lev, (∃ t b, l = t :: b ∧ t.weight = 32) → ∃ m', takeM ⟨"part", [], l⟩ "2" = (false, m') := fun l hl => by
    obtain ⟨t, b, rfl, hw⟩ := hl
    rw [tk_part]
    unfold begM
    dsimp only
    have ha : amount "2" = 2 := by decide
    rw [if_neg (by decide), ha, if_pos (by decide)]
    have : (⟨t.above, t.word, t.parts, t.nums ++ [2]⟩ : Lev).weight = 64 := by
      have e : (⟨t.above, t.word, t.parts, t.nums ++ [2]⟩ : Lev).weight = t.weight * 2 := by
        unfold Lev.weight
        rw [List.foldl_append]
        rfl
      rw [e, hw]; rfl
    rw [this]
    exact ⟨_, rfl⟩
  obtain ⟨m', hb⟩ := bad (List.replicate many (Lev.new 32) ++ [⟨1, "", [], [2, 2, 2, 2, 2]⟩]) (by
    cases many with
    | zero => exact ⟨_, _, rfl, by decide⟩
    | succ n => exact ⟨Lev.new 32, _, rfl, rfl⟩)
  rw [List.append_assoc, List.append_assoc, runM_app, h3]
  dsimp only
  rw [show (["2", "of"] : List Str) ++ (ws ++ List.replicate many rpS) = ("2" : Str) :: (("of" : Str) :: (ws ++ List.replicate many rpS)) from rfl, runM_bad hb]
  simp
  omega
end
end K77

set_option Elab.async false
set_option linter.all false
set_option maxRecDepth 100000
set_option maxHeartbeats 1000000
/-! a formula's words, put together as it is shown -/
namespace DL
open PySem
def sepW (w v : List Nat) : List Nat := if w = [40] ∨ v = [41] then [] else [32]
def sep1 (w : List Nat) : List Nat := if w = [40] then [] else [32]
def glueW : List (List Nat) → List Nat
  | [] => []
  | [w] => w
  | w :: v :: r => w ++ sepW w v ++ glueW (v :: r)
def glue1 : List (List Nat) → List Nat
  | [] => []
  | [w] => w
  | w :: v :: r => w ++ sep1 w ++ glue1 (v :: r)
theorem copy_rep (c d : Nat) (z : List Nat) : ∀ (w r : List Nat), c ∉ w → repL [c, d] z 0 (w ++ r) = w ++ repL [c, d] z 0 r
  | [], r, _ => rfl
  | k :: w, r, h => by
    have h1 : (c == k) = false := by
      rw [beq_eq_false_iff_ne]
      exact fun e => h (by rw [e]; simp)
    rw [List.cons_append, repL, if_neg (by simp [List.isPrefixOf, h1]), copy_rep c d z w r fun hm => h (List.mem_cons_of_mem _ hm)]
    rfl
theorem okW_40 {w : List Nat} (h : okW w) (hw : w ≠ [40]) : 40 ∉ w := by
  rcases h with h | h | ⟨_, h⟩
  · exact absurd h hw
  · rw [h]; decide
  · exact fun hm => (h 40 hm).2.1 rfl
theorem okW_32 {w : List Nat} (h : okW w) : 32 ∉ w := by
  rcases h with h | h | ⟨_, h⟩
  · rw [h]; decide
  · rw [h]; decide
  · exact fun hm => (h 32 hm).1 rfl
theorem rep_first : ∀ ws : List (List Nat), (∀ w ∈ ws, okW w) → repL [40, 32] [40] 0 (joinL [32] ws) = glue1 ws
  | [], _ => rfl
  | [w], h => by
    show repL [40, 32] [40] 0 w = w
    by_cases hw : w = [40]
    · subst hw; decide
    · have := copy_rep 40 32 [40] w [] (okW_40 (h w (by simp)) hw)
      rw [List.append_nil] at this
      rw [this]
      show w ++ [] = w
      simp
  | w :: v :: r, h => by
    have ih := rep_first (v :: r) fun x hx => h x (List.mem_cons_of_mem _ hx)
    show repL [40, 32] [40] 0 (w ++ [32] ++ joinL [32] (v :: r)) = w ++ sep1 w ++ glue1 (v :: r)
    by_cases hw : w = [40]
    · subst hw
      rw [← ih]
      rfl
    · rw [List.append_assoc, copy_rep 40 32 [40] w _ (okW_40 (h w (by simp)) hw), sep1, if_neg hw, List.append_assoc, ← ih]
      rfl
theorem glue1_head {v : List Nat} {r : List (List Nat)} (hv : v = [41]) : ∃ t, glue1 (v :: r) = 41 :: t := by
  subst hv
  cases r with
  | nil => exact ⟨[], rfl⟩
  | cons x r => exact ⟨_, rfl⟩
theorem glue1_no {v : List Nat} {r : List (List Nat)} (h : okW v) (hv : v ≠ [41]) : ∃ c t, glue1 (v :: r) = c :: t ∧ c ≠ 41 := by
  obtain ⟨c, t, e, hc⟩ : ∃ c t, v = c :: t ∧ c ≠ 41 := by
    rcases h with h | h | ⟨h1, h2⟩
    · exact ⟨40, [], h, by decide⟩
    · exact absurd h hv
    · cases v with
      | nil => exact absurd rfl h1
      | cons c t => exact ⟨c, t, rfl, (h2 c (by simp)).2.2⟩
  subst e
  cases r with
  | nil => exact ⟨c, t, rfl, hc⟩
  | cons x r => exact ⟨c, _, rfl, hc⟩
theorem rep_second : ∀ ws : List (List Nat), (∀ w ∈ ws, okW w) → repL [32, 41] [41] 0 (glue1 ws) = glueW ws
  | [], _ => rfl
  | [w], h => by
    have := copy_rep 32 41 [41] w [] (okW_32 (h w (by simp)))
    rw [List.append_nil] at this
    show repL [32, 41] [41] 0 w = w
    rw [this]
    show w ++ [] = w
    simp
  | w :: v :: r, h => by
    have ih := rep_second (v :: r) fun x hx => h x (List.mem_cons_of_mem _ hx)
    have hv := h v (by simp)
    show repL [32, 41] [41] 0 (w ++ sep1 w ++ glue1 (v :: r)) = w ++ sepW w v ++ glueW (v :: r)
    rw [List.append_assoc, copy_rep 32 41 [41] w _ (okW_32 (h w (by simp))), List.append_assoc]
    congr 1
    by_cases hw : w = [40]
    · rw [sep1, if_pos hw, sepW, if_pos (.inl hw), List.nil_append, List.nil_append, ih]
    · rw [sep1, if_neg hw]
      by_cases hv2 : v = [41]
      · obtain ⟨t, ht⟩ := glue1_head (r := r) hv2
        rw [ht] at ih ⊢
        rw [sepW, if_pos (.inr hv2), List.nil_append, ← ih]
        rfl
      · obtain ⟨c, t, ht, hc⟩ := glue1_no (r := r) hv hv2
        rw [ht] at ih ⊢
        rw [sepW, if_neg (by rintro (e | e); exact hw e; exact hv2 e), ← ih]
        have hb : (41 == c) = false := by
          rw [beq_eq_false_iff_ne]
          exact fun e => hc e.symm
        show repL [32, 41] [41] 0 (32 :: c :: t) = 32 :: repL [32, 41] [41] 0 (c :: t)
        rw [repL, if_neg (by simp [List.isPrefixOf, hb])]
/-- what the law makes of the bare words -/
theorem due_cps {ws : List Str} (h : ∀ y ∈ ws, okW y.cps.toList) : (Txt.replace (Txt.replace (Txt.join " " ws) "( " "(") " )" ")").cps.toList = glueW (ws.map (·.cps.toList)) := by
  rw [rep_cps _ _ _ (by decide), rep_cps _ _ _ (by decide), Txt.join, StrLaws.glued_eq_join, join_cps]
  have h2 : ∀ w ∈ ws.map (·.cps.toList), okW w := fun w hw => by
    obtain ⟨y, hy, rfl⟩ := List.mem_map.mp hw
    exact h y hy
  rw [← rep_second _ h2, ← rep_first _ h2]
  rfl
theorem glue_tok : ∀ (r : List (List Nat)) (w : List Nat) (cs : List Nat) (done : List (List Nat)), okW w → (∀ v ∈ r, okW v) → Sofar (cs ++ w) (done ++ [w]) (isP w) → ∃ p, Sofar (cs ++ glueW (w :: r)) (done ++ (w :: r)) p
  | [], w, cs, done, _, _, h => ⟨_, h⟩
  | v :: r, w, cs, done, hw, hr, h => by
    have hv := hr v (by simp)
    have e : sepW w v = List.replicate (if w = [40] ∨ v = [41] then 0 else 1) 32 := by
      unfold sepW
      split <;> rfl
    have h2 := h.word (n := if w = [40] ∨ v = [41] then 0 else 1) (w := v) hv (fun h3 h4 => by
      rw [if_neg]
      · omega
      · rintro (e | e)
        · exact h3 (.inl e)
        · exact h4 (.inr e))
    rw [← e, List.append_assoc cs w, List.append_assoc done] at h2
    have := glue_tok r v (cs ++ (w ++ sepW w v)) (done ++ [w]) hv (fun x hx => hr x (List.mem_cons_of_mem _ hx)) (by
      rw [List.append_assoc done]
      exact h2)
    obtain ⟨p, hp⟩ := this
    refine ⟨p, ?_⟩
    rw [show glueW (w :: v :: r) = w ++ sepW w v ++ glueW (v :: r) from rfl]
    have e3 : done ++ [w] ++ v :: r = done ++ w :: v :: r := by simp
    rw [e3, List.append_assoc, List.append_assoc] at hp
    rw [List.append_assoc]
    exact hp
theorem tokens_glue {z : Str} {ws : List Str} (h : ∀ y ∈ ws, okW y.cps.toList) (hz : z.cps.toList = glueW (ws.map (·.cps.toList))) : (tokens z).map (·.cps.toList) = ws.map (·.cps.toList) := by
  rw [tokens_eq, hz]
  cases ws with
  | nil => rfl
  | cons w r =>
    have h0 := (Sofar.nil 0).word (n := 0) (w := w.cps.toList) (h w (by simp)) (fun h => absurd trivial h)
    obtain ⟨p, hp⟩ := glue_tok (r.map (·.cps.toList)) w.cps.toList [] [] (h w (by simp)) (fun v hv => by
      obtain ⟨y, hy, rfl⟩ := List.mem_map.mp hv
      exact h y (by simp [hy])) (by simpa using h0)
    have := hp.toks
    simpa using this
theorem glueW_app : ∀ (xs ys : List (List Nat)) (hx : xs ≠ []) (hy : ys ≠ []), glueW (xs ++ ys) = glueW xs ++ sepW (xs.getLast hx) (ys.head hy) ++ glueW ys
  | [w], v :: ys, _, _ => rfl
  | w :: w2 :: xs, ys, _, hy => by
    have ih := glueW_app (w2 :: xs) ys (by simp) hy
    show w ++ sepW w w2 ++ glueW (w2 :: xs ++ ys) = w ++ sepW w w2 ++ glueW (w2 :: xs) ++ sepW _ _ ++ glueW ys
    rw [ih]
    simp
end DL

set_option Elab.async false
set_option linter.all false
set_option maxRecDepth 100000
set_option maxHeartbeats 1000000
/-! the words of a formula: what they are, and how the formula is shown by them -/
namespace DL
open PySem
def okZ (z : Str) : Prop := okW z.cps.toList ∧ z.length ≤ 3
theorem num_okZ : ∀ n : Fin 61, 2 ≤ n.val → (∀ c ∈ ((toString ((n.val : Nat) : Int) : String) : Str).cps.toList, c ≠ 32 ∧ c ≠ 40 ∧ c ≠ 41) ∧ ((toString ((n.val : Nat) : Int) : String) : Str).cps.toList ≠ [] ∧ ((toString ((n.val : Nat) : Int) : String) : Str).length ≤ 3 := by decide +kernel
theorem num_okZ' {n : Int} (h1 : 1 < n) (h2 : n ≤ 60) : okZ ((toString n : String) : Str) ∧ ((toString n : String) : Str).cps.toList ≠ [41] ∧ ((toString n : String) : Str).cps.toList ≠ [40] := by
  have := num_okZ ⟨n.toNat, by omega⟩ (by show 2 ≤ n.toNat; omega)
  rw [show ((n.toNat : Nat) : Int) = n by omega] at this
  obtain ⟨a, b, c⟩ := this
  refine ⟨⟨.inr (.inr ⟨b, a⟩), c⟩, fun e => ?_, fun e => ?_⟩
  · exact (a 41 (by rw [e]; simp)).2.2 rfl
  · exact (a 40 (by rw [e]; simp)).2.1 rfl
theorem of_okZ : okZ "of" := ⟨.inr (.inr ⟨by decide, by decide⟩), by decide⟩
theorem lp_okZ : okZ lpS := ⟨.inl (by decide), by decide⟩
theorem rp_okZ : okZ rpS := ⟨.inr (.inl (by decide)), by decide⟩
theorem jt_okZ {w : Str} (h : w = "and" ∨ w = "or") : okZ w := by
  rcases h with rfl | rfl
  · exact ⟨.inr (.inr ⟨by decide, by decide⟩), by decide⟩
  · exact ⟨.inr (.inr ⟨by decide, by decide⟩), by decide⟩
theorem par_ok {k : Nat} {ws : List Str} (h : ∀ y ∈ ws, okZ y) : ∀ y ∈ par k ws, okZ y := fun y hy => by
  unfold par at hy
  rcases List.mem_append.mp hy with hy | hy
  · rcases List.mem_append.mp hy with hy | hy
    · rw [List.eq_of_mem_replicate hy]; exact lp_okZ
    · exact h y hy
  · rw [List.eq_of_mem_replicate hy]; exact rp_okZ
mutual
theorem says_ok {on : Bool} {m : Int} (hm : m ≤ 60) : ∀ {b : Bool} {f : Fm} {ws : List Str}, Says on b f ws → f.fits m → (∀ z ∈ f.leaves, okZ z) → ∀ y ∈ ws, okZ y
  | _, _, _, @Says.kind _ _ z k _, _, hl => par_ok fun y hy => by
    rw [List.mem_singleton] at hy; subst hy
    exact hl y (by simp [Fm.leaves])
  | _, _, _, @Says.many _ _ n f ws k _ s, hf, hl => par_ok fun y hy => by
    have h1 := hf.1
    have h2 := hf.2.1
    rcases List.mem_append.mp hy with hy | hy
    · simp only [List.mem_cons, List.not_mem_nil, or_false] at hy
      rcases hy with rfl | rfl
      · exact (num_okZ' (by omega) (by omega)).1
      · exact of_okZ
    · exact says_ok (m := m / n) (Int.le_trans (Int.ediv_le_self _ (by omega)) hm) s hf.2.2 hl y hy
  | b, _, _, @Says.join _ _ w fs wss k _ s, hf, hl => by
    have hw : ∀ y ∈ weave w wss, okZ y := fun y hy => saysL_ok hm s (jt_okZ hf.1) (Fm.fitsL_all.mp hf.2.2) hl y (List.mem_of_mem_drop hy)
    refine par_ok fun y hy => ?_
    cases b with
    | false => exact hw y hy
    | true =>
      rcases List.mem_append.mp hy with hy | hy
      · rcases List.mem_append.mp hy with hy | hy
        · rw [List.mem_singleton] at hy; subst hy; exact lp_okZ
        · exact hw y hy
      · rw [List.mem_singleton] at hy; subst hy; exact rp_okZ
theorem saysL_ok {on : Bool} {m : Int} (hm : m ≤ 60) : ∀ {fs : List Fm} {wss : List (List Str)}, SaysL on fs wss → ∀ {w : Str}, okZ w → (∀ f ∈ fs, f.fits m) → (∀ z ∈ Fm.leavesL fs, okZ z) → ∀ y ∈ (wss.map fun x => w :: x).flatten, okZ y
  | _, _, .nil, _, _, _, _, y, hy => by simp at hy
  | _, _, @SaysL.cons _ f fs ws wss s r, w, hw, hf, hl, y, hy => by
    rw [List.map_cons, List.flatten_cons] at hy
    rcases List.mem_append.mp hy with hy | hy
    · rcases List.mem_cons.mp hy with rfl | hy
      · exact hw
      · exact says_ok hm s (hf f (by simp)) (fun z hz => hl z (by rw [Fm.leavesL]; exact List.mem_append_left _ hz)) y hy
    · exact saysL_ok hm r hw (fun g hg => hf g (by simp [hg])) (fun z hz => hl z (by rw [Fm.leavesL]; exact List.mem_append_right _ hz)) y hy
end
end DL

set_option Elab.async false
set_option linter.all false
set_option maxRecDepth 100000
set_option maxHeartbeats 1000000
namespace DL
open PySem
def cp (ws : List Str) : List (List Nat) := ws.map (·.cps.toList)
theorem cp_app (xs ys : List Str) : cp (xs ++ ys) = cp xs ++ cp ys := List.map_append
/-- it begins with no ), it ends with no ( -/
structure Ends (W : List (List Nat)) : Prop where
  ne : W ≠ []
  hd : W.head ne ≠ [41]
  ls : W.getLast ne ≠ [40]
theorem Ends.app {X Y : List (List Nat)} (a : Ends X) (b : Ends Y) : Ends (X ++ Y) := by
  refine ⟨by simp [a.ne], ?_, ?_⟩
  · rw [List.head_append_of_ne_nil a.ne]; exact a.hd
  · rw [List.getLast_append_of_ne_nil (h₂ := b.ne)]; exact b.ls
theorem glue_ends {X Y : List (List Nat)} (a : Ends X) (b : Ends Y) : glueW (X ++ Y) = glueW X ++ [32] ++ glueW Y := by
  rw [glueW_app X Y a.ne b.ne, sepW, if_neg]
  rintro (h | h)
  · exact a.ls h
  · exact b.hd h
theorem one_ends {w : List Nat} (h1 : w ≠ [40]) (h2 : w ≠ [41]) : Ends [w] := ⟨by simp, h2, h1⟩
theorem ftext_cps (ys : List Str) : (ftext ys).cps.toList = (cp ys).flatten := by
  have key : ∀ (ys : List Str) (acc : Str), (ys.foldl (· ++ ·) acc).cps.toList = acc.cps.toList ++ (cp ys).flatten := by
    intro ys
    induction ys with
    | nil => intro acc; simp [cp]
    | cons y ys ih => intro acc; rw [List.foldl_cons, ih, cps_app]; simp [cp]
  rw [ftext, key]
  rfl
theorem weave_cons {w : Str} {x y : List Str} {r : List (List Str)} : weave w (x :: y :: r) = x ++ ([w] ++ weave w (y :: r)) := by simp [weave]
theorem ends_par {W : List (List Nat)} (h : W ≠ []) : Ends ([[40]] ++ (W ++ [[41]])) := by
  refine ⟨by simp, by simp, ?_⟩
  have e : ([[40]] ++ (W ++ [[41]])).getLast (by simp) = [41] := by
    rw [List.getLast_append_of_ne_nil (h₂ := by simp), List.getLast_append_of_ne_nil (h₂ := by simp)]
    rfl
  rw [e]
  decide
theorem glue_par {W : List (List Nat)} (h : W ≠ []) : glueW ([[40]] ++ (W ++ [[41]])) = [40] ++ glueW W ++ [41] := by
  rw [glueW_app [[40]] (W ++ [[41]]) (by simp) (by simp), glueW_app W [[41]] h (by simp)]
  have a : ∀ v, sepW ([[40]].getLast (by simp)) v = [] := fun v => if_pos (Or.inl rfl)
  have b : ∀ v, sepW v ([[41]].head (by simp)) = [] := fun v => if_pos (Or.inr rfl)
  rw [a, b]
  show [40] ++ [] ++ (glueW W ++ [] ++ [41]) = _
  simp
def sepJ (w : Str) : List Nat := 32 :: w.cps.toList ++ [32]
mutual
theorem show_says {m : Int} (hm : m ≤ 60) : ∀ {b : Bool} {f : Fm} {ws : List Str}, Says false b f ws → f.fits m → (∀ z ∈ f.leaves, z.cps.toList ≠ [40] ∧ z.cps.toList ≠ [41]) → Ends (cp ws) ∧ (if b then showP f else showF f).cps.toList = glueW (cp ws)
  | b, _, _, @Says.kind _ _ z k hk, _, hl => by
    obtain rfl := hk rfl
    rw [show par 0 [z] = [z] by simp [par]]
    obtain ⟨h1, h2⟩ := hl z (by simp [Fm.leaves])
    exact ⟨one_ends h1 h2, by cases b <;> rfl⟩
  | b, _, _, @Says.many _ _ n f ws k hk s, hf, hl => by
    obtain rfl := hk rfl
    rw [show par 0 ([((toString n : String) : Str), "of"] ++ ws) = [((toString n : String) : Str), "of"] ++ ws by simp [par]]
    have h1 := hf.1
    have h2 := hf.2.1
    obtain ⟨e1, e2⟩ := show_says (m := m / n) (Int.le_trans (Int.ediv_le_self _ (by omega)) hm) s hf.2.2 hl
    obtain ⟨_, n1, n2⟩ := num_okZ' (n := n) (by omega) (by omega)
    have a1 : Ends (cp [((toString n : String) : Str)]) := one_ends n2 n1
    have a2 : Ends (cp ["of"]) := one_ends (by decide) (by decide)
    have e : cp ([((toString n : String) : Str), "of"] ++ ws) = cp [((toString n : String) : Str)] ++ (cp ["of"] ++ cp ws) := rfl
    rw [e]
    refine ⟨a1.app (a2.app e1), ?_⟩
    rw [glue_ends a1 (a2.app e1), glue_ends a2 e1, ← e2]
    have e3 : (if b = true then showP (.many n f) else showF (.many n f)) = ftext [((toString n : String) : Str), " of ", showP f] := by cases b <;> rfl
    rw [e3, ftext_cps]
    show _ ++ ((" of " : Str).cps.toList ++ ((showP f).cps.toList ++ [])) = ((toString n : String) : Str).cps.toList ++ [32] ++ (("of" : Str).cps.toList ++ [32] ++ (showP f).cps.toList)
    rw [show (" of " : Str).cps.toList = [32] ++ ("of" : Str).cps.toList ++ [32] by decide]
    simp
  | b, _, _, @Says.join _ _ w fs wss k hk s, hf, hl => by
    obtain rfl := hk rfl
    rw [show ∀ x, par 0 x = x from fun x => by simp [par]]
    have hne : fs ≠ [] := by
      have := hf.2.1
      intro e; subst e; simp at this
    obtain ⟨e1, e2⟩ := show_weave (w := w) hm s hne (by rcases hf.1 with rfl | rfl <;> decide) (by rcases hf.1 with rfl | rfl <;> decide) (Fm.fitsL_all.mp hf.2.2) hl
    have e3 : (showF (.join w fs)).cps.toList = glueW (cp (weave w wss)) := by
      rw [e2, show showF (.join w fs) = Txt.join (ftext [" ", w, " "]) (showL fs) from rfl, Txt.join, StrLaws.glued_eq_join, join_cps, showL_map, List.map_map]
      congr 1
      rw [ftext_cps]
      show (" " : Str).cps.toList ++ (w.cps.toList ++ ((" " : Str).cps.toList ++ [])) = 32 :: w.cps.toList ++ [32]
      rw [show (" " : Str).cps.toList = [32] by decide]
      simp
    cases b with
    | false => exact ⟨e1, e3⟩
    | true =>
      have e4 : cp (if true = true then [lpS] ++ weave w wss ++ [rpS] else weave w wss) = [[40]] ++ (cp (weave w wss) ++ [[41]]) := by
        show cp ([lpS] ++ weave w wss ++ [rpS]) = _
        rw [cp_app, cp_app, List.append_assoc]
        rfl
      rw [e4]
      refine ⟨ends_par e1.ne, ?_⟩
      · rw [glue_par e1.ne]
        show (showP (.join w fs)).cps.toList = _
        rw [show showP (.join w fs) = ftext ["(", showF (.join w fs), ")"] from rfl, ftext_cps, ← e3]
        show ("(" : Str).cps.toList ++ ((showF (.join w fs)).cps.toList ++ ((")" : Str).cps.toList ++ [])) = [40] ++ (showF (.join w fs)).cps.toList ++ [41]
        rw [show ("(" : Str).cps.toList = [40] by decide, show (")" : Str).cps.toList = [41] by decide]
        simp
theorem show_weave {m : Int} (hm : m ≤ 60) : ∀ {fs : List Fm} {wss : List (List Str)}, SaysL false fs wss → fs ≠ [] → ∀ {w : Str}, w.cps.toList ≠ [40] → w.cps.toList ≠ [41] → (∀ f ∈ fs, f.fits m) → (∀ z ∈ Fm.leavesL fs, z.cps.toList ≠ [40] ∧ z.cps.toList ≠ [41]) → Ends (cp (weave w wss)) ∧ glueW (cp (weave w wss)) = joinL (sepJ w) (fs.map fun f => (showP f).cps.toList)
  | _, _, .nil, hne, _, _, _, _, _ => absurd rfl hne
  | _, _, @SaysL.cons _ f fs ws wss s r, _, w, h1, h2, hf, hl => by
    obtain ⟨a1, a2⟩ := show_says hm s (hf f (by simp)) fun z hz => hl z (by rw [Fm.leavesL]; exact List.mem_append_left _ hz)
    cases r with
    | nil =>
      rw [show weave w [ws] = ws by simp [weave]]
      exact ⟨a1, a2.symm⟩
    | @cons g gs vs vss s2 r2 =>
      obtain ⟨b1, b2⟩ := show_weave hm (SaysL.cons s2 r2) (by simp) h1 h2 (fun x hx => hf x (List.mem_cons_of_mem _ hx)) fun z hz => hl z (by rw [Fm.leavesL]; exact List.mem_append_right _ hz)
      have c1 : Ends (cp [w]) := one_ends h1 h2
      rw [weave_cons, cp_app, cp_app]
      refine ⟨a1.app (c1.app b1), ?_⟩
      rw [glue_ends a1 (c1.app b1), glue_ends c1 b1, b2, ← a2]
      show (showP f).cps.toList ++ [32] ++ (w.cps.toList ++ [32] ++ _) = (showP f).cps.toList ++ sepJ w ++ joinL (sepJ w) _
      simp [sepJ]
end
/-- the law's shown text is the formula's own -/
theorem due_show {m : Int} (hm : m ≤ 60) {f : Fm} {ws : List Str} (s : Says false false f ws) (hf : f.fits m) (hl : ∀ z ∈ f.leaves, okZ z ∧ z.cps.toList ≠ [40] ∧ z.cps.toList ≠ [41]) : Txt.replace (Txt.replace (Txt.join " " ws) "( " "(") " )" ")" = showF f := by
  have hok := says_ok hm s hf fun z hz => (hl z hz).1
  have h1 := due_cps fun y hy => (hok y hy).1
  have h2 := (show_says hm s hf fun z hz => (hl z hz).2).2
  have h3 : (showF f).cps.toList = glueW (ws.map (·.cps.toList)) := h2
  rw [← h3] at h1
  generalize Txt.replace (Txt.replace (Txt.join " " ws) "( " "(") " )" ")" = x at h1
  obtain ⟨a⟩ := x
  generalize showF f = y at h1
  obtain ⟨b⟩ := y
  exact congrArg Str.mk (Array.toList_inj.mp h1)
end DL

set_option Elab.async false
set_option linter.all false
set_option maxRecDepth 100000
set_option maxHeartbeats 1000000
/-! a text put together and changed twice, where the joining text itself gives the token; a promise that may raise; what is read of a text that comes by a draw -/
namespace DL
open PySem PySem.Spec PyProof.Rows L2
/-- behind it a token is out -/
def PEo (X : Cx) (e : Expr) (t : TE) : Prop :=
  ∀ (pins : List (Addr × Obj)) (s : Shared) (σ : L2.St) (H : Hp) (Q : VK), Inv X pins σ H s → t σ H Q → wpAny (model X.prog X.w) X.A (eval e X.env) (fun v s1 => 1 ≤ s1.toks ∧ EP X pins σ Q v s1) X.xe s
section
variable {X : Cx} {e o : Expr} {te to : TE} {x y z : PySem.Str} {i j k : Nat} {c0 c1 apos pos p : Pos}
theorem peo_join (he : PE X e te) (hs : starEach [e] X.env = [(false, eval e X.env)] := by rfl)
    (hbase : attributeBase (.Constant (.str x) i p) "join" X.env (eval (.Constant (.str x) i p) X.env) = eval (.Constant (.str x) i p) X.env := by rfl) (hline : (apos.endLine == pos.line) = true := by rfl) :
    PEo X (.Call (.Attribute (.Constant (.str x) i p) "join" apos) [e] [] pos) (tM1 (qJoin X.K) (tC (.str x)) te) := by
  intro pins s σ H Q I h
  refine PySem.Call_method1 hbase hs hline (Calls.Constant_str ?_)
  refine ⟨"str", _, F.plainAttrs_str, F.slot_str_join, F.type_str_join, typeIs_str _ _ _, (fun _ e => nomatch e), ?_⟩
  refine wpAny_mono (PySem.wpAny_toks_of (n := 1) (by show 1 ≤ s.toks + 1; omega) (Calls.callWith_builtin rfl (Calls.evalArgs_plain (Calls.spliced_cons ?_)))) (fun _ _ q => q) fun _ _ z => z.2
  exact thn (he.run pins _ σ H _ (I.tok _) h.2) fun u s2 ⟨y, H2, I2, r2, q2⟩ => Calls.spliced_nil (mt_join pins s2 σ H2 _ [y] _ [u] Q I2 (show RelV (.str x) (.str x s.toks) from ⟨_, rfl⟩) (.cons r2 .nil) q2)
theorem peo_repl (ho : PEo X o to) (hyz : (y == z) = false := by decide)
    (hst : starEach [.Constant (.str y) j c0, .Constant (.str z) k c1] X.env = [(false, eval (.Constant (.str y) j c0) X.env), (false, eval (.Constant (.str z) k c1) X.env)] := by rfl)
    (hbase : attributeBase o "replace" X.env (eval o X.env) = eval o X.env := by rfl) (hline : (apos.endLine == pos.line) = true := by rfl) :
    PEo X (.Call (.Attribute o "replace" apos) [.Constant (.str y) j c0, .Constant (.str z) k c1] [] pos) (CwR.tReplC to y z) := by
  intro pins s σ H Q I h
  refine PySem.Call_method2 hbase hst hline (wpAny_mono (ho pins s σ H _ I h) (fun v s1 q => ?_) fun _ _ z => z)
  obtain ⟨hk, v', H1, I1, r1, x, e1, hb, q⟩ := q
  subst e1
  obtain ⟨tx, e2⟩ := r1
  subst e2
  refine ⟨"str", _, F.plainAttrs_str, F.slot_str_replace, F.type_str_replace, typeIs_str _ _ _, (fun _ e => nomatch e), ?_⟩
  refine wpAny_mono (PySem.wpAny_toks_of hk (Calls.callWith_builtin rfl (Calls.evalArgs_plain (Calls.spliced_cons ?_)))) (fun _ _ q => q) fun _ _ z => z.2
  refine Calls.Constant_str (Calls.spliced_cons (Calls.Constant_str (Calls.spliced_nil ?_)))
  exact PySem.SC.replace (by show s1.toks ≠ 0; omega) (by show s1.toks + 1 ≠ 0; omega) (by show s1.toks ≠ s1.toks + 1; omega) hyz hb fun t' k => ⟨.str (Txt.replace x y z), H1, I1.tok k, ⟨t', rfl⟩, q⟩
theorem PEo.pe (h : PEo X e te) : PE X e te := ⟨fun pins s σ H Q I q => wpAny_mono (h pins s σ H Q I q) (fun _ _ z => z.2) fun _ _ z => z⟩
end
section
variable {F : Fx} {c : Ct} {te ta tb : TE} {tt : TT} {R Ra Rb : Sl → Prop} {K : PySem.W.Frag}
theorem rt_or0 {t' u' : TT} {RT : Bool → Prop} (h1 : EvRT F c t' (fun b => b = false)) (h2 : EvRT F c u' RT) : EvRT F c (tOr t' u') RT := fun c' x H σ w Q q => h1 c' x H σ w _ fun b hb H1 w1 k1 => by
  subst hb
  exact h2 c' x H1 σ w1 _ fun b2 hb2 H2 w2 k2 => q b2 hb2 H2 w2 (k1.trans k2)
theorem r_neSame {d : Dt} (ha : EvR F c ta (fun s => s = .d d)) (hb : EvP F c tb (.d d)) (fd : flatD d = true) (sd : SeqAt.shaped (toPy d) = true) (hd : PyData.eqv (toPy d) (toPy d) = true) :
    EvRT F c (tTest (tOp (rNeD K) ta tb)) (fun b => b = false) := rt_test (R := fun s => s = .d (.bl false)) (r_op ha (hb.r (R := fun s => s = .d d) rfl) (by
  rintro _ _ rfl rfl
  refine ⟨_, rfl, fun c' x H σ u v w hu hv Q q => ⟨_, _, Dq.py off_le fd hu, Dq.py off_le fd hv, sd, sd, ?_⟩⟩
  rw [hd]
  exact q _ H w (Kp.refl _ _) (Dq.bl _))) (by rintro _ rfl; exact ⟨false, rfl, rfl⟩)
theorem r_neSameI {i : Int} (ha : EvR F c ta (fun s => s = .d (.int i))) (hb : EvP F c tb (.d (.int i))) :
    EvRT F c (tTest (tOp qNeI ta tb)) (fun b => b = false) := rt_test (R := fun s => s = .d (.bl false)) (r_op ha (hb.r (R := fun s => s = .d (.int i)) rfl) (by
  rintro _ _ rfl rfl
  refine ⟨_, rfl, fun c' x H σ u v w hu hv Q q => ⟨i, i, hu.int, hv.int, ?_⟩⟩
  have := q (.bl false) H w (Kp.refl _ _) (Dq.bl _)
  simpa using this)) (by rintro _ rfl; exact ⟨false, rfl, rfl⟩)
theorem r_isNot (ha : EvR F c ta (fun s => ∃ i, s = .d (.int i))) :
    EvRT F c (tTest (tOp (fun x y H Q => y = .non ∧ Q (.bl (decide (x = .non))) H) ta (tC .non))) (fun b => b = false) := rt_test (R := fun s => s = .d (.bl false)) (r_op ha (ev_non.r (R := fun s => s = .d .non) rfl) (by
  rintro _ _ ⟨i, rfl⟩ rfl
  refine ⟨_, rfl, fun c' x H σ u v w hu hv Q q => ⟨hv.non, ?_⟩⟩
  have := q (.bl false) H w (Kp.refl _ _) (Dq.bl _)
  rw [hu.int]
  simpa using this)) (by rintro _ rfl; exact ⟨false, rfl, rfl⟩)
end
mutual
theorem flat_fm : ∀ f : Fm, flatD f.enc = true
  | .kind z => rfl
  | .many n f => by show (true && (true && (flatD f.enc && true))) = true; rw [flat_fm f]; rfl
  | .join w fs => by show (true && (flatL (Fm.encL fs) && true)) = true; rw [flat_fms fs]; rfl
theorem flat_fms : ∀ fs : List Fm, flatL (Fm.encL fs) = true
  | [] => rfl
  | f :: fs => by rw [Fm.encL, flatL, flat_fm f, flat_fms fs]; rfl
end
mutual
theorem lay_fm : ∀ {f : Fm} {m : Int}, f.fits m → (∀ z ∈ f.leaves, PyData.strOk z = true) → (toPy f.enc).canLay0 = true
  | .kind z, _, _, h => by
    have := h z (by simp [Fm.leaves])
    show (PyData.strOk "kind" && (PyData.strOk z && true)) = true
    rw [this]
    decide +kernel
  | .many n f, m, hf, h => by
    show (PyData.strOk "many" && (true && ((toPy f.enc).canLay0 && true))) = true
    rw [lay_fm hf.2.2 h]
    decide +kernel
  | .join w fs, m, hf, h => by
    show (PyData.strOk w && (PyData.canLayAll0 (toPyL (Fm.encL fs)) && true)) = true
    rw [lay_fms (Fm.fitsL_all.mp hf.2.2) h]
    rcases hf.1 with rfl | rfl <;> decide +kernel
theorem lay_fms : ∀ {fs : List Fm} {m : Int}, (∀ f ∈ fs, f.fits m) → (∀ z ∈ Fm.leavesL fs, PyData.strOk z = true) → PyData.canLayAll0 (toPyL (Fm.encL fs)) = true
  | [], _, _, _ => rfl
  | f :: fs, m, hf, h => by
    show ((toPy f.enc).canLay0 && PyData.canLayAll0 (toPyL (Fm.encL fs))) = true
    rw [lay_fm (hf f (by simp)) fun z hz => h z (by rw [Fm.leavesL]; exact List.mem_append_left _ hz), lay_fms (fun g hg => hf g (List.mem_cons_of_mem _ hg)) fun z hz => h z (by rw [Fm.leavesL]; exact List.mem_append_right _ hz)]
    rfl
end
theorem Fm.leaves_pos : ∀ {f : Fm} {m : Int}, f.fits m → 0 < f.leaves.length
  | .kind z, _, _ => by simp [Fm.leaves]
  | .many n f, m, h => Fm.leaves_pos (f := f) h.2.2
  | .join w [], m, h => by have := h.2.1; simp at this
  | .join w (f :: fs), m, h => by
    have := Fm.leaves_pos (f := f) (Fm.fitsL_all.mp h.2.2 f (by simp))
    rw [Fm.leaves, Fm.leavesL, List.length_append]
    omega
mutual
/-- how deep its thing is -/
theorem deep_fm : ∀ {f : Fm} {m : Int} {k : Nat}, f.fits m → m < 2 ^ k → (toPy f.enc).depth ≤ 2 * f.leaves.length + k ∧ f.high ≤ f.leaves.length + k
  | .kind z, m, k, _, _ => by
    have : (toPy (Fm.kind z).enc).depth = 1 := rfl
    rw [this]
    simp only [Fm.leaves, Fm.high, List.length_cons, List.length_nil]
    omega
  | .many n f, m, k, hf, hm => by
    have h1 := hf.1
    have h2 := hf.2.1
    cases k with
    | zero => simp at hm; omega
    | succ k =>
      have h3 : m / n < 2 ^ k := by
        have e1 : m / n * n ≤ m := Int.ediv_mul_le m (by omega)
        have e0 : 0 ≤ m / n := Int.ediv_nonneg (by omega) (by omega)
        have e2 : m / n * 2 ≤ m / n * n := Int.mul_le_mul_of_nonneg_left (by omega) e0
        rw [Int.pow_succ] at hm
        generalize m / n = q at *
        generalize (2 : Int) ^ k = z at *
        omega
      obtain ⟨d1, d2⟩ := deep_fm (f := f) hf.2.2 h3
      have : (toPy (Fm.many n f).enc).depth = (toPy f.enc).depth + 1 := by
        show max 0 (max 0 (max (toPy f.enc).depth 0)) + 1 = _
        omega
      rw [this, Fm.leaves, Fm.high]
      omega
  | .join w fs, m, k, hf, hm => by
    have h3 := Fm.fitsL_all.mp hf.2.2
    have : (toPy (Fm.join w fs).enc).depth = PyData.depthAll (toPyL (Fm.encL fs)) + 2 := by
      show max 0 (max (PyData.depthAll (toPyL (Fm.encL fs)) + 1) 0) + 1 = _
      omega
    rw [this, Fm.leaves, Fm.high]
    cases fs with
    | nil => have := hf.2.1; simp at this
    | cons f gs =>
      cases gs with
      | nil => have := hf.2.1; simp at this
      | cons g gs =>
        obtain ⟨d1, d2⟩ := deep_fms h3 hm
        have := d1 2 (by simp)
        omega
theorem deep_fms : ∀ {fs : List Fm} {m : Int} {k : Nat}, (∀ f ∈ fs, f.fits m) → m < 2 ^ k → (∀ n, n ≤ fs.length → PyData.depthAll (toPyL (Fm.encL fs)) + 2 * (n - 1) ≤ 2 * (Fm.leavesL fs).length + k ∧ Fm.highL fs + (n - 1) ≤ (Fm.leavesL fs).length + k) ∧ fs.length ≤ (Fm.leavesL fs).length
  | [], _, _, _, _ => by
    refine ⟨fun n hn => ?_, by simp⟩
    have : n = 0 := by simpa using hn
    subst this
    show 0 + 0 ≤ _ ∧ 0 + 0 ≤ _
    omega
  | f :: fs, m, k, hf, hm => by
    obtain ⟨a1, a2⟩ := deep_fm (f := f) (hf f (by simp)) hm
    have a3 := Fm.leaves_pos (hf f (by simp))
    obtain ⟨b1, b2⟩ := deep_fms (fs := fs) (fun g hg => hf g (List.mem_cons_of_mem _ hg)) hm
    refine ⟨fun n hn => ?_, ?_⟩
    · rw [List.length_cons] at hn
      have b3 := b1 fs.length (Nat.le_refl _)
      have : PyData.depthAll (toPyL (Fm.encL (f :: fs))) = max (toPy f.enc).depth (PyData.depthAll (toPyL (Fm.encL fs))) := rfl
      rw [this, Fm.leavesL, List.length_append, Fm.highL]
      omega
    · rw [Fm.leavesL, List.length_append, List.length_cons]
      omega
end
/-- its thing can be compared -/
theorem shaped_fm {f : Fm} {m : Int} (hm : m ≤ 60) (hf : f.fits m) (hl : f.leaves.length ≤ 8) (h : ∀ z ∈ f.leaves, PyData.strOk z = true) : SeqAt.shaped (toPy f.enc) = true ∧ PyData.eqv (toPy f.enc) (toPy f.enc) = true ∧ f.high ≤ 14 := by
  have h1 := lay_fm hf h
  obtain ⟨h2, h3⟩ := deep_fm (k := 6) hf (by show m < 64; omega)
  refine ⟨?_, SeqAt.eqv_refl _ h1, by omega⟩
  unfold SeqAt.shaped
  rw [h1]
  simp
  omega
end DL

set_option Elab.async false
set_option linter.all false
set_option maxRecDepth 100000
set_option maxHeartbeats 1000000
/-! what the law's names and formulas are -/
namespace K77
open PySem PySem.Spec PyProof.Rows L2 DL
theorem twelve_ok : ∀ z ∈ twelve, (isName z = true ∧ ¬ amount z > 1 ∧ z ≠ "(") ∧ (z.cps.toList ≠ [] ∧ ∀ k ∈ z.cps.toList, k ≠ 32 ∧ k ≠ 40 ∧ k ≠ 41) ∧ z.length ≤ 3 ∧ PyData.strOk z = true ∧ z.cps.toList ≠ [40] ∧ z.cps.toList ≠ [41] := by decide +kernel
/-- a formula of the law -/
structure Good (f : Fm) : Prop where
  fit : f.fits 60
  cond : Cond [] 1 f
  few : f.leaves.length ≤ 8
  ne : f.leaves ≠ []
  lv : ∀ z ∈ f.leaves, okZ z ∧ z.cps.toList ≠ [40] ∧ z.cps.toList ≠ [41]
  so : ∀ z ∈ f.leaves, PyData.strOk z = true
  nodes : f.nodes ≤ 75
theorem good {ys : List Str} (hy : ys.Perm twelve) {n : Nat} (h1 : 1 ≤ n) (h8 : n ≤ 8) {f : Fm} (h : FmOk (ys.take n) 60 3 f) : Good f := by
  have hl : ys.length = 12 := hy.length_eq
  have hlen : (ys.take n).length = n := by rw [List.length_take]; omega
  have hmem : ∀ z ∈ f.leaves, z ∈ twelve := fun z hz => by
    rw [h.lv] at hz
    exact hy.mem_iff.mp (List.mem_of_mem_take hz)
  have hnd : (ys.take n).Nodup := (List.take_sublist n ys).nodup (hy.nodup_iff.mpr (by decide +kernel))
  refine ⟨h.fit, ⟨⟨60, h.fit, by decide⟩, by decide, by rw [List.nil_append, h.lv]; exact hnd, by rw [List.nil_append, h.lv, hlen]; exact h8, fun z hz => ?_⟩, by rw [h.lv, hlen]; exact h8, fun e => ?_, fun z hz => ?_, fun z hz => ?_, ?_⟩
  · obtain ⟨⟨a, b, c⟩, _⟩ := twelve_ok z (hmem z hz)
    exact ⟨a, b, c⟩
  · rw [h.lv] at e
    rw [e] at hlen
    simp at hlen
    omega
  · obtain ⟨_, b, c, _, d, e⟩ := twelve_ok z (hmem z hz)
    exact ⟨⟨.inr (.inr b), c⟩, d, e⟩
  · exact (twelve_ok z (hmem z hz)).2.2.2.1
  · have := h.sz
    rw [hlen] at this
    have e : (3 : Int).toNat = 3 := rfl
    rw [e] at this
    omega
theorem Good.pre {f : Fm} (g : Good f) : f.high ≤ 14 ∧ SeqAt.shaped (toPy f.enc) = true ∧ PyData.eqv (toPy f.enc) (toPy f.enc) = true := by
  obtain ⟨a, b, c⟩ := shaped_fm (m := 60) (by decide) g.fit g.few g.so
  exact ⟨c, a, b⟩
theorem Good.words {f : Fm} (g : Good f) {on b : Bool} {ws : List Str} (s : Says on b f ws) : ∀ y ∈ ws, okZ y := says_ok (m := 60) (by decide) s g.fit fun z hz => (g.lv z hz).1
theorem Good.p2 {f : Fm} {on b : Bool} {ws : List Str} (s : Says on b f ws) : P2 f ws := (parse s).2
/-- the shown text is read as its words -/
theorem Good.due {f : Fm} (g : Good f) {ws : List Str} (s : Says false false f ws) : Txt.replace (Txt.replace (Txt.join " " ws) "( " "(") " )" ")" = showF f ∧ tokens (showF f) = ws ∧ (showF f).length ≤ 1200 := by
  have h1 := due_show (m := 60) (by decide) s g.fit g.lv
  have hok := fun y hy => (g.words s y hy).1
  refine ⟨h1, ?_, ?_⟩
  · have h2 := due_cps hok
    rw [h1] at h2
    exact map_cps_inj (tokens_glue hok h2)
  · have := (showP_len (m := 60) (by decide) g.fit fun z hz => Nat.le_trans (g.lv z hz).1.2 (by decide)).2
    have := g.nodes
    omega
end K77

set_option Elab.async false
set_option linter.all false
set_option maxRecDepth 100000
set_option maxHeartbeats 1000000
/-! the walk of law -/
namespace K77
open PySem PySem.Spec PyProof.Rows L2 DL
local macro_rules | `(tactic| walk_at "dl.1") => `(tactic| first
  | with_reducible exact ev_int
  | with_reducible exact ev_str
  | with_reducible exact ev_bl
  | with_reducible exact ev_non
  | with_reducible exact ea_nil
  | with_reducible exact eo_none
  | ((with_reducible refine' ev_var ?_ ?_) <;> rfl)
  | with_reducible refine' ea_cons ?_ ?_
  | with_reducible refine' eo_some ?_
  | with_reducible refine' ev_I0 ?_ ?_
  | with_reducible refine' ev_B0 ?_ ?_
  | with_reducible refine' ev_I ?_ ?_ ?_
  | with_reducible refine' ev_qEqI ?_ ?_
  | with_reducible refine' ev_qNeI ?_ ?_
  | with_reducible refine' ev_qEqS ?_ ?_
  | with_reducible refine' ev_qNeS ?_ ?_
  | with_reducible refine' ev_neg ?_
  | with_reducible refine' ev_addT ?_ ?_ ?_
  | with_reducible refine' ev_sign ?_ ?_
  | with_reducible refine' ev_chI ?_ ?_ (fun _ => ?_)
  | with_reducible refine' et_test ?_
  | with_reducible refine' et_B ?_
  | with_reducible refine' et_and ?_ (fun _ => ?_)
  | with_reducible refine' et_or ?_ (fun _ => ?_)
  | with_reducible refine' et_not ?_
  | with_reducible refine' ev_andV ?_ (fun _ => ?_)
  | with_reducible refine' ev_orV ?_ (fun _ => ?_)
  | with_reducible refine' ev_notV ?_
  | with_reducible refine' ev_abs ?_
  | with_reducible refine' ev_strI ?_ ?_
  | with_reducible refine' ev_lenS ?_ ?_
  | with_reducible refine' ev_isS (ea_cons ?_ (ea_cons ev_raw ea_nil)))
local macro_rules | `(tactic| walk_at "dl") => `(tactic| (repeat' walk_at "dl.1"))
local macro_rules | `(tactic| walk_at "dl.s") => `(tactic| first | assumption | omega | decide | exact trivial)
local macro_rules | `(tactic| walk_at "dls") => `(tactic| (walk_at "dl") <;> (walk_at "dl.s"))
local macro_rules | `(tactic| walk_at "dl.n") => `(tactic| (refine nxt ?_; dsimp only))

def spLaw (K : PySem.W.Frag) : Sp := fun vs H Q _ => ∃ (a : Addr) (ns : List Int), vs = [.ref a] ∧ SqL K H a (ns.map V.int) ∧ ns.length ≤ 63 ∧ ∀ H', Q (.bl true) H'
/-- the test does not hold -/
def T0 (F : Fx) (c : Ct) (tt : TT) : Prop := ∀ H σ, Wd F c H σ → ∀ Q : Bool → Hp → Prop, (∀ H', Wd F c H' σ → Q false H') → tt σ H Q
section
variable {F : Fx} {c : Ct} {t u : TT} {te ta tb tl : TE} {tr : TA} {R R0 : Sl → Prop} {K : PySem.W.Frag} {E E1 : XK} {hp lp C : Addr} {f : Fm}
theorem T0.of (h : EvRT F c t (fun b => b = false)) : T0 F c t := fun H σ w Q q => h c (Xt.refl c) H σ w Q fun b hb H1 w1 _ => by
  subst hb
  exact q H1 w1
theorem T0.or (h1 : T0 F c t) (h2 : T0 F c u) : T0 F c (tOr t u) := fun H σ w Q q => h1 H σ w _ fun H1 w1 => h2 H1 σ w1 Q q
theorem q_no {D : Ends} {H : Hp} {σ : L2.St} {tt : TT} {ts us : TS} (w : Wd F c H σ) (h : T0 F c tt) (k : ∀ H', Wd F c H' σ → us D σ H') : tSeq (tIfS tt ts tNext) us D σ H := h H σ w _ fun H1 w1 => k H1 w1
theorem T0.read (hn : ∀ H σ, Wd F c H σ → ∀ a ∈ c.A, ∀ xs, H a ≠ some (.tup xs)) (h : EvRA F c tr (fun ss => ∃ z : Str, ss = [.d (.str z)] ∧ z.length ≤ 25000 ∧ readM (tokens z) = .inl f)) (hb : EvP F c tb (.d f.enc))
    (sd : SeqAt.shaped (toPy f.enc) = true) (hd : PyData.eqv (toPy f.enc) (toPy f.enc) = true) : T0 F c (tTest (tOp (rNeD K) (tCall (spRead C) [] E tr) tb)) := fun H σ w Q q =>
  h c (Xt.refl c) H σ w _ fun ss hss vs H1 w1 k1 h1 => by
    obtain ⟨z, rfl, hz, hr⟩ := hss
    rw [List.append_nil]
    cases h1 with
    | cons e r =>
      cases r
      have e2 := SlOk.str e
      subst e2
      refine ⟨z, rfl, hz, fun f2 hf2 v H2 le hv => ?_, fun i hi => ?_⟩
      · rw [hr] at hf2
        cases hf2
        have w2 := w1.le le
        have hv2 : Dq (Off c.A H2) v f.enc := Dq.plain (B := []) (fun b hb => .inr (hn H2 σ w2 b hb)) (plain_fm f) (by
          have : Off [] H2 = H2 := by funext b; simp [DL.Off]
          rw [this]
          exact hv)
        refine hb c (Xt.refl c) H2 σ w2 _ fun v2 H3 w3 k3 h3 => ?_
        refine ⟨_, _, Dq.py off_le (flat_fm f) (Dq.mono k3.off hv2), Dq.py off_le (flat_fm f) h3, sd, sd, _, rfl, ?_⟩
        rw [hd]
        exact q H3 w3
      · rw [hr] at hi
        cases hi
theorem r_text (hi : c.M[0]? = some (hp, .heap lp)) (hv : c.S[1]? = some (.v (.ref hp))) (h : EvR F c tl R0) (hr : ∀ s, R0 s → ∃ ws, s = .d (.lst (dStrs ws)) ∧ (∀ y ∈ ws, okZ y) ∧ ws.length ≤ 4960 ∧ R (.d (.lst (dStrs ws)))) :
    EvR F c (tCall spText [] E (tCons (tVar 1) (tCons tl tNil))) (fun s => ∃ (z : Str) (ws : List Str), s = .d (.str z) ∧ z.length ≤ 25000 ∧ tokens z = ws ∧ R (.d (.lst (dStrs ws)))) :=
  r_callH hi (ra_cons0 (ev_var hv) (ra_cons1 h ea_nil)) (by
    rintro _ ⟨_, ⟨s, hs, rfl⟩, rfl⟩
    obtain ⟨ws, rfl, h1, h2, h3⟩ := hr s hs
    refine ⟨ws, rfl, ⟨h1, h2⟩, ?_⟩
    rintro _ ⟨z, rfl, hz, ht⟩
    exact ⟨z, ws, rfl, by omega, ht, h3⟩)
theorem r_wrong (hi : c.M[0]? = some (hp, .heap lp)) (hv : c.S[1]? = some (.v (.ref hp))) (h : EvR F c tl R0) (hr : ∀ s, R0 s → ∃ ws, s = .d (.lst (dStrs ws)) ∧ (∀ y ∈ ws, okZ y) ∧ ws.length ≤ 4960 ∧ R (.d (wrongM ws))) :
    EvR F c (tCall spWrong [] E1 (tCons (tCall spText [] E (tCons (tVar 1) (tCons tl tNil))) tNil)) R :=
  r_call (ra_cons1 (r_text (R := fun s => ∃ ws, s = .d (.lst (dStrs ws)) ∧ R (.d (wrongM ws))) hi hv h (fun s hs => by
    obtain ⟨ws, h0, h1, h2, h3⟩ := hr s hs
    exact ⟨ws, h0, h1, h2, ws, rfl, h3⟩)) ea_nil) (by
    rintro _ ⟨_, ⟨z, ws, rfl, hz, ht, vs, e, h3⟩, rfl⟩
    have e2 : vs = ws := by
      have h := e
      simp only [Sl.d.injEq, Dt.lst.injEq] at h
      have h2 : (dStrs ws).map (fun d => match d with | .str y => y | _ => ("" : Str)) = (dStrs vs).map (fun d => match d with | .str y => y | _ => ("" : Str)) := by rw [h]
      simpa [dStrs, Function.comp_def] using h2.symm
    subst e2
    subst ht
    refine ⟨z, rfl, hz, ?_⟩
    rintro _ rfl
    exact h3)
theorem r_readA (hi : c.M[0]? = some (hp, .heap lp)) (hv : c.S[1]? = some (.v (.ref hp))) {ws : List Str} (h : EvP F c tl (.d (.lst (dStrs ws)))) (h1 : ∀ y ∈ ws, okZ y) (h2 : ws.length ≤ 4960) (h3 : readM ws = .inl f) :
    EvRA F c (tCons (tCall spText [] E (tCons (tVar 1) (tCons tl tNil))) tNil) (fun ss => ∃ z : Str, ss = [.d (.str z)] ∧ z.length ≤ 25000 ∧ readM (tokens z) = .inl f) :=
  (ra_cons1 (R := fun s => ∃ z : Str, s = .d (.str z) ∧ z.length ≤ 25000 ∧ tokens z = ws) (r_callH hi (ra_cons0 (ev_var hv) (ra_cons1 (h.r (R := fun s => s = .d (.lst (dStrs ws))) rfl) ea_nil)) (by
    rintro _ ⟨_, ⟨s, rfl, rfl⟩, rfl⟩
    refine ⟨ws, rfl, ⟨h1, h2⟩, ?_⟩
    rintro _ ⟨z, rfl, hz, ht⟩
    exact ⟨z, rfl, by omega, ht⟩)) ea_nil).imp (by
    rintro _ ⟨_, ⟨z, rfl, hz, ht⟩, rfl⟩
    exact ⟨z, rfl, hz, by rw [ht]; exact h3⟩)
/-- a draw -/
theorem r_drawN (hi : c.M[0]? = some (hp, .heap lp)) (hv : c.S[1]? = some (.v (.ref hp))) {n : Int} (h : EvP F c te (.d (.int n))) (h1 : 0 < n ∧ n < 1000000) :
    EvR F c (tCall spDraw [] E (tCons (tVar 1) (tCons te tNil))) (fun s => ∃ r : Nat, (r : Int) < n ∧ s = .d (.int r)) :=
  r_callH hi ((ea_cons (ev_var hv) (ea_cons h ea_nil)).r (RA := fun ss => ss = [.v (.ref hp), .d (.int n)]) rfl) (by
    rintro _ rfl
    refine ⟨n, rfl, h1, ?_⟩
    rintro _ ⟨r, r0, r1, rfl⟩
    exact ⟨r.toNat, by omega, by rw [show ((r.toNat : Nat) : Int) = r by omega]⟩)
end
theorem heap_notup {F : Fx} {hp lp : Addr} {G : List (V × Dt)} {S : List Sl} (H : Hp) (σ : L2.St) (w : Wd F ⟨[hp, lp], G, [(hp, .heap lp), (lp, .held hp)], S⟩ H σ) : ∀ a ∈ [hp, lp], ∀ xs, H a ≠ some (.tup xs) := by
  obtain ⟨L, s, e1, e2, _⟩ := w.mO (hp, .heap lp) (by simp)
  intro b hb xs h
  rcases List.mem_cons.mp hb with rfl | hb
  · rw [e1] at h; cases h
  · rw [List.mem_singleton] at hb
    subst hb
    rw [e2] at h; cases h
end K77

set_option Elab.async false
set_option linter.all false
set_option maxRecDepth 100000
set_option maxHeartbeats 4000000
namespace K77
open PySem PySem.Spec PyProof.Rows L2 DL
local macro_rules | `(tactic| walk_at "dl.1") => `(tactic| first
  | with_reducible exact ev_int
  | with_reducible exact ev_str
  | with_reducible exact ev_bl
  | with_reducible exact ev_non
  | with_reducible exact ea_nil
  | with_reducible exact eo_none
  | ((with_reducible refine' ev_var ?_ ?_) <;> rfl)
  | with_reducible refine' ea_cons ?_ ?_
  | with_reducible refine' eo_some ?_
  | with_reducible refine' ev_I0 ?_ ?_
  | with_reducible refine' ev_B0 ?_ ?_
  | with_reducible refine' ev_I ?_ ?_ ?_
  | with_reducible refine' ev_qEqI ?_ ?_
  | with_reducible refine' ev_qNeI ?_ ?_
  | with_reducible refine' ev_qEqS ?_ ?_
  | with_reducible refine' ev_qNeS ?_ ?_
  | with_reducible refine' ev_neg ?_
  | with_reducible refine' ev_addT ?_ ?_ ?_
  | with_reducible refine' ev_sign ?_ ?_
  | with_reducible refine' ev_chI ?_ ?_ (fun _ => ?_)
  | with_reducible refine' et_test ?_
  | with_reducible refine' et_B ?_
  | with_reducible refine' et_and ?_ (fun _ => ?_)
  | with_reducible refine' et_or ?_ (fun _ => ?_)
  | with_reducible refine' et_not ?_
  | with_reducible refine' ev_andV ?_ (fun _ => ?_)
  | with_reducible refine' ev_orV ?_ (fun _ => ?_)
  | with_reducible refine' ev_notV ?_
  | with_reducible refine' ev_abs ?_
  | with_reducible refine' ev_strI ?_ ?_
  | with_reducible refine' ev_lenS ?_ ?_
  | with_reducible refine' ev_isS (ea_cons ?_ (ea_cons ev_raw ea_nil)))
local macro_rules | `(tactic| walk_at "dl") => `(tactic| (repeat' walk_at "dl.1"))
local macro_rules | `(tactic| walk_at "dl.s") => `(tactic| first | assumption | omega | decide | exact trivial)
local macro_rules | `(tactic| walk_at "dls") => `(tactic| (walk_at "dl") <;> (walk_at "dl.s"))
local macro_rules | `(tactic| walk_at "dl.n") => `(tactic| (refine nxt ?_; dsimp only))

theorem rep1 (k : Nat) (x : Str) : (List.replicate k [Dt.str x]).flatten = dStrs (List.replicate k x) := by
  induction k with
  | zero => rfl
  | succ k ih => rw [List.replicate_succ, List.flatten_cons, ih]; rfl
theorem dS_app (xs ys : List Str) : dStrs (xs ++ ys) = dStrs xs ++ dStrs ys := List.map_append
theorem dS_len (xs : List Str) : (dStrs xs).length = xs.length := List.length_map _
theorem dS_take (xs : List Str) (n : Nat) : (dStrs xs).take n = dStrs (xs.take n) := by simp [dStrs, List.map_take]
theorem par_len (k : Nat) (ws : List Str) : (par k ws).length = k + ws.length + k := by
  simp [par]
  omega
theorem par_take {k j : Nat} {ws : List Str} (h : j ≤ k) : (par k ws).take (k + ws.length + j) = List.replicate k lpS ++ ws ++ List.replicate j rpS := by
  unfold par
  rw [List.take_append, List.take_of_length_le (by simp)]
  congr 1
  rw [List.take_replicate]
  congr 1
  simp
  omega
theorem par_take0 {k : Nat} {ws : List Str} : (par k ws).take k = List.replicate k lpS := by
  unfold par
  rw [List.append_assoc, List.take_append, List.take_of_length_le (by simp)]
  simp
theorem join_bound {ws : List Str} (h : ∀ y ∈ ws, okZ y) (hl : ws.length ≤ 4799) : (ws.map (·.length)).sum + ws.length * (" " : Str).length ≤ 20000 ∧ (Txt.join " " ws).length ≤ 20000 := by
  have h1 : (ws.map (·.length)).sum ≤ 3 * ws.length := by
    clear hl
    induction ws with
    | nil => simp
    | cons y ws ih =>
      have := (h y (by simp)).2
      have := ih fun z hz => h z (List.mem_cons_of_mem _ hz)
      rw [List.map_cons, List.sum_cons, List.length_cons]
      omega
  have h2 : (" " : Str).length = 1 := by decide
  have h3 : (Txt.join " " ws).length ≤ (ws.map (·.length)).sum + ws.length * (" " : Str).length := by
    rw [Txt.join, StrLaws.glued_eq_join]
    exact StrLaws.join_length_le " " ws
  rw [h2] at h3 ⊢
  omega
theorem lpZ : okZ lpS := ⟨by unfold okW; left; decide, by decide⟩
theorem rpZ : okZ rpS := ⟨by unfold okW; right; left; decide, by decide⟩
theorem litZ : ∀ z ∈ (["x1", "and", "or", "2", "of"] : List Str), (z.cps.toList ≠ [] ∧ ∀ k ∈ z.cps.toList, k ≠ 32 ∧ k ≠ 40 ∧ k ≠ 41) ∧ z.length ≤ 3 := by decide +kernel
theorem litZ' {z : Str} (h : z ∈ (["x1", "and", "or", "2", "of"] : List Str)) : okZ z := ⟨.inr (.inr (litZ z h).1), (litZ z h).2⟩
theorem all_app {xs ys : List Str} (h1 : ∀ y ∈ xs, okZ y) (h2 : ∀ y ∈ ys, okZ y) : ∀ y ∈ xs ++ ys, okZ y := fun y hy => (List.mem_append.mp hy).elim (h1 y) (h2 y)
theorem all_rep {k : Nat} {x : Str} (h : okZ x) : ∀ y ∈ List.replicate k x, okZ y := fun y hy => by
  rw [(List.mem_replicate.mp hy).2]
  exact h
theorem all_one {x : Str} (h : okZ x) : ∀ y ∈ [x], okZ y := fun y hy => by
  rw [List.mem_singleton] at hy
  subst hy
  exact h
theorem wrong_of {ws : List Str} {i : Nat} (h : readM ws = .inr i) : wrongM ws = .int (i : Nat) := by
  unfold wrongM
  rw [h]
section
variable {P : Program} {w : World} {K : PySem.W.Frag} {mg : Str → Option Value} {base : Heap} {a : Ads}
theorem ok_law (T : Txt K mg a) (X : ExcT P K mg a) : FnOk P w K mg base CX0 30 a.law a.d_law P_law (spLaw K) := by
  have ok_formula := fun T : Txt K mg a => ok_formulaK (P := P) (w := w) (base := base) T 11
  have ok_words := fun T : Txt K mg a => ok_wordsK (P := P) (w := w) (base := base) T 14
  have ok_show_formula := fun T : Txt K mg a => ok_showK (P := P) (w := w) (base := base) T 14
  have ok_read_formula := fun T : Txt K mg a => K77.ok_read_formula (P := P) (w := w) (base := base) T X
  have ok_wrong := fun T : Txt K mg a => K77.ok_wrong (P := P) (w := w) (base := base) T X
  refine T.law.F.ok sc_law (fun vs H Q E h => ?_) (fun cdv A outer s H vs Q E hr h => ?_)
  · obtain ⟨p, ns, rfl, _⟩ := h
    rfl
  · obtain ⟨p, ns, rfl, hS, hl, q⟩ := h
    have w0 : Wd ⟨[], H⟩ ⟨[], [], [], [.v (.ref p), .u, .u, .u, .u, .u, .u, .u, .u, .u, .u, .u]⟩ H (L2.start N_law [.ref p]) := wd_start0 rfl
    refine ⟨_, (pss_cons (ps_set (i := 1) sc_law.nd rfl (by first | exact Or.inl rfl | exact Or.inr rfl) (pe_call (ok_heap T) (hr.mono (by decide)) (by rfl) T.heap.g T.heap.F.kp T.heap.b .nil pass0 (pa_cons (pv 0) pa_nil)))
      (pss_cons (ps_for PassesOwn.never rfl (pi_range1 rfl T.n_range (pa_cons pe_int pa_nil)) (pg_name (i := 2) sc_law.nd rfl (by first | exact Or.inl rfl | exact Or.inr rfl)) (pss_cons (ps_set (i := 3) sc_law.nd rfl (by first | exact Or.inl rfl | exact Or.inr rfl) (pe_call (ok_names T) (hr.mono (by decide)) (by rfl) T.names.g T.names.F.kp T.names.b .nil pass0 (pa_cons (pv 1) (pa_cons (pe_op op_add pe_int (pe_call (ok_draw T) (hr.mono (by decide)) (by rfl) T.draw.g T.draw.F.kp T.draw.b .nil pass0 (pa_cons (pv 1) (pa_cons pe_int pa_nil)))) pa_nil))))
      (pss_cons (ps_set (i := 4) sc_law.nd rfl (by first | exact Or.inl rfl | exact Or.inr rfl) (pe_call (ok_formula T) (hr.mono (by decide)) (by rfl) T.formula.g T.formula.F.kp T.formula.b .nil pass0 (pa_cons (pv 1) (pa_cons (pv 3) (pa_cons pe_int (pa_cons pe_int pa_nil))))))
      (pss_cons (ps_set (i := 5) sc_law.nd rfl (by first | exact Or.inl rfl | exact Or.inr rfl) (pe_call (ok_words T) (hr.mono (by decide)) (by rfl) T.words.g T.words.F.kp T.words.b .nil pass0 (pa_cons (pv 1) (pa_cons (pv 4) (pa_cons pe_bl (pa_cons (pe_call (ok_pick T) (hr.mono (by decide)) (by rfl) T.pick.g T.pick.F.kp T.pick.b .nil pass0 (pa_cons (pv 1) (pa_cons (pe_lst (pa_cons pe_int (pa_cons pe_int (pa_cons pe_int (pa_cons pe_int pa_nil))))) pa_nil))) pa_nil))))))
      (pss_cons (ps_if (pt_cmpR (op_neD hr.units) (pe_call (ok_read_formula T) (hr.mono (by decide)) (by rfl) T.read_formula.g T.read_formula.F.kp T.read_formula.b .nil passL (pa_cons (pe_call (ok_text T) (hr.mono (by decide)) (by rfl) T.text.g T.text.F.kp T.text.b .nil pass0 (pa_cons (pv 1) (pa_cons (pv 5) pa_nil))) pa_nil)) (pv 4) (nomark _)) (pss_one (ps_ret pe_bl)) pss_nil)
      (pss_cons (ps_set (i := 6) sc_law.nd rfl (by first | exact Or.inl rfl | exact Or.inr rfl) (pe_call (ok_words T) (hr.mono (by decide)) (by rfl) T.words.g T.words.F.kp T.words.b .nil pass0 (pa_cons (pv 1) (pa_cons (pv 4) (pa_cons pe_bl (pa_cons pe_int pa_nil))))))
      (pss_cons (ps_set (i := 7) sc_law.nd rfl (by first | exact Or.inl rfl | exact Or.inr rfl) (PEo.pe (peo_repl (peo_repl (peo_join (pv 6))))))
      (pss_cons (ps_if (PW.pt (pw_or (pt_cmpR do_neS (pe_call (ok_show_formula T) (hr.mono (by decide)) (by rfl) T.show_formula.g T.show_formula.F.kp T.show_formula.b .nil pass0 (pa_cons (pv 4) pa_nil)) (pv 7) (nomark _)) (pw_or1 (pt_cmpR (op_neD hr.units) (pe_call (ok_read_formula T) (hr.mono (by decide)) (by rfl) T.read_formula.g T.read_formula.F.kp T.read_formula.b .nil passL (pa_cons (pv 7) pa_nil)) (pv 4) (nomark _))))) (pss_one (ps_ret pe_bl)) pss_nil)
      (pss_cons (ps_set (i := 8) sc_law.nd rfl (by first | exact Or.inl rfl | exact Or.inr rfl) (pe_op op_add pe_int (pe_call (ok_draw T) (hr.mono (by decide)) (by rfl) T.draw.g T.draw.F.kp T.draw.b .nil pass0 (pa_cons (pv 1) (pa_cons pe_int pa_nil)))))
      (pss_cons (ps_set (i := 9) sc_law.nd rfl (by first | exact Or.inl rfl | exact Or.inr rfl) (pe_op op_cat (pe_op op_cat (pe_op op_rep (pe_lst (pa_cons pe_str pa_nil)) (pv 8)) (pv 5)) (pe_op op_rep (pe_lst (pa_cons pe_str pa_nil)) (pv 8))))
      (pss_cons (ps_if (PW.pt (pw_or (pt_cmpR (op_neD hr.units) (pe_call (ok_read_formula T) (hr.mono (by decide)) (by rfl) T.read_formula.g T.read_formula.F.kp T.read_formula.b .nil passL (pa_cons (pe_call (ok_text T) (hr.mono (by decide)) (by rfl) T.text.g T.text.F.kp T.text.b .nil pass0 (pa_cons (pv 1) (pa_cons (pv 9) pa_nil))) pa_nil)) (pv 4) (nomark _)) (pw_or1 (pt_cmpR do_neI (pe_call (ok_wrong T) (hr.mono (by decide)) (by rfl) T.wrong.g T.wrong.F.kp T.wrong.b .nil pass0 (pa_cons (pe_call (ok_text T) (hr.mono (by decide)) (by rfl) T.text.g T.text.F.kp T.text.b .nil pass0 (pa_cons (pv 1) (pa_cons (pe_op op_cat (pv 9) (pe_lst (pa_cons pe_str pa_nil))) pa_nil))) pa_nil)) (pe_callB dc_len (by rfl) T.n_len PySem.boot_len (pa_cons (pv 9) pa_nil)) (nomark _))))) (pss_one (ps_ret pe_bl)) pss_nil)
      (pss_cons (ps_if (pt_cmpR op_isN (pe_call (ok_wrong T) (hr.mono (by decide)) (by rfl) T.wrong.g T.wrong.F.kp T.wrong.b .nil pass0 (pa_cons (pe_call (ok_text T) (hr.mono (by decide)) (by rfl) T.text.g T.text.F.kp T.text.b .nil pass0 (pa_cons (pv 1) (pa_cons (pe_slice sl_list (pv 9) po_none (po_some (pe_op op_sub (pe_op op_sub (pe_callB dc_len (by rfl) T.n_len PySem.boot_len (pa_cons (pv 9) pa_nil)) pe_int) (pe_call (ok_draw T) (hr.mono (by decide)) (by rfl) T.draw.g T.draw.F.kp T.draw.b .nil pass0 (pa_cons (pv 1) (pa_cons (pv 8) pa_nil)))))) pa_nil))) pa_nil)) pe_non (nomark _)) (pss_one (ps_ret pe_bl)) pss_nil)
      (pss_cons (ps_set (i := 10) sc_law.nd rfl (by first | exact Or.inl rfl | exact Or.inr rfl) (pe_op op_add (pe_op op_add (pv 8) (pe_callB dc_len (by rfl) T.n_len PySem.boot_len (pa_cons (pv 5) pa_nil))) (pe_call (ok_draw T) (hr.mono (by decide)) (by rfl) T.draw.g T.draw.F.kp T.draw.b .nil pass0 (pa_cons (pv 1) (pa_cons (pv 8) pa_nil)))))
      (pss_cons (ps_if (pt_cmpR do_neI (pe_call (ok_wrong T) (hr.mono (by decide)) (by rfl) T.wrong.g T.wrong.F.kp T.wrong.b .nil pass0 (pa_cons (pe_call (ok_text T) (hr.mono (by decide)) (by rfl) T.text.g T.text.F.kp T.text.b .nil pass0 (pa_cons (pv 1) (pa_cons (pe_slice sl_list (pv 9) po_none (po_some (pv 10))) pa_nil))) pa_nil)) (pv 10) (nomark _)) (pss_one (ps_ret pe_bl)) pss_nil)
      (pss_cons (ps_if (PW.pt (pw_or (pt_cmpR do_neI (pe_call (ok_wrong T) (hr.mono (by decide)) (by rfl) T.wrong.g T.wrong.F.kp T.wrong.b .nil pass0 (pa_cons (pe_call (ok_text T) (hr.mono (by decide)) (by rfl) T.text.g T.text.F.kp T.text.b .nil pass0 (pa_cons (pv 1) (pa_cons (pe_op op_cat (pe_slice sl_list (pv 9) po_none (po_some (pv 10))) (pe_lst (pa_cons pe_str pa_nil))) pa_nil))) pa_nil)) (pv 10) (nomark _)) (pw_or1 (pt_cmpR do_neI (pe_call (ok_wrong T) (hr.mono (by decide)) (by rfl) T.wrong.g T.wrong.F.kp T.wrong.b .nil pass0 (pa_cons (pe_call (ok_text T) (hr.mono (by decide)) (by rfl) T.text.g T.text.F.kp T.text.b .nil pass0 (pa_cons (pv 1) (pa_cons (pe_op op_cat (pe_slice sl_list (pv 9) po_none (po_some (pv 8))) (pe_lst (pa_cons pe_str pa_nil))) pa_nil))) pa_nil)) (pv 8) (nomark _))))) (pss_one (ps_ret pe_bl)) pss_nil)
      (pss_cons (ps_set (i := 11) sc_law.nd rfl (by first | exact Or.inl rfl | exact Or.inr rfl) (pe_op op_cat (pv 9) (pe_lst (pa_cons (pe_call (ok_pick T) (hr.mono (by decide)) (by rfl) T.pick.g T.pick.F.kp T.pick.b .nil pass0 (pa_cons (pv 1) (pa_cons (pe_lst (pa_cons pe_str (pa_cons pe_str pa_nil))) pa_nil))) (pa_cons (pe_ix ix_list (pv 3) pe_int (fun _ _ => rfl)) pa_nil)))))
      (pss_cons (ps_if (pt_cmpR do_neI (pe_call (ok_wrong T) (hr.mono (by decide)) (by rfl) T.wrong.g T.wrong.F.kp T.wrong.b .nil pass0 (pa_cons (pe_call (ok_text T) (hr.mono (by decide)) (by rfl) T.text.g T.text.F.kp T.text.b .nil pass0 (pa_cons (pv 1) (pa_cons (pv 11) pa_nil))) pa_nil)) (pe_op op_sub (pe_callB dc_len (by rfl) T.n_len PySem.boot_len (pa_cons (pv 11) pa_nil)) pe_int) (nomark _)) (pss_one (ps_ret pe_bl)) pss_nil)
      (pss_one (ps_if (pt_cmpR do_neI (pe_call (ok_wrong T) (hr.mono (by decide)) (by rfl) T.wrong.g T.wrong.F.kp T.wrong.b .nil pass0 (pa_cons (pe_call (ok_text T) (hr.mono (by decide)) (by rfl) T.text.g T.text.F.kp T.text.b .nil pass0 (pa_cons (pv 1) (pa_cons (pe_op op_cat (pe_op op_cat (pe_op op_cat (pe_op op_cat (pe_op op_rep (pe_lst (pa_cons pe_str (pa_cons pe_str pa_nil))) pe_int) (pe_op op_rep (pe_lst (pa_cons pe_str pa_nil)) (pv 8))) (pe_lst (pa_cons pe_str (pa_cons pe_str pa_nil)))) (pv 5)) (pe_op op_rep (pe_lst (pa_cons pe_str pa_nil)) (pv 8))) pa_nil))) pa_nil)) (pe_op op_add pe_int (pv 8)) (nomark _)) (pss_one (ps_ret pe_bl)) pss_nil)))))))))))))))))))
      (pss_one (ps_ret pe_bl)))), ?_⟩
    refine q_heap hS hl w0 (ea_cons (ev_var rfl) ea_nil) fun hp lp H1 σ1 w1 => ?_
    refine q_for w1 (ei_rng1 (ea_cons ev_int ea_nil) (by decide)) (fun i c1 => ∃ x2 x3 x4 x5 x6 x7 x8 x9 x10 x11, c1 = ⟨[hp, lp], [], [(hp, .heap lp), (lp, .held hp)], [.v (.ref p), .v (.ref hp), x2, x3, x4, x5, x6, x7, x8, x9, x10, x11]⟩) ⟨.u, .u, .u, .u, .u, .u, .u, .u, .u, .u, rfl⟩ ?_ ?_
    · rintro i s c1 hi ⟨x2, x3, x4, x5, x6, x7, x8, x9, x10, x11, rfl⟩
      refine ⟨_, eg_name, fun G H2 σ2 w2 => ?_⟩
      refine q_setR w2 (R := fun s => ∃ (ys : List Str) (n : Nat), ys.Perm twelve ∧ 1 ≤ n ∧ n ≤ 8 ∧ s = .d (.lst (dStrs (ys.take n)))) (r_callH (i := 0) rfl (ra_cons0 (ev_var rfl) (ra_cons1 (R := fun s => ∃ n : Nat, 1 ≤ n ∧ n ≤ 8 ∧ s = .d (.int n)) (r_op (ev_int.r (R := fun s => s = .d (.int 1)) rfl) (r_drawN rfl rfl ev_int (by decide)) ?_) ea_nil)) ?_) ?_
      · rintro _ _ rfl ⟨r, hr1, rfl⟩
        exact ⟨.d (.int (1 + (r : Nat))), ⟨r + 1, by omega, by omega, by congr 2; omega⟩, rv_I0⟩
      · rintro _ ⟨_, ⟨_, ⟨n, n1, n2, rfl⟩, rfl⟩, rfl⟩
        refine ⟨(n : Int), rfl, by omega, ?_⟩
        rintro _ ⟨ys, hy, rfl⟩
        exact ⟨ys, n, hy, n1, n2, rfl⟩
      rintro _ ⟨ys, n, hy, n1, n2, rfl⟩ H3 σ3 w3
      have hyl : (ys.take n).length = n := by rw [List.length_take, hy.length_eq]; show min n 12 = n; omega
      refine q_setR w3 (R := fun s => ∃ f : Fm, Good f ∧ f.leaves = ys.take n ∧ s = .d f.enc) (r_callH (i := 0) rfl ((ea_cons (ev_var rfl) (ea_cons (ev_var rfl) (ea_cons ev_int (ea_cons ev_int ea_nil)))).r (RA := fun ss => ss = [.v (.ref hp), .d (.lst (dStrs (ys.take n))), .d (.int 60), .d (.int 3)]) rfl) ?_) ?_
      · rintro _ rfl
        refine ⟨(ys.take n, 60, 3), rfl, ⟨?_, ?_, by show (0 : Int) ≤ 3; decide, by show (1 : Int) ≤ 60; decide, ?_, by show (60 : Int) ≤ 1000000; decide⟩, ?_⟩
        · show 1 ≤ (ys.take n).length
          omega
        · show (ys.take n).length + 3 ≤ 11
          omega
        · show (ys.take n).length < 1000
          omega
        · rintro _ ⟨f, rfl, hf⟩
          exact ⟨f, good hy n1 n2 hf, hf.lv, rfl⟩
      rintro _ ⟨f, gf, hlv, rfl⟩ H4 σ4 w4
      obtain ⟨g1, g2, g3⟩ := gf.pre
      have gn := gf.nodes
      refine q_setR w4 (R := fun s => ∃ (on : Bool) (ws : List Str), Says on false f ws ∧ ws.length ≤ 4799 ∧ s = .d (.lst (dStrs ws))) (r_callH (i := 0) rfl (ra_cons0 (ev_var rfl) (ra_cons0 (ev_var rfl) (ra_cons0 ev_bl (ra_cons1 (R := fun s => ∃ k : Int, 0 ≤ k ∧ k ≤ 30 ∧ s = .d (.int k)) (r_pickL (i := 0) (ds := [.int 30, .int 0, .int 12, .int 25]) rfl (ev_var rfl) (ea_cons ev_int (ea_cons ev_int (ea_cons ev_int (ea_cons ev_int ea_nil)))) (by decide) (by decide) ?_) ea_nil)))) ?_) ?_
      · intro d hd
        simp only [List.mem_cons, List.not_mem_nil, or_false] at hd
        rcases hd with rfl | rfl | rfl | rfl
        · exact ⟨30, by decide, by decide, rfl⟩
        · exact ⟨0, by decide, by decide, rfl⟩
        · exact ⟨12, by decide, by decide, rfl⟩
        · exact ⟨25, by decide, by decide, rfl⟩
      · rintro _ ⟨_, ⟨_, ⟨_, ⟨_, ⟨k, k0, k1, rfl⟩, rfl⟩, rfl⟩, rfl⟩, rfl⟩
        refine ⟨(f, false, k), rfl, ⟨g1, k0, k1, ⟨60, by decide, gf.fit⟩, by show f.nodes ≤ 1000; omega⟩, ?_⟩
        rintro _ ⟨ws, rfl, h1, h2⟩
        refine ⟨_, ws, h1, ?_, rfl⟩
        have h3 : ws.length + 1 ≤ 64 * f.nodes := h2
        omega
      rintro _ ⟨on, ws, hs, hwl, rfl⟩ H5 σ5 w5
      have hok := gf.words hs
      have hP := Good.p2 hs
      refine q_no w5 (T0.read (fun H σ w => heap_notup H σ w) (r_readA rfl rfl (ev_var rfl) hok (by omega) (read_self hP gf.cond)) (ev_var rfl) g2 g3) fun H6 w6 => ?_
      refine q_setR w6 (R := fun s => ∃ sh : List Str, Says false false f sh ∧ sh.length ≤ 4799 ∧ s = .d (.lst (dStrs sh))) (r_callH (i := 0) rfl ((ea_cons (ev_var rfl) (ea_cons (ev_var rfl) (ea_cons ev_bl (ea_cons ev_int ea_nil)))).r (RA := fun ss => ss = [.v (.ref hp), .d f.enc, .d (.bl false), .d (.int 0)]) rfl) ?_) ?_
      · rintro _ rfl
        refine ⟨(f, false, 0), rfl, ⟨g1, by show (0 : Int) ≤ 0; decide, by show (0 : Int) ≤ 30; decide, ⟨60, by decide, gf.fit⟩, by show f.nodes ≤ 1000; omega⟩, ?_⟩
        rintro _ ⟨sh, rfl, h1, h2⟩
        refine ⟨sh, h1, ?_, rfl⟩
        have h3 : sh.length + 1 ≤ 64 * f.nodes := h2
        omega
      rintro _ ⟨sh, hsh, hshl, rfl⟩ H7 σ7 w7
      obtain ⟨d1, d2, d3⟩ := gf.due hsh
      obtain ⟨j1, j2⟩ := join_bound (gf.words hsh) hshl
      have r1 := TK.replace_len (Txt.join " " sh) "( " "("
      have l1 : ("(" : Str).length = 1 := by decide
      have l2 : (")" : Str).length = 1 := by decide
      refine q_set w7 (s := .d (.str (showF f))) (ev_is (ev_repl (ev_repl (ev_join ev_str (ev_var rfl) (by omega)) (by rw [l1]; omega)) (by rw [l1] at r1; rw [l2]; omega)) (by rw [d1])) fun H8 σ8 w8 => ?_
      refine q_no w8 (T0.or (T0.of ((et_is (et_test (ev_qNeS (ev_call (a := f) (f := fun f => .str (showF f)) (ea_cons (ev_var rfl) ea_nil) ⟨g1, ⟨60, by decide, gf.fit⟩, fun z hz => Nat.le_trans (gf.lv z hz).1.2 (by decide), by omega⟩) (ev_var rfl))) (b := false) (by simp)).r rfl)) (T0.read (fun H σ w => heap_notup H σ w) ((ea_cons (ev_var rfl) ea_nil).r ⟨showF f, rfl, by omega, by rw [d2]; exact read_self (Good.p2 hsh) gf.cond⟩) (ev_var rfl) g2 g3)) fun H9 w9 => ?_
      refine q_setR w9 (R := fun s => ∃ m : Nat, 20 ≤ m ∧ m ≤ 50 ∧ s = .d (.int m)) (r_op (ev_int.r (R := fun s => s = .d (.int 20)) rfl) (r_drawN rfl rfl ev_int (by decide)) ?_) ?_
      · rintro _ _ rfl ⟨r, hr1, rfl⟩
        exact ⟨.d (.int (20 + (r : Nat))), ⟨r + 20, by omega, by omega, by congr 2; omega⟩, rv_I0⟩
      rintro _ ⟨m, m1, m2, rfl⟩ H10 σ10 w10
      have hp_l : (dStrs (par m ws)).length = m + ws.length + m := by rw [dS_len, par_len]
      have okP : ∀ y ∈ par m ws, okZ y := all_app (all_app (all_rep lpZ) hok) (all_rep rpZ)
      refine q_set w10 (s := .d (.lst (dStrs (par m ws)))) (ev_is (ev_cat (ev_cat (ev_rep (ds := [.str "("]) (ev_lst (ds := [.str "("]) (ea_cons ev_str ea_nil) (by decide)) (ev_var rfl) (by omega) (by simp; omega)) (ev_var rfl) (by rw [rep1, dS_len, dS_len]; simp; omega)) (ev_rep (ds := [.str ")"]) (ev_lst (ds := [.str ")"]) (ea_cons ev_str ea_nil) (by decide)) (ev_var rfl) (by omega) (by simp; omega)) (by rw [rep1, rep1, List.length_append, dS_len, dS_len, dS_len]; simp; omega)) (by
        rw [rep1, rep1, ← dS_app, ← dS_app]
        rfl)) fun H11 σ11 w11 => ?_
      -- great is read as the formula; one ) more is too many
      refine q_no w11 (T0.or (T0.read (fun H σ w => heap_notup H σ w) (r_readA rfl rfl (ev_var rfl) okP (by rw [par_len]; omega) (read_par hP gf.cond)) (ev_var rfl) g2 g3) (T0.of (r_neSameI (i := ((par m ws).length : Nat)) (r_wrong rfl rfl (R0 := fun s => s = .d (.lst (dStrs (par m ws ++ [rpS])))) ((ev_cat (ev_var rfl) (ev_lst (ds := [.str ")"]) (ea_cons ev_str ea_nil) (by decide)) (by rw [hp_l]; simp; omega)).r (by rw [dS_app]; rfl)) (by
        rintro _ rfl
        exact ⟨_, rfl, all_app okP (all_one rpZ), by rw [List.length_append, par_len]; simp; omega, by rw [wrong_of (read_more hP gf.cond)]⟩)) (ev_is (ev_len (ea_cons (ev_var rfl) ea_nil)) (by rw [dS_len]))))) fun H12 w12 => ?_
      have hlast : ∀ j, j < m → ∀ y ∈ List.replicate m lpS ++ ws ++ List.replicate j rpS, okZ y := fun j hj => all_app (all_app (all_rep lpZ) hok) (all_rep rpZ)
      have hlen : ∀ j, (List.replicate m lpS ++ ws ++ List.replicate j rpS).length = m + ws.length + j := fun j => by simp; omega
      -- a part of great
      refine q_no w12 (T0.of (r_isNot (r_wrong rfl rfl (R0 := fun s => ∃ j, j < m ∧ s = .d (.lst (dStrs (List.replicate m lpS ++ ws ++ List.replicate j rpS)))) (r_slH (ev_var rfl) (r_op ((ev_I0 (ev_is (ev_len (ea_cons (ev_var rfl) ea_nil)) (by rw [hp_l])) ev_int).r (R := fun s => s = .d (.int (((m + ws.length + m : Nat) : Int) - 1))) rfl) (r_drawN rfl rfl (ev_var rfl) (by omega)) (R := fun s => ∃ j : Nat, j < m ∧ s = .d (.int ((m + ws.length + j : Nat)))) (by
        rintro _ _ rfl ⟨r, hr1, rfl⟩
        exact ⟨.d (.int ((((m + ws.length + m : Nat) : Int) - 1) - (r : Nat))), ⟨m - 1 - r, by omega, by congr 2; omega⟩, rv_I0⟩)) (by
        rintro _ ⟨j, hj, rfl⟩
        exact ⟨_, rfl, j, hj, by rw [cut0, dS_take, par_take (by omega)]⟩)) (by
        rintro _ ⟨j, hj, rfl⟩
        exact ⟨_, rfl, hlast j hj, by rw [hlen]; omega, (m + ws.length + j : Nat), by rw [wrong_of (read_cut hP gf.cond hj)]⟩)))) fun H13 w13 => ?_
      refine q_setR w13 (R := fun s => ∃ j : Nat, j < m ∧ s = .d (.int ((m + ws.length + j : Nat)))) (r_op ((ev_I0 (ev_var rfl) (ev_is (ev_len (ea_cons (ev_var rfl) ea_nil)) (by rw [dS_len]))).r (R := fun s => s = .d (.int ((m : Int) + (ws.length : Nat)))) rfl) (r_drawN rfl rfl (ev_var rfl) (by omega)) (by
        rintro _ _ rfl ⟨r, hr1, rfl⟩
        exact ⟨.d (.int ((m : Int) + (ws.length : Nat) + (r : Nat))), ⟨r, by omega, by congr 2⟩, rv_I0⟩)) ?_
      rintro _ ⟨j, hj, rfl⟩ H14 σ14 w14
      have hcut : cutG (dStrs (par m ws)) none (some ((m + ws.length + j : Nat) : Int)) = dStrs (List.replicate m lpS ++ ws ++ List.replicate j rpS) := by rw [cut0, dS_take, par_take (by omega)]
      have hcut0 : cutG (dStrs (par m ws)) none (some (m : Int)) = dStrs (List.replicate m lpS) := by rw [cut0, dS_take, par_take0]
      refine q_no w14 (T0.of (r_neSameI (i := ((m + ws.length + j : Nat) : Int)) (r_wrong rfl rfl (R0 := fun s => s = .d (.lst (dStrs (List.replicate m lpS ++ ws ++ List.replicate j rpS)))) ((ev_slL (ev_var rfl) eo_none (eo_some (ev_var rfl))).r (by rw [hcut])) (by
        rintro _ rfl
        exact ⟨_, rfl, hlast j hj, by rw [hlen]; omega, by rw [wrong_of (read_cut hP gf.cond hj)]⟩)) (ev_var rfl))) fun H15 w15 => ?_
      refine q_no w15 (T0.or (T0.of (r_neSameI (i := ((m + ws.length + j : Nat) : Int)) (r_wrong rfl rfl (R0 := fun s => s = .d (.lst (dStrs (List.replicate m lpS ++ ws ++ List.replicate j rpS ++ (["x1"] : List Str))))) ((ev_cat (ds := dStrs (List.replicate m lpS ++ ws ++ List.replicate j rpS)) (ev_is (ev_slL (ev_var rfl) eo_none (eo_some (ev_var rfl))) (by rw [hcut])) (ev_lst (ds := [.str "x1"]) (ea_cons ev_str ea_nil) (by decide)) (by rw [dS_len, hlen]; simp; omega)).r (congrArg (fun z => Sl.d (Dt.lst z)) (dS_app _ (["x1"] : List Str)).symm)) (by
        rintro _ rfl
        exact ⟨_, rfl, all_app (hlast j hj) (all_one (litZ' (by decide))), by rw [List.length_append, hlen]; simp; omega, by rw [wrong_of (read_cutx hP gf.cond hj)]⟩)) (ev_var rfl))) (T0.of (r_neSameI (i := (m : Int)) (r_wrong rfl rfl (R0 := fun s => s = .d (.lst (dStrs (List.replicate m lpS ++ [rpS])))) ((ev_cat (ds := dStrs (List.replicate m lpS)) (ev_is (ev_slL (ev_var rfl) eo_none (eo_some (ev_var rfl))) (by rw [hcut0])) (ev_lst (ds := [.str ")"]) (ea_cons ev_str ea_nil) (by decide)) (by rw [dS_len]; simp; omega)).r (by rw [dS_app]; rfl)) (by
        rintro _ rfl
        exact ⟨_, rfl, all_app (all_rep lpZ) (all_one rpZ), by simp; omega, by rw [wrong_of read_none]⟩)) (ev_var rfl)))) fun H16 w16 => ?_
      have hz0 : ∃ z0 : Str, z0 ∈ f.leaves ∧ (dStrs (ys.take n))[0]? = some (.str z0) := by
        cases hyt : ys.take n with
        | nil => rw [hyt] at hyl; simp at hyl; omega
        | cons z0 zs => exact ⟨z0, by rw [hlv, hyt]; simp, rfl⟩
      obtain ⟨z0, hz0, hat⟩ := hz0
      refine q_setR w16 (R := fun s => ∃ wd : Str, (wd = "and" ∨ wd = "or") ∧ s = .d (.lst (dStrs (par m ws ++ [wd, z0])))) (r_op ((ev_var rfl).r (R := fun s => s = .d (.lst (dStrs (par m ws)))) rfl) (r_lst (R := fun s => ∃ wd : Str, (wd = "and" ∨ wd = "or") ∧ s = .d (.lst (dStrs [wd, z0]))) (ra_cons (R := fun s => ∃ wd : Str, (wd = "and" ∨ wd = "or") ∧ s = .d (.str wd)) (r_pickL (i := 0) (ds := [.str "and", .str "or"]) rfl (ev_var rfl) (ea_cons ev_str (ea_cons ev_str ea_nil)) (by decide) (by decide) ?_) (R2 := fun _ r => r = [.d (.str z0)]) (fun s hs => (ea_cons (ev_ixL (ds := dStrs (ys.take n)) (ev_var rfl) ev_int (atG (j := 0) rfl hat)) ea_nil).r rfl)) ?_) ?_) ?_
      · intro d hd
        simp only [List.mem_cons, List.not_mem_nil, or_false] at hd
        rcases hd with rfl | rfl
        · exact ⟨"and", .inl rfl, rfl⟩
        · exact ⟨"or", .inr rfl, rfl⟩
      · rintro _ ⟨_, _, ⟨wd, hwd, rfl⟩, rfl, rfl⟩
        exact ⟨dStrs [wd, z0], rfl, by simp [dStrs], wd, hwd, rfl⟩
      · rintro _ _ rfl ⟨wd, hwd, rfl⟩
        exact ⟨_, ⟨wd, hwd, by rw [dS_app]⟩, rv_cat (by rw [hp_l]; simp [dStrs]; omega)⟩
      rintro _ ⟨wd, hwd, rfl⟩ H17 σ17 w17
      have hwz : okZ wd := by rcases hwd with rfl | rfl <;> exact litZ' (by decide)
      have htl : (par m ws ++ [wd, z0]).length = m + ws.length + m + 2 := by rw [List.length_append, par_len]; rfl
      refine q_no w17 (T0.of (r_neSameI (i := (((par m ws ++ [wd, z0]).length - 1 : Nat) : Int)) (r_wrong rfl rfl (R0 := fun s => s = .d (.lst (dStrs (par m ws ++ [wd, z0])))) ((ev_var rfl).r rfl) (by
        rintro _ rfl
        exact ⟨_, rfl, all_app okP (fun y hy => by
          simp only [List.mem_cons, List.not_mem_nil, or_false] at hy
          rcases hy with rfl | rfl
          · exact hwz
          · exact (gf.lv _ hz0).1), by rw [htl]; omega, by rw [wrong_of (read_twice hP gf.cond (by omega) hwd hz0)]⟩)) (ev_is (ev_I0 (ev_len (ea_cons (ev_var rfl) ea_nil)) ev_int) (by rw [dS_len, htl]; congr 2; omega)))) fun H18 w18 => ?_
      have e2 : (List.replicate (5 : Int).toNat [Dt.str "2", Dt.str "of"]).flatten = dStrs (List.replicate 5 (["2", "of"] : List Str)).flatten := rfl
      have t2 : ∀ y ∈ (["2", "of"] : List Str), okZ y := fun y hy => litZ' (by
        simp only [List.mem_cons, List.not_mem_nil, or_false] at hy
        rcases hy with rfl | rfl <;> decide)
      have l10 : (List.replicate 5 (["2", "of"] : List Str)).flatten.length = 10 := rfl
      refine (T0.of (r_neSameI (i := ((10 + m : Nat) : Int)) (r_wrong rfl rfl (R0 := fun s => s = .d (.lst (dStrs ((List.replicate 5 (["2", "of"] : List Str)).flatten ++ List.replicate m lpS ++ (["2", "of"] : List Str) ++ ws ++ List.replicate m rpS)))) ((ev_cat (ev_cat (ev_cat (ev_cat (ev_rep (ds := [.str "2", .str "of"]) (ev_lst (ds := [.str "2", .str "of"]) (ea_cons ev_str (ea_cons ev_str ea_nil)) (by decide)) ev_int (by decide) (by decide)) (ev_rep (ds := [.str "("]) (ev_lst (ds := [.str "("]) (ea_cons ev_str ea_nil) (by decide)) (ev_var rfl) (by omega) (by simp; omega)) ?_) (ev_lst (ds := [.str "2", .str "of"]) (ea_cons ev_str (ea_cons ev_str ea_nil)) (by decide)) ?_) (ev_var rfl) ?_) (ev_rep (ds := [.str ")"]) (ev_lst (ds := [.str ")"]) (ea_cons ev_str ea_nil) (by decide)) (ev_var rfl) (by omega) (by simp; omega)) ?_).r ?_) (by
        rintro _ rfl
        refine ⟨_, rfl, all_app (all_app (all_app (all_app (fun y hy => ?_) (all_rep lpZ)) t2) hok) (all_rep rpZ), ?_, by rw [wrong_of read_great]⟩
        · obtain ⟨l, hl1, hl2⟩ := List.mem_flatten.mp hy
          rw [(List.mem_replicate.mp hl1).2] at hl2
          exact t2 y hl2
        · simp only [List.length_append, List.length_replicate, l10]
          simp
          omega)) (ev_is (ev_I0 ev_int (ev_var rfl)) (by congr 2)))) H18 σ17 w18 _ fun H19 w19 => ?_
      · rw [e2, rep1, dS_len, dS_len, l10]
        simp
        omega
      · rw [e2, rep1, List.length_append, dS_len, dS_len, l10]
        simp
        omega
      · rw [e2, rep1, List.length_append, List.length_append, dS_len, dS_len, dS_len, l10]
        simp
        omega
      · rw [e2, rep1, rep1, List.length_append, List.length_append, List.length_append, dS_len, dS_len, dS_len, dS_len, l10]
        simp
        omega
      · rw [e2, rep1, rep1, dS_app, dS_app, dS_app, dS_app]
        rfl
      · exact ⟨_, ⟨s, .d (.lst (dStrs (ys.take n))), .d f.enc, .d (.lst (dStrs ws)), .d (.lst (dStrs sh)), .d (.str (showF f)), .d (.int (m : Nat)), .d (.lst (dStrs (par m ws))), .d (.int ((m + ws.length + j : Nat) : Int)), .d (.lst (dStrs (par m ws ++ [wd, z0]))), rfl⟩, w19⟩
    · rintro c1 H2 σ2 ⟨x2, x3, x4, x5, x6, x7, x8, x9, x10, x11, rfl⟩ w2
      exact s_ret w2 ev_bl fun v H3 w3 hv => by
        obtain rfl := SlOk.bl hv
        exact q H3
end
end K77

set_option Elab.async false
set_option linter.all false
set_option maxRecDepth 100000
set_option maxHeartbeats 4000000
namespace K77
open PySem PySem.Spec PyProof.Rows L2 DL
theorem all_mk {P : Program} {w : World} {K : PySem.W.Frag} {h : Heap} {mg : Str → Option Value} {fa : Addr} {f_InvalidText_init f_is_name f_read_amount f_show_part f_show_formula f_Level_init f_Level_weight f_Level_put f_Level_whole_part f_Reading_init f_Reading_take f_Reading_begin f_Reading_go_on f_read_formula f_heap f_draw f_pick f_shuffled f_formula f_names f_words f_text f_wrong f_law C_Level C_Reading C_InvalidText : Addr} (X : K.In h) (G : h.Ns mainGlobals mg) (hfa : mg "law" = some (.ref fa))
    {N_InvalidText : Addr} {ab_InvalidText : Bool} {an_InvalidText_init : Option Addr} {an_Level_init : Option Addr} {an_Level_put : Option Addr} {an_Level_weight : Option Addr} {an_Level_whole_part : Option Addr} {an_Reading_begin : Option Addr} {an_Reading_go_on : Option Addr} {an_Reading_init : Option Addr} {an_Reading_take : Option Addr} {an_draw : Option Addr} {an_formula : Option Addr} {an_heap : Option Addr} {an_is_name : Option Addr} {an_law : Option Addr} {an_names : Option Addr} {an_pick : Option Addr} {an_read_amount : Option Addr} {an_read_formula : Option Addr} {an_show_formula : Option Addr} {an_show_part : Option Addr} {an_shuffled : Option Addr} {an_text : Option Addr} {an_words : Option Addr} {an_wrong : Option Addr} {bm_InvalidText : List Value} {bs_InvalidText : List Value} {cc_InvalidText_init : Value} {ccs_InvalidText_init : Array (Option Value)} {cd_InvalidText_init : Addr} {cd_Level_init : Value} {cd_Level_put : Value} {cd_Level_weight : Value} {cd_Level_whole_part : Value} {cd_Reading_begin : Value} {cd_Reading_go_on : Value} {cd_Reading_init : Value} {cd_Reading_take : Value} {cd_draw : Value} {cd_formula : Value} {cd_heap : Value} {cd_is_name : Value} {cd_law : Value} {cd_names : Value} {cd_pick : Value} {cd_read_amount : Value} {cd_read_formula : Value} {cd_show_formula : Value} {cd_show_part : Value} {cd_shuffled : Value} {cd_text : Value} {cd_words : Value} {cd_wrong : Value} {cdd_InvalidText_init : Option Addr} {ce_InvalidText_init : Addr} {cl_InvalidText_init : Value} {col_InvalidText : Option Bool} {ct_InvalidText_init : Value} {ct_Level_init : Value} {ct_Level_put : Value} {ct_Level_weight : Value} {ct_Level_whole_part : Value} {ct_Reading_begin : Value} {ct_Reading_go_on : Value} {ct_Reading_init : Value} {ct_Reading_take : Value} {ct_draw : Value} {ct_formula : Value} {ct_heap : Value} {ct_is_name : Value} {ct_law : Value} {ct_names : Value} {ct_pick : Value} {ct_read_amount : Value} {ct_read_formula : Value} {ct_show_formula : Value} {ct_show_part : Value} {ct_shuffled : Value} {ct_text : Value} {ct_words : Value} {ct_wrong : Value} {dc_InvalidText_init : Value} {dc_Level_init : Value} {dc_Level_put : Value} {dc_Level_weight : Value} {dc_Level_whole_part : Value} {dc_Reading_begin : Value} {dc_Reading_go_on : Value} {dc_Reading_init : Value} {dc_Reading_take : Value} {dc_draw : Value} {dc_formula : Value} {dc_heap : Value} {dc_is_name : Value} {dc_law : Value} {dc_names : Value} {dc_pick : Value} {dc_read_amount : Value} {dc_read_formula : Value} {dc_show_formula : Value} {dc_show_part : Value} {dc_shuffled : Value} {dc_text : Value} {dc_words : Value} {dc_wrong : Value} {dd_InvalidText : Option Addr} {fl_InvalidText_init : Str} {kV_InvalidText_init : Value} {kV_Level_init : Value} {kV_Level_put : Value} {kV_Level_weight : Value} {kV_Level_whole_part : Value} {kV_Reading_begin : Value} {kV_Reading_go_on : Value} {kV_Reading_init : Value} {kV_Reading_take : Value} {kV_draw : Value} {kV_formula : Value} {kV_heap : Value} {kV_is_name : Value} {kV_law : Value} {kV_names : Value} {kV_pick : Value} {kV_read_amount : Value} {kV_read_formula : Value} {kV_show_formula : Value} {kV_show_part : Value} {kV_shuffled : Value} {kV_text : Value} {kV_words : Value} {kV_wrong : Value} {ld_InvalidText_init : Option Addr} {ls_InvalidText_init : Array (Option Value)} {m0_InvalidText : Option Value} {m1_InvalidText : Option Value} {m2_InvalidText : Option Value} {m3_InvalidText : Option Value} {m5_InvalidText : Option Value} {nm_InvalidText : Str} {oc_InvalidText_init : Value} {oc_Level_init : Value} {oc_Level_put : Value} {oc_Level_weight : Value} {oc_Level_whole_part : Value} {oc_Reading_begin : Value} {oc_Reading_go_on : Value} {oc_Reading_init : Value} {oc_Reading_take : Value} {oc_draw : Value} {oc_formula : Value} {oc_heap : Value} {oc_is_name : Value} {oc_law : Value} {oc_names : Value} {oc_pick : Value} {oc_read_amount : Value} {oc_read_formula : Value} {oc_show_formula : Value} {oc_show_part : Value} {oc_shuffled : Value} {oc_text : Value} {oc_words : Value} {oc_wrong : Value} {od_InvalidText_init : Option Addr} {od_Level_init : Option Addr} {od_Level_put : Option Addr} {od_Level_weight : Option Addr} {od_Level_whole_part : Option Addr} {od_Reading_begin : Option Addr} {od_Reading_go_on : Option Addr} {od_Reading_init : Option Addr} {od_Reading_take : Option Addr} {od_draw : Option Addr} {od_formula : Option Addr} {od_heap : Option Addr} {od_is_name : Option Addr} {od_law : Option Addr} {od_names : Option Addr} {od_pick : Option Addr} {od_read_amount : Option Addr} {od_read_formula : Option Addr} {od_show_formula : Option Addr} {od_show_part : Option Addr} {od_shuffled : Option Addr} {od_text : Option Addr} {od_words : Option Addr} {od_wrong : Option Addr} {pm_InvalidText_init : Value} {pm_Level_init : Value} {pm_Level_put : Value} {pm_Level_weight : Value} {pm_Level_whole_part : Value} {pm_Reading_begin : Value} {pm_Reading_go_on : Value} {pm_Reading_init : Value} {pm_Reading_take : Value} {pm_draw : Value} {pm_formula : Value} {pm_heap : Value} {pm_is_name : Value} {pm_law : Value} {pm_names : Value} {pm_pick : Value} {pm_read_amount : Value} {pm_read_formula : Value} {pm_show_formula : Value} {pm_show_part : Value} {pm_shuffled : Value} {pm_text : Value} {pm_words : Value} {pm_wrong : Value} {qq_InvalidText : Str} {sl_InvalidText_init : Array (Option Value)} {sl_Level_init : Array (Option Value)} {sl_Level_put : Array (Option Value)} {sl_Level_weight : Array (Option Value)} {sl_Level_whole_part : Array (Option Value)} {sl_Reading_begin : Array (Option Value)} {sl_Reading_go_on : Array (Option Value)} {sl_Reading_init : Array (Option Value)} {sl_Reading_take : Array (Option Value)} {sl_draw : Array (Option Value)} {sl_formula : Array (Option Value)} {sl_heap : Array (Option Value)} {sl_is_name : Array (Option Value)} {sl_law : Array (Option Value)} {sl_names : Array (Option Value)} {sl_pick : Array (Option Value)} {sl_read_amount : Array (Option Value)} {sl_read_formula : Array (Option Value)} {sl_show_formula : Array (Option Value)} {sl_show_part : Array (Option Value)} {sl_shuffled : Array (Option Value)} {sl_text : Array (Option Value)} {sl_words : Array (Option Value)} {sl_wrong : Array (Option Value)} {sn_InvalidText : List Str} {sub_InvalidText : List Value} {t_FIGURES : Tok} {t_LETTERS : Tok} {t_LONGEST_NAME : Tok} {t_MOST_AMOUNT : Tok} {t_MOST_KINDS : Tok} {tf_InvalidText_init : Tok} {vs_InvalidText_init : Array Value}
    (a_Level : PySem.W.nsIn K mainGlobals "Level" = some (some (.ref C_Level)))
    (a_Reading : PySem.W.nsIn K mainGlobals "Reading" = some (some (.ref C_Reading)))
    (a_InvalidText : PySem.W.nsIn K mainGlobals "InvalidText" = some (some (.ref C_InvalidText)))
    (a_is_name : PySem.W.nsIn K mainGlobals "is_name" = some (some (.ref f_is_name)))
    (l_is_name : K.lookup f_is_name = some ⟨oc_is_name, od_is_name, .func (PySem.W.fnOf "is_name" "is_name" (defArgs s_is_name) (defBody s_is_name) (defScope s_is_name) .none kV_is_name dc_is_name pm_is_name an_is_name cd_is_name ct_is_name), sl_is_name⟩)
    (c_is_name : PySem.W.codeIn K cd_is_name "is_name" = true)
    (k_is_name : PySem.W.keepIn K (.ref f_is_name) = true)
    (a_read_amount : PySem.W.nsIn K mainGlobals "read_amount" = some (some (.ref f_read_amount)))
    (l_read_amount : K.lookup f_read_amount = some ⟨oc_read_amount, od_read_amount, .func (PySem.W.fnOf "read_amount" "read_amount" (defArgs s_read_amount) (defBody s_read_amount) (defScope s_read_amount) .none kV_read_amount dc_read_amount pm_read_amount an_read_amount cd_read_amount ct_read_amount), sl_read_amount⟩)
    (c_read_amount : PySem.W.codeIn K cd_read_amount "read_amount" = true)
    (k_read_amount : PySem.W.keepIn K (.ref f_read_amount) = true)
    (a_show_part : PySem.W.nsIn K mainGlobals "show_part" = some (some (.ref f_show_part)))
    (l_show_part : K.lookup f_show_part = some ⟨oc_show_part, od_show_part, .func (PySem.W.fnOf "show_part" "show_part" (defArgs s_show_part) (defBody s_show_part) (defScope s_show_part) .none kV_show_part dc_show_part pm_show_part an_show_part cd_show_part ct_show_part), sl_show_part⟩)
    (c_show_part : PySem.W.codeIn K cd_show_part "show_part" = true)
    (k_show_part : PySem.W.keepIn K (.ref f_show_part) = true)
    (a_show_formula : PySem.W.nsIn K mainGlobals "show_formula" = some (some (.ref f_show_formula)))
    (l_show_formula : K.lookup f_show_formula = some ⟨oc_show_formula, od_show_formula, .func (PySem.W.fnOf "show_formula" "show_formula" (defArgs s_show_formula) (defBody s_show_formula) (defScope s_show_formula) .none kV_show_formula dc_show_formula pm_show_formula an_show_formula cd_show_formula ct_show_formula), sl_show_formula⟩)
    (c_show_formula : PySem.W.codeIn K cd_show_formula "show_formula" = true)
    (k_show_formula : PySem.W.keepIn K (.ref f_show_formula) = true)
    (a_Level_init : PySem.W.findIn K (.ref C_Level) "__init__" = some (some (.ref f_Level_init)))
    (i_Level_init : PySem.W.isFn K (.ref f_Level_init) = true)
    (l_Level_init : K.lookup f_Level_init = some ⟨oc_Level_init, od_Level_init, .func (PySem.W.fnOf "__init__" "Level.__init__" (defArgs s_Level_init) (defBody s_Level_init) (defScope s_Level_init) .none kV_Level_init dc_Level_init pm_Level_init an_Level_init cd_Level_init ct_Level_init), sl_Level_init⟩)
    (c_Level_init : PySem.W.codeIn K cd_Level_init "Level.__init__" = true)
    (k_Level_init : PySem.W.keepIn K (.ref f_Level_init) = true)
    (a_Level_weight : PySem.W.findIn K (.ref C_Level) "weight" = some (some (.ref f_Level_weight)))
    (i_Level_weight : PySem.W.isFn K (.ref f_Level_weight) = true)
    (l_Level_weight : K.lookup f_Level_weight = some ⟨oc_Level_weight, od_Level_weight, .func (PySem.W.fnOf "weight" "Level.weight" (defArgs s_Level_weight) (defBody s_Level_weight) (defScope s_Level_weight) .none kV_Level_weight dc_Level_weight pm_Level_weight an_Level_weight cd_Level_weight ct_Level_weight), sl_Level_weight⟩)
    (c_Level_weight : PySem.W.codeIn K cd_Level_weight "Level.weight" = true)
    (k_Level_weight : PySem.W.keepIn K (.ref f_Level_weight) = true)
    (a_Level_put : PySem.W.findIn K (.ref C_Level) "put" = some (some (.ref f_Level_put)))
    (i_Level_put : PySem.W.isFn K (.ref f_Level_put) = true)
    (l_Level_put : K.lookup f_Level_put = some ⟨oc_Level_put, od_Level_put, .func (PySem.W.fnOf "put" "Level.put" (defArgs s_Level_put) (defBody s_Level_put) (defScope s_Level_put) .none kV_Level_put dc_Level_put pm_Level_put an_Level_put cd_Level_put ct_Level_put), sl_Level_put⟩)
    (c_Level_put : PySem.W.codeIn K cd_Level_put "Level.put" = true)
    (k_Level_put : PySem.W.keepIn K (.ref f_Level_put) = true)
    (a_Level_whole_part : PySem.W.findIn K (.ref C_Level) "whole_part" = some (some (.ref f_Level_whole_part)))
    (i_Level_whole_part : PySem.W.isFn K (.ref f_Level_whole_part) = true)
    (l_Level_whole_part : K.lookup f_Level_whole_part = some ⟨oc_Level_whole_part, od_Level_whole_part, .func (PySem.W.fnOf "whole_part" "Level.whole_part" (defArgs s_Level_whole_part) (defBody s_Level_whole_part) (defScope s_Level_whole_part) .none kV_Level_whole_part dc_Level_whole_part pm_Level_whole_part an_Level_whole_part cd_Level_whole_part ct_Level_whole_part), sl_Level_whole_part⟩)
    (c_Level_whole_part : PySem.W.codeIn K cd_Level_whole_part "Level.whole_part" = true)
    (k_Level_whole_part : PySem.W.keepIn K (.ref f_Level_whole_part) = true)
    (a_Reading_init : PySem.W.findIn K (.ref C_Reading) "__init__" = some (some (.ref f_Reading_init)))
    (i_Reading_init : PySem.W.isFn K (.ref f_Reading_init) = true)
    (l_Reading_init : K.lookup f_Reading_init = some ⟨oc_Reading_init, od_Reading_init, .func (PySem.W.fnOf "__init__" "Reading.__init__" (defArgs s_Reading_init) (defBody s_Reading_init) (defScope s_Reading_init) .none kV_Reading_init dc_Reading_init pm_Reading_init an_Reading_init cd_Reading_init ct_Reading_init), sl_Reading_init⟩)
    (c_Reading_init : PySem.W.codeIn K cd_Reading_init "Reading.__init__" = true)
    (k_Reading_init : PySem.W.keepIn K (.ref f_Reading_init) = true)
    (a_Reading_take : PySem.W.findIn K (.ref C_Reading) "take" = some (some (.ref f_Reading_take)))
    (i_Reading_take : PySem.W.isFn K (.ref f_Reading_take) = true)
    (l_Reading_take : K.lookup f_Reading_take = some ⟨oc_Reading_take, od_Reading_take, .func (PySem.W.fnOf "take" "Reading.take" (defArgs s_Reading_take) (defBody s_Reading_take) (defScope s_Reading_take) .none kV_Reading_take dc_Reading_take pm_Reading_take an_Reading_take cd_Reading_take ct_Reading_take), sl_Reading_take⟩)
    (c_Reading_take : PySem.W.codeIn K cd_Reading_take "Reading.take" = true)
    (k_Reading_take : PySem.W.keepIn K (.ref f_Reading_take) = true)
    (a_Reading_begin : PySem.W.findIn K (.ref C_Reading) "begin" = some (some (.ref f_Reading_begin)))
    (i_Reading_begin : PySem.W.isFn K (.ref f_Reading_begin) = true)
    (l_Reading_begin : K.lookup f_Reading_begin = some ⟨oc_Reading_begin, od_Reading_begin, .func (PySem.W.fnOf "begin" "Reading.begin" (defArgs s_Reading_begin) (defBody s_Reading_begin) (defScope s_Reading_begin) .none kV_Reading_begin dc_Reading_begin pm_Reading_begin an_Reading_begin cd_Reading_begin ct_Reading_begin), sl_Reading_begin⟩)
    (c_Reading_begin : PySem.W.codeIn K cd_Reading_begin "Reading.begin" = true)
    (k_Reading_begin : PySem.W.keepIn K (.ref f_Reading_begin) = true)
    (a_Reading_go_on : PySem.W.findIn K (.ref C_Reading) "go_on" = some (some (.ref f_Reading_go_on)))
    (i_Reading_go_on : PySem.W.isFn K (.ref f_Reading_go_on) = true)
    (l_Reading_go_on : K.lookup f_Reading_go_on = some ⟨oc_Reading_go_on, od_Reading_go_on, .func (PySem.W.fnOf "go_on" "Reading.go_on" (defArgs s_Reading_go_on) (defBody s_Reading_go_on) (defScope s_Reading_go_on) .none kV_Reading_go_on dc_Reading_go_on pm_Reading_go_on an_Reading_go_on cd_Reading_go_on ct_Reading_go_on), sl_Reading_go_on⟩)
    (c_Reading_go_on : PySem.W.codeIn K cd_Reading_go_on "Reading.go_on" = true)
    (k_Reading_go_on : PySem.W.keepIn K (.ref f_Reading_go_on) = true)
    (a_read_formula : PySem.W.nsIn K mainGlobals "read_formula" = some (some (.ref f_read_formula)))
    (l_read_formula : K.lookup f_read_formula = some ⟨oc_read_formula, od_read_formula, .func (PySem.W.fnOf "read_formula" "read_formula" (defArgs s_read_formula) (defBody s_read_formula) (defScope s_read_formula) .none kV_read_formula dc_read_formula pm_read_formula an_read_formula cd_read_formula ct_read_formula), sl_read_formula⟩)
    (c_read_formula : PySem.W.codeIn K cd_read_formula "read_formula" = true)
    (k_read_formula : PySem.W.keepIn K (.ref f_read_formula) = true)
    (a_heap : PySem.W.nsIn K mainGlobals "_law_heap" = some (some (.ref f_heap)))
    (l_heap : K.lookup f_heap = some ⟨oc_heap, od_heap, .func (PySem.W.fnOf "_law_heap" "_law_heap" (defArgs s_heap) (defBody s_heap) (defScope s_heap) .none kV_heap dc_heap pm_heap an_heap cd_heap ct_heap), sl_heap⟩)
    (c_heap : PySem.W.codeIn K cd_heap "_law_heap" = true)
    (k_heap : PySem.W.keepIn K (.ref f_heap) = true)
    (a_draw : PySem.W.nsIn K mainGlobals "_law_draw" = some (some (.ref f_draw)))
    (l_draw : K.lookup f_draw = some ⟨oc_draw, od_draw, .func (PySem.W.fnOf "_law_draw" "_law_draw" (defArgs s_draw) (defBody s_draw) (defScope s_draw) .none kV_draw dc_draw pm_draw an_draw cd_draw ct_draw), sl_draw⟩)
    (c_draw : PySem.W.codeIn K cd_draw "_law_draw" = true)
    (k_draw : PySem.W.keepIn K (.ref f_draw) = true)
    (a_pick : PySem.W.nsIn K mainGlobals "_law_pick" = some (some (.ref f_pick)))
    (l_pick : K.lookup f_pick = some ⟨oc_pick, od_pick, .func (PySem.W.fnOf "_law_pick" "_law_pick" (defArgs s_pick) (defBody s_pick) (defScope s_pick) .none kV_pick dc_pick pm_pick an_pick cd_pick ct_pick), sl_pick⟩)
    (c_pick : PySem.W.codeIn K cd_pick "_law_pick" = true)
    (k_pick : PySem.W.keepIn K (.ref f_pick) = true)
    (a_shuffled : PySem.W.nsIn K mainGlobals "_law_shuffled" = some (some (.ref f_shuffled)))
    (l_shuffled : K.lookup f_shuffled = some ⟨oc_shuffled, od_shuffled, .func (PySem.W.fnOf "_law_shuffled" "_law_shuffled" (defArgs s_shuffled) (defBody s_shuffled) (defScope s_shuffled) .none kV_shuffled dc_shuffled pm_shuffled an_shuffled cd_shuffled ct_shuffled), sl_shuffled⟩)
    (c_shuffled : PySem.W.codeIn K cd_shuffled "_law_shuffled" = true)
    (k_shuffled : PySem.W.keepIn K (.ref f_shuffled) = true)
    (a_formula : PySem.W.nsIn K mainGlobals "_law_formula" = some (some (.ref f_formula)))
    (l_formula : K.lookup f_formula = some ⟨oc_formula, od_formula, .func (PySem.W.fnOf "_law_formula" "_law_formula" (defArgs s_formula) (defBody s_formula) (defScope s_formula) .none kV_formula dc_formula pm_formula an_formula cd_formula ct_formula), sl_formula⟩)
    (c_formula : PySem.W.codeIn K cd_formula "_law_formula" = true)
    (k_formula : PySem.W.keepIn K (.ref f_formula) = true)
    (a_names : PySem.W.nsIn K mainGlobals "_law_names" = some (some (.ref f_names)))
    (l_names : K.lookup f_names = some ⟨oc_names, od_names, .func (PySem.W.fnOf "_law_names" "_law_names" (defArgs s_names) (defBody s_names) (defScope s_names) .none kV_names dc_names pm_names an_names cd_names ct_names), sl_names⟩)
    (c_names : PySem.W.codeIn K cd_names "_law_names" = true)
    (k_names : PySem.W.keepIn K (.ref f_names) = true)
    (a_words : PySem.W.nsIn K mainGlobals "_law_words" = some (some (.ref f_words)))
    (l_words : K.lookup f_words = some ⟨oc_words, od_words, .func (PySem.W.fnOf "_law_words" "_law_words" (defArgs s_words) (defBody s_words) (defScope s_words) .none kV_words dc_words pm_words an_words cd_words ct_words), sl_words⟩)
    (c_words : PySem.W.codeIn K cd_words "_law_words" = true)
    (k_words : PySem.W.keepIn K (.ref f_words) = true)
    (a_text : PySem.W.nsIn K mainGlobals "_law_text" = some (some (.ref f_text)))
    (l_text : K.lookup f_text = some ⟨oc_text, od_text, .func (PySem.W.fnOf "_law_text" "_law_text" (defArgs s_text) (defBody s_text) (defScope s_text) .none kV_text dc_text pm_text an_text cd_text ct_text), sl_text⟩)
    (c_text : PySem.W.codeIn K cd_text "_law_text" = true)
    (k_text : PySem.W.keepIn K (.ref f_text) = true)
    (a_wrong : PySem.W.nsIn K mainGlobals "_law_wrong" = some (some (.ref f_wrong)))
    (l_wrong : K.lookup f_wrong = some ⟨oc_wrong, od_wrong, .func (PySem.W.fnOf "_law_wrong" "_law_wrong" (defArgs s_wrong) (defBody s_wrong) (defScope s_wrong) .none kV_wrong dc_wrong pm_wrong an_wrong cd_wrong ct_wrong), sl_wrong⟩)
    (c_wrong : PySem.W.codeIn K cd_wrong "_law_wrong" = true)
    (k_wrong : PySem.W.keepIn K (.ref f_wrong) = true)
    (a_law : PySem.W.nsIn K mainGlobals "law" = some (some (.ref f_law)))
    (l_law : K.lookup f_law = some ⟨oc_law, od_law, .func (PySem.W.fnOf "law" "law" (defArgs s_law) (defBody s_law) (defScope s_law) .none kV_law dc_law pm_law an_law cd_law ct_law), sl_law⟩)
    (c_law : PySem.W.codeIn K cd_law "law" = true)
    (k_law : PySem.W.keepIn K (.ref f_law) = true)
    (pg_Level : PySem.W.plainGet K C_Level Str.empty = true)
    (hd_Level : PySem.W.hasDictIn K C_Level = true)
    (po_Level : PySem.W.plainOver K C_Level = true)
    (sa_Level : PySem.W.findIn K (.ref C_Level) "__setattr__" = some (some (.builtin "object.__setattr__")))
    (mk_Level : PySem.W.makesIn K C_Level = true)
    (kc_Level : PySem.W.keepIn K (.ref C_Level) = true)
    (no_Level_above : PySem.W.findIn K (.ref C_Level) "above" = some none)
    (no_Level_word : PySem.W.findIn K (.ref C_Level) "word" = some none)
    (no_Level_parts : PySem.W.findIn K (.ref C_Level) "parts" = some none)
    (no_Level_numbers : PySem.W.findIn K (.ref C_Level) "numbers" = some none)
    (pg_Reading : PySem.W.plainGet K C_Reading Str.empty = true)
    (hd_Reading : PySem.W.hasDictIn K C_Reading = true)
    (po_Reading : PySem.W.plainOver K C_Reading = true)
    (sa_Reading : PySem.W.findIn K (.ref C_Reading) "__setattr__" = some (some (.builtin "object.__setattr__")))
    (mk_Reading : PySem.W.makesIn K C_Reading = true)
    (kc_Reading : PySem.W.keepIn K (.ref C_Reading) = true)
    (no_Reading_levels : PySem.W.findIn K (.ref C_Reading) "levels" = some none)
    (no_Reading_names : PySem.W.findIn K (.ref C_Reading) "names" = some none)
    (no_Reading_due : PySem.W.findIn K (.ref C_Reading) "due" = some none)
    (x_InvalidText : K.lookup C_InvalidText = some (excClassObj nm_InvalidText qq_InvalidText C_InvalidText N_InvalidText bs_InvalidText bm_InvalidText true sn_InvalidText sub_InvalidText ab_InvalidText col_InvalidText dd_InvalidText m0_InvalidText m1_InvalidText m2_InvalidText m3_InvalidText m5_InvalidText "ValueError.__new__"))
    (rv_InvalidText : PySem.HandSPX.refsVE bm_InvalidText = true)
    (xs_InvalidText : PySem.W.findIn K (.ref C_InvalidText) "__setattr__" = some (some (.builtin "object.__setattr__")))
    (xe_InvalidText : PySem.W.subIn K (.ref C_InvalidText) (.type "BaseException") = some true)
    (xt_InvalidText : PySem.W.typeIn K (.ref C_InvalidText) = some (.type "type"))
    (xk_InvalidText : PySem.W.keepIn K (.ref C_InvalidText) = true)
    (xi_InvalidText : PySem.W.findIn K (.ref C_InvalidText) "__init__" = some (some (.ref f_InvalidText_init)))
    (xf_InvalidText : PySem.W.typeIn K (.ref f_InvalidText_init) = some (.type "function"))
    (l_InvalidText_init : K.lookup f_InvalidText_init = some ⟨oc_InvalidText_init, od_InvalidText_init, .func (PySem.W.ksFn "__init__" "InvalidText.__init__" (defArgs s_InvalidText_init) (defBody s_InvalidText_init) (defScope s_InvalidText_init) .none kV_InvalidText_init dc_InvalidText_init pm_InvalidText_init an_InvalidText_init (.ref cd_InvalidText_init) ct_InvalidText_init ce_InvalidText_init), sl_InvalidText_init⟩)
    (c_InvalidText_init : PySem.W.codeIn K (.ref cd_InvalidText_init) "InvalidText.__init__" = true)
    (lc_InvalidText_init : K.lookup cd_InvalidText_init = some ⟨cc_InvalidText_init, cdd_InvalidText_init, .fields vs_InvalidText_init, ccs_InvalidText_init⟩)
    (vf_InvalidText_init : vs_InvalidText_init[2]? = some (.str fl_InvalidText_init tf_InvalidText_init))
    (fl_ok_InvalidText_init : ((P.main.file : Str) == fl_InvalidText_init) = true)
    (le_InvalidText_init : K.lookup ce_InvalidText_init = some ⟨cl_InvalidText_init, ld_InvalidText_init, .cell (some (.ref C_InvalidText)), ls_InvalidText_init⟩)
    (mr_InvalidText : PySem.W.mroIn K C_InvalidText (.ref C_InvalidText) = some true)
    (su_InvalidText : PySem.W.ks_superIn K C_InvalidText C_InvalidText "__init__" = some (some (.builtin "ValueError.__init__")))
    (sv_InvalidText : PySem.W.subIn K (.ref C_InvalidText) (.type "ValueError") = some true)
    (any_InvalidText : PySem.W.nsIn K cStatics "thirdparty.any" = some none)
    (top_InvalidText : (P.main.scope.names.lookup ("super" : Str)).isSome = false)
    (one_InvalidText : PySem.W.exmOne K (.ref C_InvalidText) (.ref C_InvalidText) = some true)
    (nf_InvalidText : PySem.W.findIn K (.ref C_InvalidText) "at" = some none)
    (xfb_InvalidText : xfB K C_InvalidText = true)
    (z_len : PySem.W.nsIn K mainGlobals "len" = some none)
    (z_str : PySem.W.nsIn K mainGlobals "str" = some none)
    (z_int : PySem.W.nsIn K mainGlobals "int" = some none)
    (z_abs : PySem.W.nsIn K mainGlobals "abs" = some none)
    (z_list : PySem.W.nsIn K mainGlobals "list" = some none)
    (z_tuple : PySem.W.nsIn K mainGlobals "tuple" = some none)
    (z_all : PySem.W.nsIn K mainGlobals "all" = some none)
    (z_isinstance : PySem.W.nsIn K mainGlobals "isinstance" = some none)
    (z_range : PySem.W.nsIn K mainGlobals "range" = some none)
    (z_enumerate : PySem.W.nsIn K mainGlobals "enumerate" = some none)
    (z_reversed : PySem.W.nsIn K mainGlobals "reversed" = some none)
    (z_super : PySem.W.nsIn K mainGlobals "super" = some none)
    (v_LETTERS : PySem.W.nsIn K mainGlobals "LETTERS" = some (some (.str "abcdefghijklmnopqrstuvwxyz" t_LETTERS)))
    (v_LONGEST_NAME : PySem.W.nsIn K mainGlobals "LONGEST_NAME" = some (some (.int 5 t_LONGEST_NAME)))
    (v_MOST_AMOUNT : PySem.W.nsIn K mainGlobals "MOST_AMOUNT" = some (some (.int 60 t_MOST_AMOUNT)))
    (v_MOST_KINDS : PySem.W.nsIn K mainGlobals "MOST_KINDS" = some (some (.int 8 t_MOST_KINDS)))
    (v_FIGURES : PySem.W.nsIn K mainGlobals "FIGURES" = some (some (.str "0123456789" t_FIGURES))) :
    ∃ fd : FuncData, (∀ (s : Shared) (u : Value), BindsTo s fd ⟨[u], []⟩ [("script", u)]) ∧ ∀ base : Heap, K.In base → base.Ns mainGlobals mg → FnOk P w K mg base CX0 30 fa fd ["script"] (spLaw K) := by
  have e := hfa.symm.trans (PySem.W.mg_of X G a_law)
  cases e
  have F_is_name := fun_mk (st := s_is_name) l_is_name c_is_name k_is_name
  have b_is_name := F_is_name.binds (ps := ["value"]) fun _ _ _ _ _ _ us hl => match us, hl with | [_], _ => rfl
  have F_read_amount := fun_mk (st := s_read_amount) l_read_amount c_read_amount k_read_amount
  have b_read_amount := F_read_amount.binds (ps := ["word"]) fun _ _ _ _ _ _ us hl => match us, hl with | [_], _ => rfl
  have F_show_part := fun_mk (st := s_show_part) l_show_part c_show_part k_show_part
  have b_show_part := F_show_part.binds (ps := ["formula"]) fun _ _ _ _ _ _ us hl => match us, hl with | [_], _ => rfl
  have F_show_formula := fun_mk (st := s_show_formula) l_show_formula c_show_formula k_show_formula
  have b_show_formula := F_show_formula.binds (ps := ["formula"]) fun _ _ _ _ _ _ us hl => match us, hl with | [_], _ => rfl
  have F_Level_init := fun_mk (st := s_Level_init) l_Level_init c_Level_init k_Level_init
  have b_Level_init := F_Level_init.binds (ps := ["self", "above"]) fun _ _ _ _ _ _ us hl => match us, hl with | [_, _], _ => rfl
  have F_Level_weight := fun_mk (st := s_Level_weight) l_Level_weight c_Level_weight k_Level_weight
  have b_Level_weight := F_Level_weight.binds (ps := ["self"]) fun _ _ _ _ _ _ us hl => match us, hl with | [_], _ => rfl
  have F_Level_put := fun_mk (st := s_Level_put) l_Level_put c_Level_put k_Level_put
  have b_Level_put := F_Level_put.binds (ps := ["self", "part"]) fun _ _ _ _ _ _ us hl => match us, hl with | [_, _], _ => rfl
  have F_Level_whole_part := fun_mk (st := s_Level_whole_part) l_Level_whole_part c_Level_whole_part k_Level_whole_part
  have b_Level_whole_part := F_Level_whole_part.binds (ps := ["self"]) fun _ _ _ _ _ _ us hl => match us, hl with | [_], _ => rfl
  have F_Reading_init := fun_mk (st := s_Reading_init) l_Reading_init c_Reading_init k_Reading_init
  have b_Reading_init := F_Reading_init.binds (ps := ["self"]) fun _ _ _ _ _ _ us hl => match us, hl with | [_], _ => rfl
  have F_Reading_take := fun_mk (st := s_Reading_take) l_Reading_take c_Reading_take k_Reading_take
  have b_Reading_take := F_Reading_take.binds (ps := ["self", "word"]) fun _ _ _ _ _ _ us hl => match us, hl with | [_, _], _ => rfl
  have F_Reading_begin := fun_mk (st := s_Reading_begin) l_Reading_begin c_Reading_begin k_Reading_begin
  have b_Reading_begin := F_Reading_begin.binds (ps := ["self", "level", "word"]) fun _ _ _ _ _ _ us hl => match us, hl with | [_, _, _], _ => rfl
  have F_Reading_go_on := fun_mk (st := s_Reading_go_on) l_Reading_go_on c_Reading_go_on k_Reading_go_on
  have b_Reading_go_on := F_Reading_go_on.binds (ps := ["self", "level", "word"]) fun _ _ _ _ _ _ us hl => match us, hl with | [_, _, _], _ => rfl
  have F_read_formula := fun_mk (st := s_read_formula) l_read_formula c_read_formula k_read_formula
  have b_read_formula := F_read_formula.binds (ps := ["text"]) fun _ _ _ _ _ _ us hl => match us, hl with | [_], _ => rfl
  have F_heap := fun_mk (st := s_heap) l_heap c_heap k_heap
  have b_heap := F_heap.binds (ps := ["script"]) fun _ _ _ _ _ _ us hl => match us, hl with | [_], _ => rfl
  have F_draw := fun_mk (st := s_draw) l_draw c_draw k_draw
  have b_draw := F_draw.binds (ps := ["heap", "many"]) fun _ _ _ _ _ _ us hl => match us, hl with | [_, _], _ => rfl
  have F_pick := fun_mk (st := s_pick) l_pick c_pick k_pick
  have b_pick := F_pick.binds (ps := ["heap", "some"]) fun _ _ _ _ _ _ us hl => match us, hl with | [_, _], _ => rfl
  have F_shuffled := fun_mk (st := s_shuffled) l_shuffled c_shuffled k_shuffled
  have b_shuffled := F_shuffled.binds (ps := ["heap", "some"]) fun _ _ _ _ _ _ us hl => match us, hl with | [_, _], _ => rfl
  have F_formula := fun_mk (st := s_formula) l_formula c_formula k_formula
  have b_formula := F_formula.binds (ps := ["heap", "names", "most", "deep"]) fun _ _ _ _ _ _ us hl => match us, hl with | [_, _, _, _], _ => rfl
  have F_names := fun_mk (st := s_names) l_names c_names k_names
  have b_names := F_names.binds (ps := ["heap", "many"]) fun _ _ _ _ _ _ us hl => match us, hl with | [_, _], _ => rfl
  have F_words := fun_mk (st := s_words) l_words c_words k_words
  have b_words := F_words.binds (ps := ["heap", "formula", "inner", "deep"]) fun _ _ _ _ _ _ us hl => match us, hl with | [_, _, _, _], _ => rfl
  have F_text := fun_mk (st := s_text) l_text c_text k_text
  have b_text := F_text.binds (ps := ["heap", "words"]) fun _ _ _ _ _ _ us hl => match us, hl with | [_, _], _ => rfl
  have F_wrong := fun_mk (st := s_wrong) l_wrong c_wrong k_wrong
  have b_wrong := F_wrong.binds (ps := ["text"]) fun _ _ _ _ _ _ us hl => match us, hl with | [_], _ => rfl
  have F_law := fun_mk (st := s_law) l_law c_law k_law
  have b_law := F_law.binds (ps := ["script"]) fun _ _ _ _ _ _ us hl => match us, hl with | [_], _ => rfl
  let A : Ads := { InvalidText_init := f_InvalidText_init, is_name := f_is_name, d_is_name := (PySem.W.fnOf "is_name" "is_name" (defArgs s_is_name) (defBody s_is_name) (defScope s_is_name) .none kV_is_name dc_is_name pm_is_name an_is_name cd_is_name ct_is_name), read_amount := f_read_amount, d_read_amount := (PySem.W.fnOf "read_amount" "read_amount" (defArgs s_read_amount) (defBody s_read_amount) (defScope s_read_amount) .none kV_read_amount dc_read_amount pm_read_amount an_read_amount cd_read_amount ct_read_amount), show_part := f_show_part, d_show_part := (PySem.W.fnOf "show_part" "show_part" (defArgs s_show_part) (defBody s_show_part) (defScope s_show_part) .none kV_show_part dc_show_part pm_show_part an_show_part cd_show_part ct_show_part), show_formula := f_show_formula, d_show_formula := (PySem.W.fnOf "show_formula" "show_formula" (defArgs s_show_formula) (defBody s_show_formula) (defScope s_show_formula) .none kV_show_formula dc_show_formula pm_show_formula an_show_formula cd_show_formula ct_show_formula), Level_init := f_Level_init, d_Level_init := (PySem.W.fnOf "__init__" "Level.__init__" (defArgs s_Level_init) (defBody s_Level_init) (defScope s_Level_init) .none kV_Level_init dc_Level_init pm_Level_init an_Level_init cd_Level_init ct_Level_init), Level_weight := f_Level_weight, d_Level_weight := (PySem.W.fnOf "weight" "Level.weight" (defArgs s_Level_weight) (defBody s_Level_weight) (defScope s_Level_weight) .none kV_Level_weight dc_Level_weight pm_Level_weight an_Level_weight cd_Level_weight ct_Level_weight), Level_put := f_Level_put, d_Level_put := (PySem.W.fnOf "put" "Level.put" (defArgs s_Level_put) (defBody s_Level_put) (defScope s_Level_put) .none kV_Level_put dc_Level_put pm_Level_put an_Level_put cd_Level_put ct_Level_put), Level_whole_part := f_Level_whole_part, d_Level_whole_part := (PySem.W.fnOf "whole_part" "Level.whole_part" (defArgs s_Level_whole_part) (defBody s_Level_whole_part) (defScope s_Level_whole_part) .none kV_Level_whole_part dc_Level_whole_part pm_Level_whole_part an_Level_whole_part cd_Level_whole_part ct_Level_whole_part), Reading_init := f_Reading_init, d_Reading_init := (PySem.W.fnOf "__init__" "Reading.__init__" (defArgs s_Reading_init) (defBody s_Reading_init) (defScope s_Reading_init) .none kV_Reading_init dc_Reading_init pm_Reading_init an_Reading_init cd_Reading_init ct_Reading_init), Reading_take := f_Reading_take, d_Reading_take := (PySem.W.fnOf "take" "Reading.take" (defArgs s_Reading_take) (defBody s_Reading_take) (defScope s_Reading_take) .none kV_Reading_take dc_Reading_take pm_Reading_take an_Reading_take cd_Reading_take ct_Reading_take), Reading_begin := f_Reading_begin, d_Reading_begin := (PySem.W.fnOf "begin" "Reading.begin" (defArgs s_Reading_begin) (defBody s_Reading_begin) (defScope s_Reading_begin) .none kV_Reading_begin dc_Reading_begin pm_Reading_begin an_Reading_begin cd_Reading_begin ct_Reading_begin), Reading_go_on := f_Reading_go_on, d_Reading_go_on := (PySem.W.fnOf "go_on" "Reading.go_on" (defArgs s_Reading_go_on) (defBody s_Reading_go_on) (defScope s_Reading_go_on) .none kV_Reading_go_on dc_Reading_go_on pm_Reading_go_on an_Reading_go_on cd_Reading_go_on ct_Reading_go_on), read_formula := f_read_formula, d_read_formula := (PySem.W.fnOf "read_formula" "read_formula" (defArgs s_read_formula) (defBody s_read_formula) (defScope s_read_formula) .none kV_read_formula dc_read_formula pm_read_formula an_read_formula cd_read_formula ct_read_formula), heap := f_heap, d_heap := (PySem.W.fnOf "_law_heap" "_law_heap" (defArgs s_heap) (defBody s_heap) (defScope s_heap) .none kV_heap dc_heap pm_heap an_heap cd_heap ct_heap), draw := f_draw, d_draw := (PySem.W.fnOf "_law_draw" "_law_draw" (defArgs s_draw) (defBody s_draw) (defScope s_draw) .none kV_draw dc_draw pm_draw an_draw cd_draw ct_draw), pick := f_pick, d_pick := (PySem.W.fnOf "_law_pick" "_law_pick" (defArgs s_pick) (defBody s_pick) (defScope s_pick) .none kV_pick dc_pick pm_pick an_pick cd_pick ct_pick), shuffled := f_shuffled, d_shuffled := (PySem.W.fnOf "_law_shuffled" "_law_shuffled" (defArgs s_shuffled) (defBody s_shuffled) (defScope s_shuffled) .none kV_shuffled dc_shuffled pm_shuffled an_shuffled cd_shuffled ct_shuffled), formula := f_formula, d_formula := (PySem.W.fnOf "_law_formula" "_law_formula" (defArgs s_formula) (defBody s_formula) (defScope s_formula) .none kV_formula dc_formula pm_formula an_formula cd_formula ct_formula), names := f_names, d_names := (PySem.W.fnOf "_law_names" "_law_names" (defArgs s_names) (defBody s_names) (defScope s_names) .none kV_names dc_names pm_names an_names cd_names ct_names), words := f_words, d_words := (PySem.W.fnOf "_law_words" "_law_words" (defArgs s_words) (defBody s_words) (defScope s_words) .none kV_words dc_words pm_words an_words cd_words ct_words), text := f_text, d_text := (PySem.W.fnOf "_law_text" "_law_text" (defArgs s_text) (defBody s_text) (defScope s_text) .none kV_text dc_text pm_text an_text cd_text ct_text), wrong := f_wrong, d_wrong := (PySem.W.fnOf "_law_wrong" "_law_wrong" (defArgs s_wrong) (defBody s_wrong) (defScope s_wrong) .none kV_wrong dc_wrong pm_wrong an_wrong cd_wrong ct_wrong), law := fa, d_law := (PySem.W.fnOf "law" "law" (defArgs s_law) (defBody s_law) (defScope s_law) .none kV_law dc_law pm_law an_law cd_law ct_law), c_Level := C_Level, c_Reading := C_Reading, c_InvalidText := C_InvalidText }
  have T : Txt K mg A := {
    is_name := ⟨F_is_name, PySem.W.mg_of X G a_is_name, b_is_name⟩
    read_amount := ⟨F_read_amount, PySem.W.mg_of X G a_read_amount, b_read_amount⟩
    show_part := ⟨F_show_part, PySem.W.mg_of X G a_show_part, b_show_part⟩
    show_formula := ⟨F_show_formula, PySem.W.mg_of X G a_show_formula, b_show_formula⟩
    Level_init := F_Level_init
    b_Level_init := b_Level_init
    Level_weight := ⟨F_Level_weight, ⟨a_Level_weight, i_Level_weight, k_Level_weight⟩, b_Level_weight⟩
    Level_put := ⟨F_Level_put, ⟨a_Level_put, i_Level_put, k_Level_put⟩, b_Level_put⟩
    Level_whole_part := ⟨F_Level_whole_part, ⟨a_Level_whole_part, i_Level_whole_part, k_Level_whole_part⟩, b_Level_whole_part⟩
    Reading_init := F_Reading_init
    b_Reading_init := b_Reading_init
    Reading_take := ⟨F_Reading_take, ⟨a_Reading_take, i_Reading_take, k_Reading_take⟩, b_Reading_take⟩
    Reading_begin := ⟨F_Reading_begin, ⟨a_Reading_begin, i_Reading_begin, k_Reading_begin⟩, b_Reading_begin⟩
    Reading_go_on := ⟨F_Reading_go_on, ⟨a_Reading_go_on, i_Reading_go_on, k_Reading_go_on⟩, b_Reading_go_on⟩
    read_formula := ⟨F_read_formula, PySem.W.mg_of X G a_read_formula, b_read_formula⟩
    heap := ⟨F_heap, PySem.W.mg_of X G a_heap, b_heap⟩
    draw := ⟨F_draw, PySem.W.mg_of X G a_draw, b_draw⟩
    pick := ⟨F_pick, PySem.W.mg_of X G a_pick, b_pick⟩
    shuffled := ⟨F_shuffled, PySem.W.mg_of X G a_shuffled, b_shuffled⟩
    formula := ⟨F_formula, PySem.W.mg_of X G a_formula, b_formula⟩
    names := ⟨F_names, PySem.W.mg_of X G a_names, b_names⟩
    words := ⟨F_words, PySem.W.mg_of X G a_words, b_words⟩
    text := ⟨F_text, PySem.W.mg_of X G a_text, b_text⟩
    wrong := ⟨F_wrong, PySem.W.mg_of X G a_wrong, b_wrong⟩
    law := ⟨F_law, PySem.W.mg_of X G a_law, b_law⟩
    cl_Level := ⟨pg_Level, hd_Level, po_Level, sa_Level⟩
    mk_Level := ⟨mk_Level, a_Level_init, i_Level_init, kc_Level⟩
    mg_Level := PySem.W.mg_of X G a_Level
    no_Level_above := no_Level_above
    no_Level_word := no_Level_word
    no_Level_parts := no_Level_parts
    no_Level_numbers := no_Level_numbers
    cl_Reading := ⟨pg_Reading, hd_Reading, po_Reading, sa_Reading⟩
    mk_Reading := ⟨mk_Reading, a_Reading_init, i_Reading_init, kc_Reading⟩
    mg_Reading := PySem.W.mg_of X G a_Reading
    no_Reading_levels := no_Reading_levels
    no_Reading_names := no_Reading_names
    no_Reading_due := no_Reading_due
    ex_InvalidText := ⟨⟨_, _, _, _, _, _, _, _, _, _, _, _, _, _, _, x_InvalidText, rv_InvalidText⟩, xs_InvalidText, xe_InvalidText, xt_InvalidText, xk_InvalidText⟩
    ei_InvalidText := xi_InvalidText
    et_InvalidText := xf_InvalidText
    eg_InvalidText := PySem.W.mg_of X G a_InvalidText
    eo_InvalidText := one_InvalidText
    n_len := PySem.W.mg_none_of X G z_len
    n_str := PySem.W.mg_none_of X G z_str
    n_int := PySem.W.mg_none_of X G z_int
    n_abs := PySem.W.mg_none_of X G z_abs
    n_list := PySem.W.mg_none_of X G z_list
    n_tuple := PySem.W.mg_none_of X G z_tuple
    n_all := PySem.W.mg_none_of X G z_all
    n_isinstance := PySem.W.mg_none_of X G z_isinstance
    n_range := PySem.W.mg_none_of X G z_range
    n_enumerate := PySem.W.mg_none_of X G z_enumerate
    n_reversed := PySem.W.mg_none_of X G z_reversed
    n_super := PySem.W.mg_none_of X G z_super
    cLETTERS := ⟨_, PySem.W.mg_of X G v_LETTERS⟩
    cLONGEST_NAME := ⟨_, PySem.W.mg_of X G v_LONGEST_NAME⟩
    cMOST_AMOUNT := ⟨_, PySem.W.mg_of X G v_MOST_AMOUNT⟩
    cMOST_KINDS := ⟨_, PySem.W.mg_of X G v_MOST_KINDS⟩
    cFIGURES := ⟨_, PySem.W.mg_of X G v_FIGURES⟩ }
  have XE : ExcT P K mg A := { sup := ⟨_, ⟨⟨_, _, _, _, _, _, _, _, _, _, _, _, _, _, _, _, _, _, _, _, rfl, l_InvalidText_init, c_InvalidText_init, lc_InvalidText_init, vf_InvalidText_init, fl_ok_InvalidText_init, le_InvalidText_init⟩, T.ex_InvalidText, mr_InvalidText, su_InvalidText, sv_InvalidText, any_InvalidText, PySem.W.mg_none_of X G z_super, top_InvalidText⟩, .all fun us hl => match us, hl with | [_, _], _ => rfl⟩, ini := xi_InvalidText, fn := xf_InvalidText, g := PySem.W.mg_of X G a_InvalidText, one := one_InvalidText, no := nf_InvalidText, fld := xfB_ok xfb_InvalidText }
  exact ⟨_, fun s u => .of_eq rfl, fun base _ _ => ok_law T XE⟩
theorem walk {l : PySem.W.OpenLaw} {q : Program} {loose : List Str} {XP : (Str → Option Value) → Heap → Prop} {YP : World → Heap → Prop} {d : DefRec} {K : Params → PySem.W.Frag} (hn : l.most = some 63) (hdf : d.params.defaults = [])
    (hY : ∀ (w : World) (h : Heap), YP w h → (K w.params).In h)
    (F : ∀ (w : World) (mg : Str → Option Value) (fa : Addr) (h : Heap), (K w.params).In h → h.Ns mainGlobals mg → mg d.name = some (.ref fa) →
      ∃ fd : FuncData, (∀ (s : Shared) (u : Value), BindsTo s fd ⟨[u], []⟩ [("script", u)]) ∧ ∀ base : Heap, (K w.params).In base → base.Ns mainGlobals mg → FnOk l.prog w (K w.params) mg base CX0 30 fa fd ["script"] (spLaw (K w.params))) :
    PySem.W.WalkO q loose XP YP l.row.toRowW d [] (fun f vs => PySem.call f vs) :=
  L2.walk_of (n := 63) (k := 30) (x := "script") (CX := fun _ => CX0) (sp := fun w => spLaw (K w.params)) hn (by decide) hdf ⟨rfl, by decide, by decide⟩ hY F (fun _ _ a ns hl _ hS => ⟨a, ns, rfl, hS, hl, fun _ => rfl⟩) fun _ _ _ _ _ z => z
end K77

set_option Elab.async false
set_option maxRecDepth 100000
--END
open PySem PySem.W PyProof.Rows in
set_option maxRecDepth 100000 in
set_option maxHeartbeats 0 in
theorem PySem.Challenge.cw_asmany_k77_whole_texts_with_fifty_parent_holds : PySem.Challenge.rw_asmany_k77_whole_texts_with_fifty_parent.Holds := by
  w_on; o_law; k_head; (case hw => w_witness2)
  k_fill
  refine K77.walk (l := PySem.Challenge.rw_asmany_k77_whole_texts_with_fifty_parent) rfl rfl (fun w h Y => PySem.W.kIn_of Y) ?F
  case F =>
    intro w mg fa h KX G hmg
    refine' K77.all_mk KX G hmg ?a_Level ?a_Reading ?a_InvalidText ?a_is_name ?l_is_name ?c_is_name ?k_is_name ?a_read_amount ?l_read_amount ?c_read_amount ?k_read_amount ?a_show_part ?l_show_part ?c_show_part ?k_show_part ?a_show_formula ?l_show_formula ?c_show_formula ?k_show_formula ?a_Level_init ?i_Level_init ?l_Level_init ?c_Level_init ?k_Level_init ?a_Level_weight ?i_Level_weight ?l_Level_weight ?c_Level_weight ?k_Level_weight ?a_Level_put ?i_Level_put ?l_Level_put ?c_Level_put ?k_Level_put ?a_Level_whole_part ?i_Level_whole_part ?l_Level_whole_part ?c_Level_whole_part ?k_Level_whole_part ?a_Reading_init ?i_Reading_init ?l_Reading_init ?c_Reading_init ?k_Reading_init ?a_Reading_take ?i_Reading_take ?l_Reading_take ?c_Reading_take ?k_Reading_take ?a_Reading_begin ?i_Reading_begin ?l_Reading_begin ?c_Reading_begin ?k_Reading_begin ?a_Reading_go_on ?i_Reading_go_on ?l_Reading_go_on ?c_Reading_go_on ?k_Reading_go_on ?a_read_formula ?l_read_formula ?c_read_formula ?k_read_formula ?a_heap ?l_heap ?c_heap ?k_heap ?a_draw ?l_draw ?c_draw ?k_draw ?a_pick ?l_pick ?c_pick ?k_pick ?a_shuffled ?l_shuffled ?c_shuffled ?k_shuffled ?a_formula ?l_formula ?c_formula ?k_formula ?a_names ?l_names ?c_names ?k_names ?a_words ?l_words ?c_words ?k_words ?a_text ?l_text ?c_text ?k_text ?a_wrong ?l_wrong ?c_wrong ?k_wrong ?a_law ?l_law ?c_law ?k_law ?pg_Level ?hd_Level ?po_Level ?sa_Level ?mk_Level ?kc_Level ?no_Level_above ?no_Level_word ?no_Level_parts ?no_Level_numbers ?pg_Reading ?hd_Reading ?po_Reading ?sa_Reading ?mk_Reading ?kc_Reading ?no_Reading_levels ?no_Reading_names ?no_Reading_due ?x_InvalidText ?rv_InvalidText ?xs_InvalidText ?xe_InvalidText ?xt_InvalidText ?xk_InvalidText ?xi_InvalidText ?xf_InvalidText ?l_InvalidText_init ?c_InvalidText_init ?lc_InvalidText_init ?vf_InvalidText_init ?fl_ok_InvalidText_init ?le_InvalidText_init ?mr_InvalidText ?su_InvalidText ?sv_InvalidText ?any_InvalidText ?top_InvalidText ?one_InvalidText ?nf_InvalidText ?xfb_InvalidText ?z_len ?z_str ?z_int ?z_abs ?z_list ?z_tuple ?z_all ?z_isinstance ?z_range ?z_enumerate ?z_reversed ?z_super ?v_LETTERS ?v_LONGEST_NAME ?v_MOST_AMOUNT ?v_MOST_KINDS ?v_FIGURES
    (case a_Level => k_is)
    (case a_Reading => k_is)
    (case a_InvalidText => k_is)
    (case a_is_name => k_is)
    (case l_is_name => k_is)
    (case c_is_name => k_is)
    (case k_is_name => k_is)
    (case a_read_amount => k_is)
    (case l_read_amount => k_is)
    (case c_read_amount => k_is)
    (case k_read_amount => k_is)
    (case a_show_part => k_is)
    (case l_show_part => k_is)
    (case c_show_part => k_is)
    (case k_show_part => k_is)
    (case a_show_formula => k_is)
    (case l_show_formula => k_is)
    (case c_show_formula => k_is)
    (case k_show_formula => k_is)
    (case a_Level_init => k_is)
    (case i_Level_init => k_is)
    (case l_Level_init => k_is)
    (case c_Level_init => k_is)
    (case k_Level_init => k_is)
    (case a_Level_weight => k_is)
    (case i_Level_weight => k_is)
    (case l_Level_weight => k_is)
    (case c_Level_weight => k_is)
    (case k_Level_weight => k_is)
    (case a_Level_put => k_is)
    (case i_Level_put => k_is)
    (case l_Level_put => k_is)
    (case c_Level_put => k_is)
    (case k_Level_put => k_is)
    (case a_Level_whole_part => k_is)
    (case i_Level_whole_part => k_is)
    (case l_Level_whole_part => k_is)
    (case c_Level_whole_part => k_is)
    (case k_Level_whole_part => k_is)
    (case a_Reading_init => k_is)
    (case i_Reading_init => k_is)
    (case l_Reading_init => k_is)
    (case c_Reading_init => k_is)
    (case k_Reading_init => k_is)
    (case a_Reading_take => k_is)
    (case i_Reading_take => k_is)
    (case l_Reading_take => k_is)
    (case c_Reading_take => k_is)
    (case k_Reading_take => k_is)
    (case a_Reading_begin => k_is)
    (case i_Reading_begin => k_is)
    (case l_Reading_begin => k_is)
    (case c_Reading_begin => k_is)
    (case k_Reading_begin => k_is)
    (case a_Reading_go_on => k_is)
    (case i_Reading_go_on => k_is)
    (case l_Reading_go_on => k_is)
    (case c_Reading_go_on => k_is)
    (case k_Reading_go_on => k_is)
    (case a_read_formula => k_is)
    (case l_read_formula => k_is)
    (case c_read_formula => k_is)
    (case k_read_formula => k_is)
    (case a_heap => k_is)
    (case l_heap => k_is)
    (case c_heap => k_is)
    (case k_heap => k_is)
    (case a_draw => k_is)
    (case l_draw => k_is)
    (case c_draw => k_is)
    (case k_draw => k_is)
    (case a_pick => k_is)
    (case l_pick => k_is)
    (case c_pick => k_is)
    (case k_pick => k_is)
    (case a_shuffled => k_is)
    (case l_shuffled => k_is)
    (case c_shuffled => k_is)
    (case k_shuffled => k_is)
    (case a_formula => k_is)
    (case l_formula => k_is)
    (case c_formula => k_is)
    (case k_formula => k_is)
    (case a_names => k_is)
    (case l_names => k_is)
    (case c_names => k_is)
    (case k_names => k_is)
    (case a_words => k_is)
    (case l_words => k_is)
    (case c_words => k_is)
    (case k_words => k_is)
    (case a_text => k_is)
    (case l_text => k_is)
    (case c_text => k_is)
    (case k_text => k_is)
    (case a_wrong => k_is)
    (case l_wrong => k_is)
    (case c_wrong => k_is)
    (case k_wrong => k_is)
    (case a_law => k_is)
    (case l_law => k_is)
    (case c_law => k_is)
    (case k_law => k_is)
    (case pg_Level => k_is)
    (case hd_Level => k_is)
    (case po_Level => k_is)
    (case sa_Level => k_is)
    (case mk_Level => k_is)
    (case kc_Level => k_is)
    (case no_Level_above => k_is)
    (case no_Level_word => k_is)
    (case no_Level_parts => k_is)
    (case no_Level_numbers => k_is)
    (case pg_Reading => k_is)
    (case hd_Reading => k_is)
    (case po_Reading => k_is)
    (case sa_Reading => k_is)
    (case mk_Reading => k_is)
    (case kc_Reading => k_is)
    (case no_Reading_levels => k_is)
    (case no_Reading_names => k_is)
    (case no_Reading_due => k_is)
    (case x_InvalidText => k_is)
    (case rv_InvalidText => first | rfl | decide +kernel | k_is)
    (case xs_InvalidText => k_is)
    (case xe_InvalidText => k_is)
    (case xt_InvalidText => k_is)
    (case xk_InvalidText => k_is)
    (case xi_InvalidText => k_is)
    (case xf_InvalidText => k_is)
    (case l_InvalidText_init => k_is)
    (case c_InvalidText_init => k_is)
    (case lc_InvalidText_init => k_is)
    (case vf_InvalidText_init => first | rfl | decide +kernel | k_is)
    (case fl_ok_InvalidText_init => first | rfl | decide +kernel | k_is)
    (case le_InvalidText_init => k_is)
    (case mr_InvalidText => k_is)
    (case su_InvalidText => first | rfl | decide +kernel | (unfold PySem.W.ks_superIn; k_is))
    (case sv_InvalidText => k_is)
    (case any_InvalidText => k_is)
    (case top_InvalidText => first | rfl | decide +kernel | k_is)
    (case one_InvalidText => first | k_is | rfl | decide +kernel)
    (case nf_InvalidText => k_is)
    (case xfb_InvalidText => first | k_is | rfl | decide +kernel)
    (case z_len => k_is)
    (case z_str => k_is)
    (case z_int => k_is)
    (case z_abs => k_is)
    (case z_list => k_is)
    (case z_tuple => k_is)
    (case z_all => k_is)
    (case z_isinstance => k_is)
    (case z_range => k_is)
    (case z_enumerate => k_is)
    (case z_reversed => k_is)
    (case z_super => k_is)
    (case v_LETTERS => k_is)
    (case v_LONGEST_NAME => k_is)
    (case v_MOST_AMOUNT => k_is)
    (case v_MOST_KINDS => k_is)
    (case v_FIGURES => k_is)

