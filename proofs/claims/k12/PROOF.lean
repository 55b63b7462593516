import PyProof.Rows.All
import Wide.All
import OpenK.AllK
import Wide.FinOn
import HandS.ForMost
import HandS.Exc
import HandS.TryOnly
import HandS.ExcOwn
import HandS.WordsExc
import HandS.Lambda
import HandS.TupAny
import HandS.Wide
import HandS.Gcd
import HandS.IsInst
import HandS.TupMul
import HandS.RaiseMore
import KE.KTupSum
import HandS.Zip
import KE.GoesEnum
import HandS.Text
import HandS.SortInts
import KE.KRevSl
import HandS.Deep
import PyProof.P3In
import HandS.Iter
import HandS.DictComp
import HandS.More
import HandS.SetFor
import HandS.HeadHook1
import KE.KLam
import HandS.ExcIs
import HandS.Ends
import HandS.EndTab
import HandS.Defaults
import HandS.HeadHook4
import PyProof.ReprBulk
import KE.KStateDown
import HandS.Head0
import HandS.Head1
import HandS.Head2
import HandS.Head3
import HandS.HeadEnd
import PySem.Challenge.RW_turnedseeds_k12_whole_rows_of_two_places
set_option Elab.async false
set_option linter.all false
set_option maxRecDepth 100000
section
/-! E1: data that stand in the heap, slots, frames of the heap -/
namespace Eg
open PySem PySem.Spec L2
open PyProof.Rows hiding St

abbrev D := PyData
abbrev AP := Addr → Prop

def keyD : L2.Key → D
  | .inl i => .int i
  | .inr x => .str x

/-- a list that may be read and is not one of S -/
def LsS (K : PySem.W.Frag) (H : Hp) (S : AP) (a : Addr) (xs : List V) : Prop :=
  H a = some (.lst xs) ∧ ¬ S a

mutual
/-- v stands for the data d in H; no list or dict of it is one of S -/
def Rp (K : PySem.W.Frag) (H : Hp) (S : AP) : D → V → Prop
  | .none, v => v = .non
  | .bool b, v => v = .bl b
  | .int i, v => v = .int i
  | .str x, v => v = .str x
  | .list ds, v => ∃ a xs, v = .ref a ∧ LsS K H S a xs ∧ RpA K H S ds xs
  | .tuple ds, v => ∃ a xs, v = .ref a ∧ SqT K H a xs ∧ RpA K H S ds xs
  | .dict kvs, v => ∃ a ks, v = .ref a ∧ Rd H a (.dK ks) ∧ ¬ S a ∧ RpK K H S kvs ks
def RpA (K : PySem.W.Frag) (H : Hp) (S : AP) : List D → List V → Prop
  | [], vs => vs = []
  | d :: ds, vs => ∃ v r, vs = v :: r ∧ Rp K H S d v ∧ RpA K H S ds r
def RpK (K : PySem.W.Frag) (H : Hp) (S : AP) : List (D × D) → List (L2.Key × V) → Prop
  | [], vs => vs = []
  | (k, d) :: ds, vs => ∃ q v r, vs = (q, v) :: r ∧ k = keyD q ∧ Rp K H S d v ∧ RpK K H S ds r
end

/-- what a step may write -/
def MutO (H : Hp) (a : Addr) : Prop := (∃ xs, H a = some (.lst xs)) ∨ ∃ ks, H a = some (.dK ks)
/-- not a table of code objects (a lambda that is made may write those) -/
def NT (o : HO) : Prop := ∀ ps, o ≠ .tbl ps
theorem nt_lst {xs : List V} : NT (.lst xs) := fun _ h => by cases h
theorem nt_tup {xs : List V} : NT (.tup xs) := fun _ h => by cases h
theorem nt_dK {xs : List (L2.Key × V)} : NT (.dK xs) := fun _ h => by cases h
theorem nt_frz {o : Obj} {u : HO} : NT (.frz o u) := fun _ h => by cases h
/-- all that is tracked and not one of T stays -/
def Kp (T : AP) (H H' : Hp) : Prop := ∀ a o, H a = some o → ¬ T a → NT o → H' a = some o

section
variable {K : PySem.W.Frag} {H H' : Hp} {S S' T : AP}
theorem Kp.refl : Kp T H H := fun _ _ e _ _ => e
theorem Kp.trans {H2 : Hp} {T2 : AP} (a : Kp T H H') (b : Kp T2 H' H2) : Kp (fun x => T x ∨ T2 x) H H2 := fun x o e n t => b x o (a x o e (fun z => n (.inl z)) t) (fun z => n (.inr z)) t
theorem Kp.mono {T2 : AP} (a : Kp T H H') (h : ∀ x, T x → T2 x) : Kp T2 H H' := fun x o e n t => a x o e (fun z => n (h x z)) t
theorem Kp.same (h : ∀ a o, H a = some o → H' a = some o) : Kp T H H' := fun a o e _ _ => h a o e

structure Fr0 (H H' : Hp) (S S' T : AP) : Prop where
  kp : Kp T H H'
  mu : ∀ a, T a → S a ∧ MutO H a
  sub : ∀ a, S' a → S a ∨ H a = none

theorem Rd.frame {u : HO} {a : Addr} (F : Fr0 H H' S S' T) (r : Rd H a u) (n : ¬ T a) (t : NT u := by first | exact nt_lst | exact nt_tup | exact nt_dK | assumption) : Rd H' a u := by
  rcases r with r | ⟨o, r⟩
  · exact .inl (F.kp a _ r n t)
  · exact .inr ⟨o, F.kp a _ r n nt_frz⟩
theorem Rd.ne {u : HO} {a : Addr} (r : Rd H a u) : H a ≠ none := by
  rcases r with r | ⟨o, r⟩ <;> rw [r] <;> exact nofun
theorem Rd.notMut {a : Addr} {xs : List V} (r : Rd H a (.tup xs)) : ¬ MutO H a := by
  rintro (⟨ys, e⟩ | ⟨ks, e⟩) <;> (rcases r with r | ⟨o, r⟩ <;> (rw [r] at e; cases e))
theorem LsS.frame {a : Addr} {xs : List V} (F : Fr0 H H' S S' T) (r : LsS K H S a xs) : LsS K H' S' a xs := by
  obtain ⟨r, n⟩ := r
  exact ⟨F.kp a _ r (fun t => n (F.mu a t).1) nt_lst, fun s => (F.sub a s).elim n fun z => by rw [r] at z; cases z⟩
theorem SqT.frame {a : Addr} {xs : List V} (F : Fr0 H H' S S' T) (r : SqT K H a xs) : SqT K H' a xs := by
  rcases r with r | r
  · exact .inl (Rd.frame F r fun t => Rd.notMut r (F.mu a t).2)
  · exact .inr r
mutual
theorem Rp.frame (F : Fr0 H H' S S' T) : ∀ (d : D) (v : V), Rp K H S d v → Rp K H' S' d v
  | .none, _, h => h
  | .bool _, _, h => h
  | .int _, _, h => h
  | .str _, _, h => h
  | .list ds, _, ⟨a, xs, e, l, r⟩ => ⟨a, xs, e, l.frame F, RpA.frame F ds xs r⟩
  | .tuple ds, _, ⟨a, xs, e, l, r⟩ => ⟨a, xs, e, SqT.frame F l, RpA.frame F ds xs r⟩
  | .dict kvs, _, ⟨a, ks, e, l, n, r⟩ => ⟨a, ks, e, Rd.frame F l fun t => n (F.mu a t).1, (fun s => (F.sub a s).elim n fun z => Rd.ne l z), RpK.frame F kvs ks r⟩
theorem RpA.frame (F : Fr0 H H' S S' T) : ∀ (ds : List D) (vs : List V), RpA K H S ds vs → RpA K H' S' ds vs
  | [], _, h => h
  | d :: ds, _, ⟨v, r, e, h1, h2⟩ => ⟨v, r, e, Rp.frame F d v h1, RpA.frame F ds r h2⟩
theorem RpK.frame (F : Fr0 H H' S S' T) : ∀ (ds : List (D × D)) (vs : List (L2.Key × V)), RpK K H S ds vs → RpK K H' S' ds vs
  | [], _, h => h
  | (k, d) :: ds, _, ⟨q, v, r, e, hk, h1, h2⟩ => ⟨q, v, r, e, hk, Rp.frame F d v h1, RpK.frame F ds r h2⟩
end

/-- the data, its outermost list or dict may be one of S -/
def RpT (K : PySem.W.Frag) (H : Hp) (S : AP) : D → V → Prop
  | .list ds, v => ∃ a xs, v = .ref a ∧ H a = some (.lst xs) ∧ RpA K H S ds xs
  | .dict kvs, v => ∃ a ks, v = .ref a ∧ Rd H a (.dK ks) ∧ RpK K H S kvs ks
  | d, v => Rp K H S d v
theorem LsS.sq {a : Addr} {xs : List V} (r : LsS K H S a xs) : SqL K H a xs := .inl (.inl r.1)
theorem Rp.top : ∀ {d : D} {v : V}, Rp K H S d v → RpT K H S d v
  | .none, _, h => h
  | .bool _, _, h => h
  | .int _, _, h => h
  | .str _, _, h => h
  | .list _, _, ⟨a, xs, e, l, r⟩ => ⟨a, xs, e, l.1, r⟩
  | .tuple _, _, h => h
  | .dict _, _, ⟨a, ks, e, l, _, r⟩ => ⟨a, ks, e, l, r⟩
theorem RpA.len : ∀ {ds : List D} {vs : List V}, RpA K H S ds vs → vs.length = ds.length
  | [], _, h => by cases h; rfl
  | d :: ds, _, ⟨v, r, e, _, h2⟩ => by rw [e, List.length_cons, List.length_cons, RpA.len h2]
theorem RpA.get : ∀ {ds : List D} {vs : List V} {i : Nat} {d : D}, RpA K H S ds vs → ds[i]? = some d → ∃ v, vs[i]? = some v ∧ Rp K H S d v
  | [], _, _, _, _, h => by simp at h
  | d :: ds, _, 0, _, ⟨v, r, e, h1, h2⟩, h => by
    simp at h
    subst h e
    exact ⟨v, rfl, h1⟩
  | d :: ds, _, i + 1, _, ⟨v, r, e, h1, h2⟩, h => by
    subst e
    obtain ⟨w, e1, e2⟩ := RpA.get (i := i) h2 (by simpa using h)
    exact ⟨w, by simpa using e1, e2⟩
theorem RpA.get' : ∀ {ds : List D} {vs : List V} {i : Nat} {v : V}, RpA K H S ds vs → vs[i]? = some v → ∃ d, ds[i]? = some d ∧ Rp K H S d v := fun {ds vs i v} h e => by
  have hl := h.len
  have hi : i < ds.length := by
    have := (List.getElem?_eq_some_iff.mp e).1
    omega
  obtain ⟨w, e1, e2⟩ := h.get (List.getElem?_eq_getElem hi)
  rw [e] at e1
  cases e1
  exact ⟨_, List.getElem?_eq_getElem hi, e2⟩
theorem RpA.append : ∀ {ds es : List D} {vs us : List V}, RpA K H S ds vs → RpA K H S es us → RpA K H S (ds ++ es) (vs ++ us)
  | [], _, _, _, h, h' => by cases h; exact h'
  | d :: ds, es, _, us, ⟨v, r, e, h1, h2⟩, h' => by subst e; exact ⟨v, r ++ us, rfl, h1, RpA.append h2 h'⟩
theorem RpA.take : ∀ (n : Nat) {ds : List D} {vs : List V}, RpA K H S ds vs → RpA K H S (ds.take n) (vs.take n)
  | 0, ds, _, _ => by show RpA K H S (ds.take 0) _; rw [List.take_zero, List.take_zero]; rfl
  | n + 1, [], _, h => by cases h; rfl
  | n + 1, d :: ds, _, ⟨v, r, e, h1, h2⟩ => by subst e; exact ⟨v, r.take n, rfl, h1, RpA.take n h2⟩
theorem RpA.drop : ∀ (n : Nat) {ds : List D} {vs : List V}, RpA K H S ds vs → RpA K H S (ds.drop n) (vs.drop n)
  | 0, _, _, h => h
  | n + 1, [], _, h => by cases h; rfl
  | n + 1, d :: ds, _, ⟨v, r, e, h1, h2⟩ => by subst e; exact RpA.drop n h2
theorem RpA.set : ∀ {ds : List D} {vs : List V} (i : Nat) {d : D} {v : V}, RpA K H S ds vs → Rp K H S d v → RpA K H S (ds.set i d) (vs.set i v)
  | [], _, _, _, _, h, _ => by cases h; rfl
  | d :: ds, _, 0, _, v', ⟨v, r, e, h1, h2⟩, h' => by subst e; exact ⟨v', r, rfl, h', h2⟩
  | d :: ds, _, i + 1, _, _, ⟨v, r, e, h1, h2⟩, h' => by subst e; exact ⟨v, r.set i _, rfl, h1, RpA.set i h2 h'⟩
theorem RpA.erase : ∀ {ds : List D} {vs : List V} (i : Nat), RpA K H S ds vs → RpA K H S (ds.eraseIdx i) (vs.eraseIdx i)
  | [], _, _, h => by cases h; rfl
  | d :: ds, _, 0, ⟨v, r, e, h1, h2⟩ => by subst e; exact h2
  | d :: ds, _, i + 1, ⟨v, r, e, h1, h2⟩ => by subst e; exact ⟨v, r.eraseIdx i, rfl, h1, RpA.erase i h2⟩
theorem RpA.cons_iff {d : D} {ds : List D} {vs : List V} : RpA K H S (d :: ds) vs ↔ ∃ v r, vs = v :: r ∧ Rp K H S d v ∧ RpA K H S ds r := Iff.rfl
theorem RpA.reverse : ∀ {ds : List D} {vs : List V}, RpA K H S ds vs → RpA K H S ds.reverse vs.reverse
  | [], _, h => by cases h; rfl
  | d :: ds, _, ⟨v, r, e, h1, h2⟩ => by
    subst e
    rw [List.reverse_cons, List.reverse_cons]
    exact (RpA.reverse h2).append ⟨v, [], rfl, h1, rfl⟩
theorem RpA.ints : ∀ {ns : List Int} {vs : List V}, RpA K H S (ns.map .int) vs → vs = ns.map .int
  | [], _, h => h
  | n :: ns, _, ⟨v, r, e, h1, h2⟩ => by
    have := RpA.ints h2
    rw [e, this]
    cases (show v = .int n from h1)
    rfl
theorem RpA.of_ints : ∀ (ns : List Int), RpA K H S (ns.map .int) (ns.map V.int)
  | [] => rfl
  | n :: ns => ⟨.int n, ns.map .int, rfl, rfl, RpA.of_ints ns⟩
theorem RpA.bools : ∀ {ns : List Bool} {vs : List V}, RpA K H S (ns.map .bool) vs → vs = ns.map .bl
  | [], _, h => h
  | n :: ns, _, ⟨v, r, e, h1, h2⟩ => by
    have := RpA.bools h2
    rw [e, this]
    cases (show v = .bl n from h1)
    rfl

/-! ### what is owned -/
/-- a list (l), a dict (k), a list of lists (m), that may be changed -/
inductive Md where
  | l (ds : List D) | k (kvs : List (D × D)) | m (rows : List (List D))
def Md.data : Md → D
  | .l ds => .list ds
  | .k kvs => .dict kvs
  | .m rows => .list (rows.map .list)
def Rows (K : PySem.W.Frag) (H : Hp) (S : AP) : List (List D) → List Addr → Prop
  | [], as => as = []
  | ds :: r, as => ∃ a xs b, as = a :: b ∧ H a = some (.lst xs) ∧ RpA K H S ds xs ∧ Rows K H S r b
/-- m stands at a; os: what may be written of it -/
def Ow (K : PySem.W.Frag) (H : Hp) (S : AP) : Md → Addr → List Addr → Prop
  | .l ds, a, os => os = [a] ∧ ∃ xs, H a = some (.lst xs) ∧ RpA K H S ds xs
  | .k kvs, a, os => os = [a] ∧ ∃ ks, H a = some (.dK ks) ∧ RpK K H S kvs ks
  | .m rows, a, os => ∃ as, os = a :: as ∧ H a = some (.lst (as.map .ref)) ∧ Rows K H S rows as
theorem Rows.frame (F : Fr0 H H' S S' T) : ∀ (rows : List (List D)) (as : List Addr), (∀ a ∈ as, ¬ T a) → Rows K H S rows as → Rows K H' S' rows as
  | [], _, _, h => h
  | ds :: r, _, n, ⟨a, xs, b, e, ha, h1, h2⟩ => by
    subst e
    exact ⟨a, xs, b, rfl, F.kp a _ ha (n a List.mem_cons_self) nt_lst, RpA.frame F _ _ h1, Rows.frame F r b (fun c hc => n c (List.mem_cons_of_mem _ hc)) h2⟩
theorem Ow.frame (F : Fr0 H H' S S' T) {m : Md} {a : Addr} {os : List Addr} (n : ∀ a ∈ os, ¬ T a) (h : Ow K H S m a os) : Ow K H' S' m a os := by
  cases m with
  | l ds =>
    obtain ⟨e, xs, ha, r⟩ := h
    subst e
    exact ⟨rfl, xs, F.kp a _ ha (n a (by simp)) nt_lst, RpA.frame F _ _ r⟩
  | k kvs =>
    obtain ⟨e, xs, ha, r⟩ := h
    subst e
    exact ⟨rfl, xs, F.kp a _ ha (n a (by simp)) nt_dK, RpK.frame F _ _ r⟩
  | m rows =>
    obtain ⟨as, e, ha, r⟩ := h
    subst e
    exact ⟨as, rfl, F.kp a _ ha (n a (by simp)) nt_lst, Rows.frame F _ _ (fun c hc => n c (List.mem_cons_of_mem _ hc)) r⟩
theorem Rows.mu : ∀ {rows : List (List D)} {as : List Addr}, Rows K H S rows as → ∀ a ∈ as, MutO H a
  | [], _, h, a, ha => by cases h; cases ha
  | ds :: r, _, ⟨b, xs, c, e, hb, h1, h2⟩, a, ha => by
    subst e
    rcases List.mem_cons.mp ha with rfl | ha
    · exact .inl ⟨xs, hb⟩
    · exact Rows.mu h2 a ha
theorem Ow.mu {m : Md} {a : Addr} {os : List Addr} (h : Ow K H S m a os) : ∀ b ∈ os, MutO H b := fun b hb => by
  cases m with
  | l ds =>
    obtain ⟨e, xs, ha, r⟩ := h
    subst e
    cases (List.mem_singleton.mp hb)
    exact .inl ⟨_, ha⟩
  | k kvs =>
    obtain ⟨e, xs, ha, r⟩ := h
    subst e
    cases (List.mem_singleton.mp hb)
    exact .inr ⟨_, ha⟩
  | m rows =>
    obtain ⟨as, e, ha, r⟩ := h
    subst e
    rcases List.mem_cons.mp hb with rfl | hb
    · exact .inl ⟨_, ha⟩
    · exact Rows.mu r b hb
theorem Ow.mem {m : Md} {a : Addr} {os : List Addr} (h : Ow K H S m a os) : a ∈ os := by
  cases m with
  | l ds => rw [h.1]; simp
  | k kvs => rw [h.1]; simp
  | m rows => obtain ⟨as, e, _⟩ := h; rw [e]; simp
/-- given away: from now on read alone -/
theorem Rows.rp : ∀ {rows : List (List D)} {as : List Addr}, (∀ a ∈ as, ¬ S a) → Rows K H S rows as → RpA K H S (rows.map .list) (as.map V.ref)
  | [], _, _, h => by cases h; rfl
  | ds :: r, _, n, ⟨b, xs, c, e, hb, h1, h2⟩ => by
    subst e
    exact ⟨.ref b, c.map .ref, rfl, ⟨b, xs, rfl, ⟨hb, n b List.mem_cons_self⟩, h1⟩, Rows.rp (fun a ha => n a (List.mem_cons_of_mem _ ha)) h2⟩
theorem Ow.rp {m : Md} {a : Addr} {os : List Addr} (n : ∀ a ∈ os, ¬ S a) (h : Ow K H S m a os) : Rp K H S m.data (.ref a) := by
  cases m with
  | l ds =>
    obtain ⟨e, xs, ha, r⟩ := h
    subst e
    exact ⟨a, xs, rfl, ⟨ha, n a (by simp)⟩, r⟩
  | k kvs =>
    obtain ⟨e, xs, ha, r⟩ := h
    subst e
    exact ⟨a, xs, rfl, .inl ha, n a (by simp), r⟩
  | m rows =>
    obtain ⟨as, e, ha, r⟩ := h
    subst e
    exact ⟨a, as.map .ref, rfl, ⟨ha, n a (by simp)⟩, Rows.rp (fun b hb => n b (List.mem_cons_of_mem _ hb)) r⟩
end
end Eg
end
section
/-! E2: results, slots, the state of a def's body -/
namespace Eg
open PySem PySem.Spec L2
open PyProof.Rows hiding St

/-- an exception: its class's name, its field -/
structure Xn where
  cls : Str
  arg : Option Int
inductive R (α : Type) where
  | ok (a : α) | ex (e : Xn) | bad
@[reducible] def R.bind {α β : Type} (x : R α) (f : α → R β) : R β := match x with
  | .ok a => f a
  | .ex e => .ex e
  | .bad => .bad
instance : Monad R where
  pure := .ok
  bind := R.bind
@[simp] theorem R.bind_ok {α β : Type} (a : α) (f : α → R β) : (R.ok a).bind f = f a := rfl
@[simp] theorem R.bind_ex {α β : Type} (e : Xn) (f : α → R β) : (R.ex e : R α).bind f = .ex e := rfl
@[simp] theorem R.bind_bad {α β : Type} (f : α → R β) : (R.bad : R α).bind f = .bad := rfl

theorem tabs_upd {L : List (Addr × Str)} {H : Hp} {a : Addr} {o : HO} (t : LamX.Tabs L H) (hm : MutO H a) : LamX.Tabs L (upd H a o) := fun q hq => by
  obtain ⟨ps, h1, h2, h3⟩ := t q hq
  have n1 : q.1 ≠ a := fun e => by
    rw [e] at h1
    rcases hm with ⟨xs, z⟩ | ⟨xs, z⟩ <;> (rw [h1] at z; cases z)
  refine ⟨ps, by rw [upd_ne n1]; exact h1, h2, fun pos cv hc => ?_⟩
  obtain ⟨b, e1, e2⟩ := h3 pos cv hc
  refine ⟨b, e1, ?_⟩
  have n2 : b ≠ a := fun e => by
    rw [e] at e2
    unfold LamX.CodeO at e2
    rcases hm with ⟨xs, z⟩ | ⟨xs, z⟩ <;> (rw [e2] at z; cases z)
  rw [upd_ne n2]
  exact e2
/-- a slot: unknown, data, an owned object, one of the caller's that may be changed, a function of no arguments by what it gives -/
inductive Sl where
  | no | d (x : D) | w (m : Md) | io (m : Md) | th (r : R D) | scr (ns : List Int)
abbrev Env := List Sl

structure Cc where
  K : PySem.W.Frag
  mg : Str → Option Value
  H0 : Hp
  adr : Nat → Addr
  iox : Nat → AP
  W : WX
  th : V → R D → Prop
  tabs : List (Addr × Str)

/-- the caller's cells that may be changed -/
def Cc.ios (c : Cc) : AP := fun a => ∃ i, c.iox i a
abbrev Og := Nat → List Addr
def Og.at (og : Og) (i : Nat) (os : List Addr) : Og := fun j => if j = i then os else og j
def Sx (B : AP) (og : Og) : AP := fun a => B a ∨ ∃ i, a ∈ og i
/-- what is owned -/
def Og.all (og : Og) : AP := fun a => ∃ i, a ∈ og i

/-- the script: a list that stood at the entry and is none of the caller's that may be changed, or an object of the module -/
def SqX (K : PySem.W.Frag) (H0 : Hp) (io : AP) (a : Addr) (xs : List V) : Prop := (Rd H0 a (.lst xs) ∧ ¬ io a) ∨ SqL K (fun _ => none) a xs
theorem SqX.of {K : PySem.W.Frag} {H0 : Hp} {io : AP} {a : Addr} {xs : List V} (h : SqL K H0 a xs) (n : ¬ io a) : SqX K H0 io a xs := by
  rcases h with h | h
  · exact .inl ⟨h, n⟩
  · exact .inr (.inr h)
theorem SqX.any {K : PySem.W.Frag} {H : Hp} {a : Addr} {xs : List V} (h : SqL K (fun _ => none) a xs) : SqL K H a xs := by
  rcases h with (h | ⟨o, h⟩) | h
  · cases h
  · cases h
  · exact .inr h
def SlR (c : Cc) (H : Hp) (S : AP) (i : Nat) (sv : Option V) (sl : Sl) (os : List Addr) : Prop := match sl with
  | .no => os = []
  | .d x => os = [] ∧ ∃ v, sv = some v ∧ Rp c.K H S x v
  | .w m => ∃ a, sv = some (.ref a) ∧ Ow c.K H S m a os ∧ ∀ b ∈ os, c.H0 b = none
  | .io m => sv = some (.ref (c.adr i)) ∧ Ow c.K H S m (c.adr i) os ∧ ∀ b ∈ os, c.iox i b
  | .th r => os = [] ∧ ∃ v, sv = some v ∧ c.th v r
  | .scr ns => os = [] ∧ ∃ a, sv = some (.ref a) ∧ SqX c.K c.H0 c.ios a (ns.map .int)

structure EnvR (c : Cc) (H : Hp) (B : AP) (og : Og) (σ : St) (γ : Env) : Prop where
  tb : LamX.Tabs c.tabs H
  len : σ.length = γ.length
  out : ∀ i, γ.length ≤ i → og i = []
  nd : ∀ i, (og i).Nodup
  dj : ∀ i j a, a ∈ og i → a ∈ og j → i = j
  nb : ∀ i a, a ∈ og i → ¬ B a
  bl : ∀ a, B a → H a ≠ none
  ent : Kp c.ios c.H0 H
  grow : ∀ a, c.H0 a ≠ none → H a ≠ none
  sl : ∀ i s, γ[i]? = some s → SlR c H (Sx B og) i (σ[i]?.getD none) s (og i)

section
variable {c : Cc} {H H' : Hp} {B S S' T : AP} {og : Og} {σ : St} {γ : Env}

theorem SlR.mu {i : Nat} {sv : Option V} {s : Sl} {os : List Addr} (h : SlR c H S i sv s os) : ∀ a ∈ os, MutO H a := fun a ha => by
  cases s with
  | no => rw [show os = [] from h] at ha; cases ha
  | d x => rw [h.1] at ha; cases ha
  | w m => obtain ⟨b, _, o, _⟩ := h; exact o.mu a ha
  | io m => obtain ⟨_, o, _⟩ := h; exact o.mu a ha
  | th r => rw [h.1] at ha; cases ha
  | scr r => rw [h.1] at ha; cases ha
theorem MutO.ne {a : Addr} (h : MutO H a) : H a ≠ none := by
  rcases h with ⟨xs, e⟩ | ⟨xs, e⟩ <;> rw [e] <;> exact nofun
theorem EnvR.mu (E : EnvR c H B og σ γ) {i : Nat} {a : Addr} (h : a ∈ og i) : MutO H a := by
  by_cases hi : i < γ.length
  · exact (E.sl i _ (List.getElem?_eq_getElem hi)).mu a h
  · rw [E.out i (by omega)] at h; cases h
theorem EnvR.tracked (E : EnvR c H B og σ γ) {a : Addr} (h : Sx B og a) : H a ≠ none := by
  rcases h with h | ⟨i, h⟩
  · exact E.bl a h
  · exact (E.mu h).ne
theorem EnvR.fresh0 (E : EnvR c H B og σ γ) {a : Addr} (h : H a = none) : c.H0 a = none := by
  cases e : c.H0 a with
  | none => rfl
  | some o => exact absurd h (E.grow a (by rw [e]; exact nofun))
theorem SlR.frame {i : Nat} {sv : Option V} {s : Sl} {os : List Addr} (F : Fr0 H H' S S' T) (n : ∀ a ∈ os, ¬ T a) (h : SlR c H S i sv s os) : SlR c H' S' i sv s os := by
  cases s with
  | no => exact h
  | d x => obtain ⟨e, v, e2, r⟩ := h; exact ⟨e, v, e2, r.frame F⟩
  | w m => obtain ⟨a, e, o, f⟩ := h; exact ⟨a, e, o.frame F n, f⟩
  | io m => obtain ⟨e, o, f⟩ := h; exact ⟨e, o.frame F n, f⟩
  | th r => exact h
  | scr r => exact h

/-- one slot changes, and what it owned -/
theorem EnvR.put {B1 : AP} (E : EnvR c H B1 og σ γ) {i : Nat} {s : Sl} {sv : Option V} {os : List Addr} (hi : i < γ.length) (hB : ∀ a, B a → B1 a)
    (kp : Kp (fun a => a ∈ og i) H H') (gr : ∀ a, H a ≠ none → H' a ≠ none) (hn : os.Nodup) (hs : ∀ a ∈ os, (a ∈ og i ∨ B1 a) ∧ ¬ B a) (kio : ∀ a ∈ og i, c.H0 a ≠ none → H' a = H a ∨ c.ios a)
    (tb : LamX.Tabs c.tabs H → LamX.Tabs c.tabs H')
    (new : Fr0 H H' (Sx B1 og) (Sx B (og.at i os)) (fun a => a ∈ og i) → SlR c H' (Sx B (og.at i os)) i sv s os) : EnvR c H' B (og.at i os) (σ.set i sv) (γ.set i s) := by
  have sub : ∀ a, Sx B (og.at i os) a → Sx B1 og a ∨ H a = none := by
    rintro a (h | ⟨j, h⟩)
    · exact .inl (.inl (hB a h))
    · unfold Og.at at h
      split at h
      · exact .inl ((hs a h).1.elim (fun z => .inr ⟨i, z⟩) .inl)
      · exact .inl (.inr ⟨j, h⟩)
  have F : Fr0 H H' (Sx B1 og) (Sx B (og.at i os)) (fun a => a ∈ og i) := ⟨kp, fun a h => ⟨.inr ⟨i, h⟩, E.mu h⟩, sub⟩
  refine ⟨tb E.tb, by simpa using E.len, fun j hj => ?_, fun j => ?_, fun j k a h1 h2 => ?_, fun j a h => ?_, fun a h => gr a (E.bl a (hB a h)), fun a o e n => ?_, fun a h => gr a (E.grow a h), fun j t e => ?_⟩
  · rw [List.length_set] at hj
    unfold Og.at
    rw [if_neg (by omega)]
    exact E.out j hj
  · unfold Og.at
    split
    · exact hn
    · exact E.nd j
  · unfold Og.at at h1 h2
    have ap : ∀ {j : Nat}, j ≠ i → a ∈ og j → a ∈ os → False := fun {j} hj h1 h2 => by
      rcases (hs a h2).1 with z | z
      · exact hj (E.dj j i a h1 z)
      · exact E.nb j a h1 z
    split at h1 <;> split at h2
    · rename_i e1 e2; rw [e1, e2]
    · rename_i e1 e2; exact (ap e2 h2 h1).elim
    · rename_i e1 e2; exact (ap e1 h1 h2).elim
    · exact E.dj j k a h1 h2
  · unfold Og.at at h
    split at h
    · exact (hs a h).2
    · exact fun z => E.nb j a h (hB a z)
  · intro t
    by_cases ha : a ∈ og i
    · rcases kio a ha (by rw [e]; exact nofun) with z | z
      · rw [z]; exact E.ent a o e n t
      · exact (n z).elim
    · exact kp a o (E.ent a o e n t) ha t
  · by_cases hj : j = i
    · subst hj
      rw [List.getElem?_set_self hi] at e
      cases e
      have h2 : (σ.set j sv)[j]? = some sv := List.getElem?_set_self (by rw [E.len]; exact hi)
      rw [h2]
      have h3 : og.at j os j = os := by unfold Og.at; rw [if_pos rfl]
      rw [h3]
      exact new F
    · rw [List.getElem?_set_ne (Ne.symm hj)] at e
      rw [List.getElem?_set_ne (Ne.symm hj)]
      have h3 : og.at i os j = og j := by unfold Og.at; rw [if_neg hj]
      rw [h3]
      exact (E.sl j t e).frame F fun a h h' => hj (E.dj j i a h h')

/-- B and a few more -/
def Bx (B : AP) : List Addr → AP
  | [] => B
  | a :: as => fun x => x = a ∨ Bx B as x
theorem Bx_iff {a : Addr} : ∀ {as : List Addr}, Bx B as a ↔ B a ∨ a ∈ as
  | [] => ⟨.inl, fun h => h.elim id nofun⟩
  | b :: as => by
    show (a = b ∨ Bx B as a) ↔ _
    rw [Bx_iff (as := as), List.mem_cons]
    constructor
    · rintro (h | h | h)
      · exact .inr (.inl h)
      · exact .inl h
      · exact .inr (.inr h)
    · rintro (h | h | h)
      · exact .inr (.inl h)
      · exact .inl h
      · exact .inr (.inr h)
/-- fewer are kept apart -/
theorem EnvR.less {B' : AP} (E : EnvR c H B og σ γ) (h : ∀ a, B' a → B a) : EnvR c H B' og σ γ := by
  have F : Fr0 H H (Sx B og) (Sx B' og) (fun _ => False) := ⟨.refl, nofun, fun a z => .inl (z.imp (h a) id)⟩
  exact ⟨E.tb, E.len, E.out, E.nd, E.dj, fun i a z b => E.nb i a z (h a b), fun a b => E.bl a (h a b), E.ent, E.grow, fun j t e => (E.sl j t e).frame F fun _ _ z => z⟩
theorem EnvR.drop {on : List Addr} (E : EnvR c H (Bx B on) og σ γ) : EnvR c H B og σ γ := E.less fun a z => Bx_iff.mpr (.inl z)
/-- new objects came, and are kept apart -/
theorem EnvR.fresh (E : EnvR c H B og σ γ) {on : List Addr} (h : ∀ a o, H a = some o → H' a = some o) (n : ∀ a ∈ on, H a = none) (n' : ∀ a ∈ on, H' a ≠ none) : EnvR c H' (Bx B on) og σ γ := by
  have F : Fr0 H H' (Sx B og) (Sx (Bx B on) og) (fun _ => False) := ⟨.same h, nofun, fun a z => by
    rcases z with z | z
    · exact (Bx_iff.mp z).imp .inl (n a)
    · exact .inl (.inr z)⟩
  have gr : ∀ a, H a ≠ none → H' a ≠ none := fun a n => by
    cases e : H a with
    | none => exact absurd e n
    | some o => rw [h a o e]; exact nofun
  refine ⟨E.tb.ext h, E.len, E.out, E.nd, E.dj, fun i a z b => ?_, fun a b => ?_, fun a o e n t => h a o (E.ent a o e n t), fun a h => gr a (E.grow a h), fun j t e => (E.sl j t e).frame F fun _ _ z => z⟩
  · rcases Bx_iff.mp b with b | b
    · exact E.nb i a z b
    · exact (E.mu z).ne (n a b)
  · rcases Bx_iff.mp b with b | b
    · exact gr a (E.bl a b)
    · exact n' a b
/-- only new objects came -/
theorem EnvR.more (E : EnvR c H B og σ γ) (h : ∀ a o, H a = some o → H' a = some o) : EnvR c H' B og σ γ := by
  have F : Fr0 H H' (Sx B og) (Sx B og) (fun _ => False) := ⟨.same h, nofun, fun a h => .inl h⟩
  have gr : ∀ a, H a ≠ none → H' a ≠ none := fun a n => by
    cases e : H a with
    | none => exact absurd e n
    | some o => rw [h a o e]; exact nofun
  exact ⟨E.tb.ext h, E.len, E.out, E.nd, E.dj, E.nb, fun a h => gr a (E.bl a h), fun a o e n t => h a o (E.ent a o e n t), fun a h => gr a (E.grow a h), fun j t e => (E.sl j t e).frame F fun _ _ z => z⟩
theorem Fr0.more (h : ∀ a o, H a = some o → H' a = some o) : Fr0 H H' S S (fun _ => False) := ⟨.same h, nofun, fun a h => .inl h⟩
theorem same_upd {p : Addr} {o : HO} (h : H p = none) : ∀ a u, H a = some u → upd H p o a = some u := fun a u e => by
  rw [upd_ne (ne_of_none e h)]
  exact e
end
end Eg
end
section
/-! E3: readings by plain functions of the slots; expressions -/
namespace Eg
open PySem PySem.Spec L2
open PyProof.Rows hiding St

/-- a result with the slots behind it -/
inductive RE (α : Type) where
  | ok (a : α) (γ : Env) | ex (e : Xn) (γ : Env) | bad
def RE.bind {α β : Type} (x : RE α) (k : α → Env → RE β) : RE β := match x with
  | .ok a γ => k a γ
  | .ex e γ => .ex e γ
  | .bad => .bad
@[simp] theorem RE.bind_ok {α β : Type} (a : α) (γ : Env) (k : α → Env → RE β) : (RE.ok a γ).bind k = k a γ := rfl
@[simp] theorem RE.bind_ex {α β : Type} (e : Xn) (γ : Env) (k : α → Env → RE β) : (RE.ex e γ : RE α).bind k = .ex e γ := rfl
@[simp] theorem RE.bind_bad {α β : Type} (k : α → Env → RE β) : (RE.bad : RE α).bind k = .bad := rfl
def RE.lift {α : Type} (r : R α) (γ : Env) : RE α := match r with
  | .ok a => .ok a γ
  | .ex e => .ex e γ
  | .bad => .bad
@[simp] theorem RE.lift_ok {α : Type} (a : α) (γ : Env) : RE.lift (.ok a) γ = .ok a γ := rfl
@[simp] theorem RE.lift_ex {α : Type} (e : Xn) (γ : Env) : (RE.lift (.ex e) γ : RE α) = .ex e γ := rfl
@[simp] theorem RE.lift_bad {α : Type} (γ : Env) : (RE.lift .bad γ : RE α) = .bad := rfl
abbrev Fn (α : Type) := Env → RE α

/-- behind a raise nothing is known of what was owned -/
def lose1 : Sl → Sl
  | .w _ => .no
  | .io _ => .no
  | s => s
def lose (γ : Env) : Env := γ.map lose1

def ExR (c : Cc) (e : Xn) (cls : Value) (dx : Option Addr) (H : Hp) : Prop :=
  c.mg e.cls = some cls ∧ match e.arg with
    | none => dx = none
    | some i => ∃ d, dx = some d ∧ H d = some (.xd [(Str.ofString "most", .int i)])

/-- a later state -/
structure Later (og og' : Og) (H H' : Hp) : Prop where
  kp : Kp og.all H H'
  gr : ∀ a, H a ≠ none → H' a ≠ none
  sub : ∀ a, og'.all a → og.all a ∨ H a = none
section
variable {c : Cc} {H H1 H2 H' : Hp} {B S : AP} {og og1 og2 og' : Og} {σ : St} {γ : Env}
theorem Later.refl : Later og og H H := ⟨.refl, fun _ h => h, fun _ h => .inl h⟩
theorem Later.trans (a : Later og og1 H H1) (b : Later og1 og2 H1 H2) : Later og og2 H H2 := by
  refine ⟨fun x o e n t => b.kp x o (a.kp x o e n t) (fun z => ?_) t, fun x h => b.gr x (a.gr x h), fun x h => ?_⟩
  · rcases a.sub x z with z | z
    · exact n z
    · rw [e] at z; cases z
  · rcases b.sub x h with z | z
    · exact a.sub x z
    · refine .inr ?_
      cases q : H x with
      | none => rfl
      | some o => exact absurd z (a.gr x (by rw [q]; exact nofun))
theorem Later.more (h : ∀ a o, H a = some o → H' a = some o) : Later og og H H' := ⟨.same h, fun a n => by
  cases e : H a with
  | none => exact absurd e n
  | some o => rw [h a o e]; exact nofun, fun _ z => .inl z⟩
theorem Later.fr (E : EnvR c H B og σ γ) (l : Later og og' H H') : Fr0 H H' (Sx B og) (Sx B og') og.all :=
  ⟨l.kp, fun a ⟨i, h⟩ => ⟨.inr ⟨i, h⟩, E.mu h⟩, fun a h => by
    rcases h with h | h
    · exact .inl (.inl h)
    · exact (l.sub a h).imp .inr id⟩

/-- a new object, by its kind -/
def VRK (K : PySem.W.Frag) (H : Hp) (S : AP) (s : Sl) (v : V) (on : List Addr) : Prop := match s with
  | .d x => on = [] ∧ Rp K H S x v
  | .w m => ∃ a, v = .ref a ∧ Ow K H (Bx S on) m a on ∧ on.Nodup
  | _ => False

variable {α β δ ε : Type}
abbrev Rel (α β : Type) := Hp → AP → St → α → β → List Addr → Prop
def tGat (c : Cc) (rel : Rel α β) (B : AP) (og : Og) (f : Fn α) (σ : St) (H : Hp) (γ : Env) (Q : β → Hp → Prop) : Prop := match f γ with
  | .ok r γ' => ∀ v H' og' on, Later og og' H H' → EnvR c H' (Bx B on) og' σ γ' → rel H' (Sx B og') σ r v on → (∀ a ∈ on, H a = none) → Q v H'
  | .ex e γ' => ∀ cls dx H', ExR c e cls dx H' → Later og (fun _ => []) H H' → EnvR c H' B (fun _ => []) σ (lose γ') → c.W cls dx σ H'
  | .bad => False
def tG (c : Cc) (rel : Rel α β) (f : Fn α) : St → Hp → (β → Hp → Prop) → Prop := fun σ H Q => ∃ B og γ, EnvR c H B og σ γ ∧ tGat c rel B og f σ H γ Q

/-- the first step, then the rest -/
theorem tGat.thn {rel : Rel α β} {rela : Rel δ ε} {fa : Fn δ} {k : δ → Fn α} {Q : β → Hp → Prop} {Q' : ε → Hp → Prop}
    (h : tGat c rel B og (fun γ => (fa γ).bind k) σ H γ Q)
    (step : ∀ r γ1 v H1 og1 on, Later og og1 H H1 → EnvR c H1 B og1 σ γ1 → rela H1 (Sx B og1) σ r v on → ((∀ a ∈ on, H a = none) ∧ EnvR c H1 (Bx B on) og1 σ γ1) → tGat c rel B og1 (k r) σ H1 γ1 Q → Q' v H1) :
    tGat c rela B og fa σ H γ Q' := by
  unfold tGat at h ⊢
  dsimp only at h ⊢
  cases e : fa γ with
  | bad => rw [e] at h; exact h
  | ex x γ1 => rw [e] at h; exact h
  | ok r γ1 =>
    rw [e] at h
    intro v H1 og1 on l E1 q1 hn
    refine step r γ1 v H1 og1 on l E1.drop q1 ⟨hn, E1⟩ ?_
    unfold tGat
    cases e2 : k r γ1 with
    | bad => simp only [RE.bind_ok, e2] at h
    | ex x γ2 => simp only [RE.bind_ok, e2] at h; exact fun cls dx H' r l2 E' => h cls dx H' r (l.trans l2) E'
    | ok r2 γ2 =>
      simp only [RE.bind_ok, e2] at h
      intro v2 H2 og2 on2 l2 E2 q2 hn2
      refine h v2 H2 og2 on2 (l.trans l2) E2 q2 fun a ha => ?_
      cases q : H a with
      | none => rfl
      | some o => exact absurd (hn2 a ha) (l.gr a (by rw [q]; exact nofun))
theorem tG.thn {rel : Rel α β} {rela : Rel δ ε} {fa : Fn δ} {k : δ → Fn α} {Q : β → Hp → Prop} {Q' : ε → Hp → Prop}
    (h : tG c rel (fun γ => (fa γ).bind k) σ H Q)
    (step : ∀ B og r γ0 γ1 v H1 og1 on, EnvR c H B og σ γ0 → Later og og1 H H1 → EnvR c H1 B og1 σ γ1 → rela H1 (Sx B og1) σ r v on → ((∀ a ∈ on, H a = none) ∧ EnvR c H1 (Bx B on) og1 σ γ1) → tGat c rel B og1 (k r) σ H1 γ1 Q → Q' v H1) :
    tG c rela fa σ H Q' := by
  obtain ⟨B, og, γ, E, h⟩ := h
  exact ⟨B, og, γ, E, tGat.thn h fun r γ1 v H1 og1 on => step B og r γ γ1 v H1 og1 on E⟩
/-- the same from a later state on -/
theorem tGat.shift {rel : Rel α β} {f : Fn α} {Q : β → Hp → Prop} (h : tGat c rel B og f σ H γ Q) (l : Later og og1 H H1) : tGat c rel B og1 f σ H1 γ Q := by
  unfold tGat at h ⊢
  split at h
  · intro v H' og' on l' E q hn
    refine h v H' og' on (l.trans l') E q fun a ha => ?_
    cases q : H a with
    | none => rfl
    | some o => exact absurd (hn a ha) (l.gr a (by rw [q]; exact nofun))
  · exact fun cls dx H' r l' E' => h cls dx H' r (l.trans l') E'
  · exact h
/-- the end: what is to be shown of a value -/
theorem tGat.fin {rel : Rel α β} {r : α} {Q : β → Hp → Prop} {v : β} (h : tGat c rel B og (fun γ => .ok r γ) σ H γ Q) (l : Later og og' H H') (E : EnvR c H' B og' σ γ) (q : rel H' (Sx B og') σ r v []) (_hn : ∀ a ∈ ([] : List Addr), H a = none) : Q v H' :=
  h v H' og' [] l E q nofun
end

/-- values -/
def relE (c : Cc) : Rel Sl V := fun H S _ s v on => VRK c.K H S s v on ∧ ∀ a ∈ on, ¬ S a
abbrev tE (c : Cc) (f : Fn Sl) : TE := tG c (relE c) f
/-- data -/
def relD (c : Cc) : Rel D V := fun H S _ d v on => on = [] ∧ Rp c.K H S d v
abbrev tD (c : Cc) (f : Fn D) : TE := tG c (relD c) f
/-- operands: data, or an owned object looked at -/
inductive AV where
  | d (x : D) | pk (i : Nat)
def AVR (c : Cc) (H : Hp) (S : AP) (σ : St) : AV → V → Prop
  | .d x, v => Rp c.K H S x v
  | .pk i, v => σ[i]? = some (some v)
def relO (c : Cc) : Rel AV V := fun H S σ a v on => on = [] ∧ AVR c H S σ a v
abbrev tO (c : Cc) (f : Fn AV) : TE := tG c (relO c) f
/-- bools -/
def relB : Rel Bool Bool := fun _ _ _ b b' on => on = [] ∧ b' = b
abbrev tT (c : Cc) (f : Fn Bool) : TT := tG c relB f
/-- lists of data -/
def relDs (c : Cc) : Rel (List D) (List V) := fun H S _ ds vs on => on = [] ∧ RpA c.K H S ds vs
abbrev tDs (c : Cc) (f : Fn (List D)) : TA := tG c (relDs c) f
/-- lists of operands -/
def AVRs (c : Cc) (H : Hp) (S : AP) (σ : St) : List AV → List V → Prop
  | [], vs => vs = []
  | a :: as, vs => ∃ v r, vs = v :: r ∧ AVR c H S σ a v ∧ AVRs c H S σ as r
def relOs (c : Cc) : Rel (List AV) (List V) := fun H S σ as vs on => on = [] ∧ AVRs c H S σ as vs
abbrev tOs (c : Cc) (f : Fn (List AV)) : TA := tG c (relOs c) f

section
variable {c : Cc} {H H1 H2 H' : Hp} {B S : AP} {og og1 og2 og' : Og} {σ : St} {γ : Env} {X : Cx} {e a b : Expr} {pos : Pos}
theorem PE_imp {t t' : TE} (h : PE X e t) (i : ∀ σ H Q, t' σ H Q → t σ H Q) : PE X e t' := ⟨fun pins s σ H Q I q => h.run pins s σ H Q I (i σ H Q q)⟩
theorem PA_imp {es : List Expr} {t t' : TA} (h : PA X es t) (i : ∀ σ H Q, t' σ H Q → t σ H Q) : PA X es t' := ⟨fun pos pins s σ H Q I q => h.run pos pins s σ H Q I (i σ H Q q)⟩
theorem PT_imp {t t' : TT} (h : PT X e t) (i : ∀ σ H Q, t' σ H Q → t σ H Q) : PT X e t' := ⟨fun pins s σ H Q I q => h.run pins s σ H Q I (i σ H Q q)⟩
theorem PW_imp {t t' : TT} (h : PW X e t) (i : ∀ σ H Q, t' σ H Q → t σ H Q) : PW X e t' := ⟨fun wh pins s σ H Q I q => h.run wh pins s σ H Q I (i σ H Q q)⟩
theorem PS_imp {st : Stmt} {t t' : TS} (h : PS X st t) (i : ∀ D σ H, t' D σ H → t D σ H) : PS X st t' := ⟨fun pins s σ H D I q => h.run pins s σ H D I (i D σ H q)⟩
theorem PSs_imp {st : List Stmt} {t t' : TS} (h : PSs X st t) (i : ∀ D σ H, t' D σ H → t D σ H) : PSs X st t' := ⟨fun pins s σ H D I q => h.run pins s σ H D I (i D σ H q)⟩

theorem AVR.later {x : AV} {v : V} (E : EnvR c H B og σ γ) (l : Later og og' H H') (h : AVR c H (Sx B og) σ x v) : AVR c H' (Sx B og') σ x v := by
  cases x with
  | d x => exact Rp.frame (Later.fr E l) _ _ h
  | pk i => exact h
theorem AVRs.later (E : EnvR c H B og σ γ) (l : Later og og' H H') : ∀ {xs : List AV} {vs : List V}, AVRs c H (Sx B og) σ xs vs → AVRs c H' (Sx B og') σ xs vs
  | [], _, h => h
  | x :: xs, _, ⟨v, r, e, h1, h2⟩ => ⟨v, r, e, h1.later E l, AVRs.later E l h2⟩

/-! ### to data -/
def deS (f : Fn Sl) : Fn D := fun γ => (f γ).bind fun s γ' => match s with
  | .d x => .ok x γ'
  | .w m => .ok m.data γ'
  | _ => .bad
theorem Rp_of_VRK {s : Sl} {v : V} {on : List Addr} (h : VRK c.K H S s v on) (n : ∀ a ∈ on, ¬ S a) : match s with
  | .d x => Rp c.K H S x v
  | .w m => Rp c.K H S m.data v
  | _ => False := by
  cases s with
  | d x => exact h.2
  | w m =>
    obtain ⟨a, rfl, o, _⟩ := h
    exact Ow.rp n (o.frame (S' := S) (T := fun _ => False) ⟨.refl, nofun, fun a z => .inl (Bx_iff.mpr (.inl z))⟩ fun _ _ z => z)
  | no => exact h
  | io m => exact h
  | th r => exact h
  | scr r => exact h
theorem pe_de {f : Fn Sl} (h : PE X e (tE c f)) : PE X e (tD c (deS f)) := PE_imp h fun σ H Q q => tG.thn q fun B og r γ0 γ1 v H1 og1 on E0 l E1 q1 hn k => by
  have z := Rp_of_VRK q1.1 q1.2
  cases r with
  | d x => exact k.fin .refl E1 ⟨rfl, z⟩ nofun
  | w m => exact k.fin .refl E1 ⟨rfl, z⟩ nofun
  | no => exact z.elim
  | io m => exact z.elim
  | th r => exact z.elim
  | scr r => exact z.elim
theorem EnvR.notS (E : EnvR c H B og σ γ) {a : Addr} (h : H a = none) : ¬ Sx B og a := fun z => E.tracked z h

/-! ### operands -/
def opD (f : Fn D) : Fn AV := fun γ => (f γ).bind fun x γ' => .ok (.d x) γ'
theorem po_d {f : Fn D} (h : PE X e (tD c f)) : PE X e (tO c (opD f)) := PE_imp h fun σ H Q q => tG.thn q fun B og r γ0 γ1 v H1 og1 on E0 l E1 q1 hn k => k.fin .refl E1 ⟨rfl, q1.2⟩ nofun
/-- a name, looked at -/
def opN (i : Nat) : Fn AV := fun γ => match γ[i]? with
  | some (.d x) => .ok (.d x) γ
  | some (.w _) => .ok (.pk i) γ
  | some (.io _) => .ok (.pk i) γ
  | some (.scr _) => .ok (.pk i) γ
  | _ => .bad
theorem EnvR.val (E : EnvR c H B og σ γ) {i : Nat} {s : Sl} (h : γ[i]? = some s) : σ[i]? = some (σ[i]?.getD none) := by
  have hi := (List.getElem?_eq_some_iff.mp h).1
  rw [← E.len] at hi
  rw [List.getElem?_eq_getElem hi]
  rfl
theorem po_name {i : Nat} {x : Str} (hN : X.N[i]? = some x) (hv : Vis X.env.scope x) (hd : (x == ("__debug__" : Str)) = false := by decide) (hcd : (x == ("__classdict__" : Str)) = false := by decide) : PE X (.Name x pos) (tO c (opN i)) := by
  refine PE_imp (pe_var hN hv hd hcd) fun σ H Q q => ?_
  obtain ⟨B, og, γ, E, h⟩ := q
  unfold tGat opN at h
  cases e : γ[i]? with
  | none => rw [e] at h; exact h.elim
  | some s =>
    rw [e] at h
    have hs := E.sl i s e
    have hv := E.val e
    cases s with
    | no => exact h.elim
    | th r => exact h.elim
    | scr r =>
      obtain ⟨_, a, e2, r⟩ := hs
      rw [e2] at hv
      exact ⟨_, hv, h _ H og [] .refl E ⟨rfl, hv⟩ nofun⟩
    | d x =>
      obtain ⟨_, v, e2, r⟩ := hs
      rw [e2] at hv
      exact ⟨v, hv, h v H og [] .refl E ⟨rfl, r⟩ nofun⟩
    | w m =>
      obtain ⟨a, e2, r⟩ := hs
      rw [e2] at hv
      exact ⟨_, hv, h _ H og [] .refl E ⟨rfl, hv⟩ nofun⟩
    | io m =>
      obtain ⟨e2, r⟩ := hs
      rw [e2] at hv
      exact ⟨_, hv, h _ H og [] .refl E ⟨rfl, hv⟩ nofun⟩
/-- an operand's data -/
def getA (γ : Env) : AV → R D
  | .d x => .ok x
  | .pk i => match γ[i]? with
    | some (.w (.l ds)) => .ok (.list ds)
    | some (.w (.k ds)) => .ok (.dict ds)
    | some (.io (.l ds)) => .ok (.list ds)
    | some (.io (.k ds)) => .ok (.dict ds)
    | _ => .bad
theorem getA_top (E : EnvR c H B og σ γ) {x : AV} {v : V} {d : D} (h : AVR c H (Sx B og) σ x v) (e : getA γ x = .ok d) : RpT c.K H (Sx B og) d v := by
  cases x with
  | d x => cases e; exact Rp.top h
  | pk i =>
    have h : σ[i]? = some (some v) := h
    unfold getA at e
    dsimp only at e
    cases q : γ[i]? with
    | none => rw [q] at e; cases e
    | some s =>
      rw [q] at e
      have hs := E.sl i s q
      rw [h] at hs
      cases s with
      | no => cases e
      | th r => cases e
      | scr r => cases e
      | d x => cases e
      | w m =>
        obtain ⟨a, e2, o, _⟩ := hs
        cases e2
        cases m with
        | l ds => cases e; obtain ⟨_, xs, ha, r⟩ := o; exact ⟨a, xs, rfl, ha, r⟩
        | k ds => cases e; obtain ⟨_, xs, ha, r⟩ := o; exact ⟨a, xs, rfl, .inl ha, r⟩
        | m rows => cases e
      | io m =>
        obtain ⟨e2, o, _⟩ := hs
        cases e2
        cases m with
        | l ds => cases e; obtain ⟨_, xs, ha, r⟩ := o; exact ⟨_, xs, rfl, ha, r⟩
        | k ds => cases e; obtain ⟨_, xs, ha, r⟩ := o; exact ⟨_, xs, rfl, .inl ha, r⟩
        | m rows => cases e

/-! ### names that are taken, constants -/
/-- a name's value: what was owned is read alone from now on -/
def nameS (i : Nat) : Fn Sl := fun γ => match γ[i]? with
  | some (.d x) => .ok (.d x) γ
  | some (.w m) => .ok (.d m.data) (γ.set i (.d m.data))
  | _ => .bad
theorem EnvR.freeze (E : EnvR c H B og σ γ) {i : Nat} {m : Md} (e : γ[i]? = some (.w m)) : EnvR c H B (og.at i []) σ (γ.set i (.d m.data)) ∧ ∃ v, σ[i]? = some (some v) ∧ Rp c.K H (Sx B (og.at i [])) m.data v := by
  have hi := (List.getElem?_eq_some_iff.mp e).1
  have hs := E.sl i _ e
  have hv := E.val e
  obtain ⟨a, e2, o, f⟩ := hs
  rw [e2] at hv
  have nS : ∀ b ∈ og i, ¬ Sx B (og.at i []) b := fun b hb z => by
    rcases z with z | ⟨j, z⟩
    · exact E.nb i b hb z
    · unfold Og.at at z
      split at z
      · cases z
      · rename_i hj; exact hj (E.dj j i b z hb)
  have F : Fr0 H H (Sx B og) (Sx B (og.at i [])) (fun _ => False) := ⟨.refl, nofun, fun b z => by
    rcases z with z | ⟨j, z⟩
    · exact .inl (.inl z)
    · unfold Og.at at z
      split at z
      · cases z
      · exact .inl (.inr ⟨j, z⟩)⟩
  have r : Rp c.K H (Sx B (og.at i [])) m.data (.ref a) := Ow.rp nS (o.frame F fun _ _ z => z)
  have E' := E.put (B := B) (s := .d m.data) (sv := some (.ref a)) (os := []) hi (fun _ h => h) (kp := .refl) (fun _ h => h) List.nodup_nil nofun (fun _ _ _ => .inl rfl) id fun _ => ⟨rfl, _, rfl, r⟩
  have hset : σ.set i (some (.ref a)) = σ := by
    have hj : i < σ.length := by rw [E.len]; exact hi
    rw [List.getElem?_eq_getElem hj] at hv
    conv => rhs; rw [← List.set_getElem_self hj]
    rw [Option.some.inj hv]
  rw [hset] at E'
  exact ⟨E', _, hv, r⟩
theorem Og.at_nil_sub {og : Og} {i : Nat} {a : Addr} (h : (og.at i []).all a) : og.all a := by
  obtain ⟨j, z⟩ := h
  unfold Og.at at z
  split at z
  · cases z
  · exact ⟨j, z⟩
theorem pe_name {i : Nat} {x : Str} (hN : X.N[i]? = some x) (hv : Vis X.env.scope x) (hd : (x == ("__debug__" : Str)) = false := by decide) (hcd : (x == ("__classdict__" : Str)) = false := by decide) : PE X (.Name x pos) (tE c (nameS i)) := by
  refine PE_imp (pe_var hN hv hd hcd) fun σ H Q q => ?_
  obtain ⟨B, og, γ, E, h⟩ := q
  unfold tGat nameS at h
  cases e : γ[i]? with
  | none => rw [e] at h; exact h.elim
  | some s =>
    rw [e] at h
    have hs := E.sl i s e
    have hv := E.val e
    cases s with
    | no => exact h.elim
    | th r => exact h.elim
    | scr r => exact h.elim
    | io r => exact h.elim
    | d x =>
      obtain ⟨_, v, e2, r⟩ := hs
      rw [e2] at hv
      exact ⟨v, hv, h v H og [] .refl E ⟨⟨rfl, r⟩, nofun⟩ nofun⟩
    | w m =>
      obtain ⟨E', v, e2, r⟩ := E.freeze e
      exact ⟨v, e2, h v H _ [] ⟨.refl, fun _ h => h, fun a z => .inl (Og.at_nil_sub z)⟩ E' ⟨⟨rfl, r⟩, nofun⟩ nofun⟩
/-- a name of data alone -/
def nameD (i : Nat) : Fn D := deS (nameS i)
theorem pd_name {i : Nat} {x : Str} (hN : X.N[i]? = some x) (hv : Vis X.env.scope x) (hd : (x == ("__debug__" : Str)) = false := by decide) (hcd : (x == ("__classdict__" : Str)) = false := by decide) : PE X (.Name x pos) (tD c (nameD i)) := pe_de (pe_name hN hv hd hcd)
def pureD (x : D) : Fn D := fun γ => .ok x γ
theorem tC_imp {x : D} {v : V} (hr : ∀ H S, Rp c.K H S x v) : ∀ σ H Q, tD c (pureD x) σ H Q → tC v σ H Q := fun σ H Q q => by
  obtain ⟨B, og, γ, E, h⟩ := q
  exact h v H og [] .refl E ⟨rfl, hr _ _⟩ nofun
theorem pd_int {i j} : PE X (.Constant (.int i) j pos) (tD c (pureD (.int i))) := PE_imp pe_int (tC_imp fun _ _ => rfl)
theorem pd_bl {b j} : PE X (.Constant (.bool b) j pos) (tD c (pureD (.bool b))) := PE_imp pe_bl (tC_imp fun _ _ => rfl)
theorem pd_non {j} : PE X (.Constant .none j pos) (tD c (pureD .none)) := PE_imp pe_non (tC_imp fun _ _ => rfl)
theorem pd_str {x j} : PE X (.Constant (.str x) j pos) (tD c (pureD (.str x))) := PE_imp pe_str (tC_imp fun _ _ => rfl)
/-- a module's constant -/
theorem pd_glob {x : Str} {v : V} {u : Value} {d : D} (hg : Gl X x) (hm : X.mg x = some u) (r : RelV v u) (hr : ∀ H S, Rp c.K H S d v) (hd : (x == ("__debug__" : Str)) = false := by decide) : PE X (.Name x pos) (tD c (pureD d)) := PE_imp (pe_glob hg hm r hd) (tC_imp hr)
/-- data as a value -/
def enS (f : Fn D) : Fn Sl := fun γ => (f γ).bind fun x γ' => .ok (.d x) γ'
theorem pe_en {f : Fn D} (h : PE X e (tD c f)) : PE X e (tE c (enS f)) := PE_imp h fun σ H Q q => tG.thn q fun B og r γ0 γ1 v H1 og1 on E0 l E1 q1 hn k => k.fin .refl E1 ⟨⟨rfl, q1.2⟩, nofun⟩ nofun
end
end Eg
end
section
/-! E4: operators and built-ins by data -/
namespace Eg
open PySem PySem.Spec L2
open PyProof.Rows hiding St

/-- what a built-in hands back: data, or a new object -/
def PPost (K : PySem.W.Frag) (H : Hp) (S : AP) (r : R Sl) (Q : VK) : Prop := match r with
  | .ok s => ∀ v H' on, (∀ a o, H a = some o → H' a = some o) → VRK K H' S s v on → (∀ a ∈ on, H a = none) → Q v H'
  | _ => False
def rP (K : PySem.W.Frag) (g : D → D → R Sl) : R2 := fun x y H Q => ∃ S d e, RpT K H S d x ∧ RpT K H S e y ∧ PPost K H S (g d e) Q
def rP1 (K : PySem.W.Frag) (g : D → R Sl) : V → Hp → VK → Prop := fun x H Q => ∃ S d, RpT K H S d x ∧ PPost K H S (g d) Q
def RpTs (K : PySem.W.Frag) (H : Hp) (S : AP) : List D → List V → Prop
  | [], vs => vs = []
  | d :: ds, vs => ∃ v r, vs = v :: r ∧ RpT K H S d v ∧ RpTs K H S ds r
def rPs (K : PySem.W.Frag) (g : List D → R Sl) : List V → Hp → VK → Prop := fun xs H Q => ∃ S ds, RpTs K H S ds xs ∧ PPost K H S (g ds) Q

section
variable {K : PySem.W.Frag} {H H' : Hp} {S : AP} {Q : VK} {s : Sl}
theorem Fr0.new {H : Hp} {S : AP} {p : Addr} {o : HO} (hp : H p = none) : Fr0 H (upd H p o) S (Bx S [p]) (fun _ => False) := ⟨.same (same_upd hp), nofun, fun a z => z.elim (fun z => .inr (z ▸ hp)) .inl⟩
theorem PPost.flat {d : D} {v : V} (h : PPost K H S (.ok (.d d)) Q) (r : Rp K H S d v) : Q v H := h v H [] (fun _ _ e => e) ⟨rfl, r⟩ nofun
theorem PPost.ite {c : Prop} [Decidable c] {r : R Sl} (h : PPost K H S (if c then r else .bad) Q) : c ∧ PPost K H S r Q := by
  by_cases hc : c
  · rw [if_pos hc] at h; exact ⟨hc, h⟩
  · rw [if_neg hc] at h; exact h.elim
theorem PPost.tup {p : Addr} {ds : List D} {xs : List V} (h : PPost K H S (.ok (.d (.tuple ds))) Q) (hp : H p = none) (r : RpA K H S ds xs) : Q (.ref p) (upd H p (.tup xs)) :=
  h _ _ [] (same_upd hp) ⟨rfl, p, xs, rfl, .inl (.inl upd_same), RpA.frame (Fr0.more (same_upd hp)) _ _ r⟩ nofun
theorem PPost.lst {p : Addr} {ds : List D} {xs : List V} (h : PPost K H S (.ok (.w (.l ds))) Q) (hp : H p = none) (r : RpA K H S ds xs) : Q (.ref p) (upd H p (.lst xs)) :=
  h _ _ [p] (same_upd hp) ⟨p, rfl, ⟨rfl, xs, upd_same, RpA.frame (Fr0.new hp) _ _ r⟩, List.nodup_cons.mpr ⟨nofun, List.nodup_nil⟩⟩ fun a ha => by cases List.mem_singleton.mp ha; exact hp
end

/-! ### arithmetic -/
def small64 (i : Int) : Bool := decide (i.natAbs < 2 ^ 64)
def okMul (i j : Int) : Bool := small64 i || small64 j || decide (i.natAbs.log2 + j.natAbs.log2 < 1000000)
def addD : D → D → R Sl
  | .int i, .int j => .ok (.d (.int (i + j)))
  | .tuple xs, .tuple ys => if xs.length + ys.length ≤ sizeLine then .ok (.d (.tuple (xs ++ ys))) else .bad
  | .list xs, .list ys => if xs.length + ys.length ≤ sizeLine then .ok (.w (.l (xs ++ ys))) else .bad
  | .str x, .str y => if x.length + y.length ≤ sizeLine then .ok (.d (.str (x ++ y))) else .bad
  | _, _ => .bad
def subD : D → D → R Sl
  | .int i, .int j => .ok (.d (.int (i - j)))
  | _, _ => .bad
def mulD : D → D → R Sl
  | .int i, .int j => if okMul i j then .ok (.d (.int (i * j))) else .bad
  | .list xs, .int k => if -(2 ^ 63) ≤ k ∧ k < 2 ^ 63 ∧ xs.length * k.toNat ≤ sizeLine then .ok (.w (.l (List.replicate k.toNat xs).flatten)) else .bad
  | .tuple xs, .int k => if xs ≠ [] ∧ 2 ≤ k ∧ k ≤ 1000 ∧ xs.length ≤ 1000 then .ok (.d (.tuple (List.replicate k.toNat xs).flatten)) else .bad
  | _, _ => .bad
def fdivD : D → D → R Sl
  | .int i, .int j => if 0 < j ∧ j.natAbs.log2 < 9000 then .ok (.d (.int (i / j))) else .bad
  | _, _ => .bad
def modD : D → D → R Sl
  | .int i, .int j => if 0 < j then .ok (.d (.int (i % j))) else .bad
  | _, _ => .bad
def powD : D → D → R Sl
  | .int i, .int j => if 0 ≤ j ∧ j ≤ 1000000 ∧ i.natAbs < 2 ^ 64 then .ok (.d (.int (i ^ j.toNat))) else .bad
  | _, _ => .bad
def andD : D → D → R Sl
  | .int i, .int j => .ok (.d (.int (Builtin.bitAnd i j)))
  | _, _ => .bad
def negD : D → R Sl
  | .int i => .ok (.d (.int (-i)))
  | _ => .bad
section
variable {X : Cx}
theorem op_addD : OpR X (binaryOp .Add) (rP X.K addD) := by
  intro pins s σ H x y v u Q I rx ry h
  obtain ⟨S, d, e, hx, hy, p⟩ := h
  cases d <;> cases e <;> try exact p.elim
  · cases hx; cases hy
    exact op_add pins s σ H _ _ v u Q I rx ry ⟨_, _, rfl, rfl, p.flat rfl⟩
  · cases hx; cases hy
    obtain ⟨hl, p⟩ := PPost.ite p
    exact op_add_str pins s σ H _ _ v u Q I rx ry ⟨_, _, rfl, rfl, hl, p.flat rfl⟩
  · obtain ⟨a, xs, rfl, ha, r1⟩ := hx
    obtain ⟨b, ys, rfl, hb, r2⟩ := hy
    obtain ⟨hl, p⟩ := PPost.ite p
    exact op_cat pins s σ H _ _ v u Q I rx ry ⟨a, b, xs, ys, rfl, rfl, ha, hb, by rw [r1.len, r2.len]; exact hl, fun q hq => p.lst hq (r1.append r2)⟩
  · obtain ⟨a, xs, rfl, ha, r1⟩ := hx
    obtain ⟨b, ys, rfl, hb, r2⟩ := hy
    obtain ⟨hl, p⟩ := PPost.ite p
    refine op_catA pins s σ H _ _ v u Q I rx ry ⟨a, b, xs, ys, rfl, rfl, ha, hb, by rw [r1.len, r2.len]; exact hl, fun e => ?_, fun e1 e2 => ?_, fun _ _ q hq => p.tup hq (r1.append r2)⟩
    · subst e
      exact p.flat ⟨b, ys, rfl, hb, by have := r1.append r2; simpa using this⟩
    · subst e2
      exact p.flat ⟨a, xs, rfl, ha, by have := r1.append r2; simpa using this⟩
theorem op_subD : OpR X (binaryOp .Sub) (rP X.K subD) := by
  intro pins s σ H x y v u Q I rx ry h
  obtain ⟨S, d, e, hx, hy, p⟩ := h
  cases d <;> cases e <;> try exact p.elim
  cases hx; cases hy
  exact op_sub pins s σ H _ _ v u Q I rx ry ⟨_, _, rfl, rfl, p.flat rfl⟩
theorem small64_iff {i : Int} (h : small64 i = true) : -(2 ^ 64) < i ∧ i < 2 ^ 64 := by
  have := of_decide_eq_true h
  omega
theorem op_mulD : OpR X (binaryOp .Mult) (rP X.K mulD) := by
  intro pins s σ H x y v u Q I rx ry h
  obtain ⟨S, d, e, hx, hy, p⟩ := h
  cases d <;> cases e <;> try exact p.elim
  · cases hx; cases hy
    obtain ⟨hl, p⟩ := PPost.ite p
    unfold okMul at hl
    rw [Bool.or_eq_true, Bool.or_eq_true] at hl
    rcases hl with (hl | hl) | hl
    · exact op_mul pins s σ H _ _ v u Q I rx ry ⟨_, _, rfl, rfl, .inl (small64_iff hl), p.flat rfl⟩
    · exact op_mul pins s σ H _ _ v u Q I rx ry ⟨_, _, rfl, rfl, .inr (small64_iff hl), p.flat rfl⟩
    · exact op_mulW pins s σ H _ _ v u Q I rx ry ⟨_, _, rfl, rfl, (show CMulW _ _ from of_decide_eq_true (p := (_ : Nat) < _) hl), p.flat rfl⟩
  · obtain ⟨a, xs, rfl, ha, r1⟩ := hx
    cases hy
    obtain ⟨hl, p⟩ := PPost.ite p
    refine op_rep pins s σ H _ _ v u Q I rx ry ⟨a, _, xs, rfl, rfl, ha, hl.1, hl.2.1, by rw [r1.len]; exact hl.2.2, fun q hq => p.lst hq ?_⟩
    have z : ∀ n : Nat, ∀ ds vs, RpA X.K H S ds vs → RpA X.K H S (List.replicate n ds).flatten (List.replicate n vs).flatten := fun n ds vs r => by
      induction n with
      | zero => rfl
      | succ n ih =>
        rw [List.replicate_succ, List.replicate_succ, List.flatten_cons, List.flatten_cons]
        exact r.append ih
    exact z _ _ _ r1
  · obtain ⟨a, xs, rfl, ha, r1⟩ := hx
    cases hy
    obtain ⟨hl, p⟩ := PPost.ite p
    refine op_repT pins s σ H _ _ v u Q I rx ry ⟨a, _, xs, rfl, rfl, ha, fun e => hl.1 ?_, hl.2.1, hl.2.2.1, by rw [r1.len]; exact hl.2.2.2, fun q hq => p.tup hq ?_⟩
    · subst e
      have := r1.len
      exact List.eq_nil_of_length_eq_zero this.symm
    have z : ∀ n : Nat, ∀ ds vs, RpA X.K H S ds vs → RpA X.K H S (List.replicate n ds).flatten (List.replicate n vs).flatten := fun n ds vs r => by
      induction n with
      | zero => rfl
      | succ n ih =>
        rw [List.replicate_succ, List.replicate_succ, List.flatten_cons, List.flatten_cons]
        exact r.append ih
    exact z _ _ _ r1
theorem op_fdivD : OpR X (binaryOp .FloorDiv) (rP X.K fdivD) := by
  intro pins s σ H x y v u Q I rx ry h
  obtain ⟨S, d, e, hx, hy, p⟩ := h
  cases d <;> cases e <;> try exact p.elim
  cases hx; cases hy
  obtain ⟨hl, p⟩ := PPost.ite p
  exact op_fdivW pins s σ H _ _ v u Q I rx ry ⟨_, _, rfl, rfl, hl, p.flat rfl⟩
theorem op_modD : OpR X (binaryOp .Mod) (rP X.K modD) := by
  intro pins s σ H x y v u Q I rx ry h
  obtain ⟨S, d, e, hx, hy, p⟩ := h
  cases d <;> cases e <;> try exact p.elim
  cases hx; cases hy
  obtain ⟨hl, p⟩ := PPost.ite p
  exact op_mod pins s σ H _ _ v u Q I rx ry ⟨_, _, rfl, rfl, hl, p.flat rfl⟩
theorem op_powD : OpR X (binaryOp .Pow) (rP X.K powD) := by
  intro pins s σ H x y v u Q I rx ry h
  obtain ⟨S, d, e, hx, hy, p⟩ := h
  cases d <;> cases e <;> try exact p.elim
  cases hx; cases hy
  obtain ⟨hl, p⟩ := PPost.ite p
  exact op_pow pins s σ H _ _ v u Q I rx ry ⟨_, _, rfl, rfl, hl, p.flat rfl⟩
theorem op_andD : OpR X (binaryOp .BitAnd) (rP X.K andD) := by
  intro pins s σ H x y v u Q I rx ry h
  obtain ⟨S, d, e, hx, hy, p⟩ := h
  cases d <;> cases e <;> try exact p.elim
  cases hx; cases hy
  exact op_and pins s σ H _ _ v u Q I rx ry ⟨_, _, rfl, rfl, p.flat rfl⟩
theorem iop_addD : OpR X (inplaceOp .Add) (rP X.K (fun d e => match d, e with | .int i, .int j => .ok (.d (.int (i + j))) | _, _ => .bad)) := by
  intro pins s σ H x y v u Q I rx ry h
  obtain ⟨S, d, e, hx, hy, p⟩ := h
  cases d <;> cases e <;> try exact p.elim
  cases hx; cases hy
  exact iop_add pins s σ H _ _ v u Q I rx ry ⟨_, _, rfl, rfl, p.flat rfl⟩
theorem iop_subD : OpR X (inplaceOp .Sub) (rP X.K (fun d e => match d, e with | .int i, .int j => .ok (.d (.int (i - j))) | _, _ => .bad)) := by
  intro pins s σ H x y v u Q I rx ry h
  obtain ⟨S, d, e, hx, hy, p⟩ := h
  cases d <;> cases e <;> try exact p.elim
  cases hx; cases hy
  exact iop_sub pins s σ H _ _ v u Q I rx ry ⟨_, _, rfl, rfl, p.flat rfl⟩
theorem un_negD : UnR X (unaryOp .USub) (rP1 X.K negD) := by
  intro pins s σ H x v Q I rx h
  obtain ⟨S, d, hx, p⟩ := h
  cases d <;> try exact p.elim
  cases hx
  exact un_neg pins s σ H _ v Q I rx ⟨_, rfl, p.flat rfl⟩
end

/-! ### comparisons -/
section
variable {K : PySem.W.Frag} {H : Hp} {S : AP}
mutual
def noDict : D → Bool
  | .dict _ => false
  | .list ds => noDicts ds
  | .tuple ds => noDicts ds
  | _ => true
def noDicts : List D → Bool
  | [] => true
  | d :: ds => noDict d && noDicts ds
end
mutual
theorem Rp.dp : ∀ (d : D) (v : V), noDict d = true → Rp K H S d v → Dp K H v d
  | .none, _, _, h => by cases h; exact .non
  | .bool b, _, _, h => by cases h; exact .bl b
  | .int i, _, _, h => by cases h; exact .int i
  | .str x, _, _, h => by cases h; exact .str x
  | .list ds, _, n, ⟨a, xs, e, l, r⟩ => by subst e; exact .lst (.inl (.inl l.1)) (RpA.dp ds xs n r)
  | .tuple ds, _, n, ⟨a, xs, e, l, r⟩ => by subst e; exact .tup l (RpA.dp ds xs n r)
  | .dict kvs, _, n, _ => nomatch n
theorem RpA.dp : ∀ (ds : List D) (vs : List V), noDicts ds = true → RpA K H S ds vs → DpAll K H vs ds
  | [], _, _, h => by cases h; exact .nil
  | d :: ds, _, n, ⟨v, r, e, h1, h2⟩ => by
    subst e
    have n := Bool.and_eq_true_iff.mp (show (noDict d && noDicts ds) = true from n)
    exact .cons (Rp.dp d v n.1 h1) (RpA.dp ds r n.2 h2)
end
theorem RpT.dp : ∀ {d : D} {v : V}, noDict d = true → RpT K H S d v → Dp K H v d
  | .none, _, _, h => by cases h; exact .non
  | .bool b, _, _, h => by cases h; exact .bl b
  | .int i, _, _, h => by cases h; exact .int i
  | .str x, _, _, h => by cases h; exact .str x
  | .list ds, _, n, ⟨a, xs, e, l, r⟩ => by subst e; exact .lst (.inl (.inl l)) (RpA.dp ds xs n r)
  | .tuple ds, _, n, ⟨a, xs, e, l, r⟩ => by subst e; exact .tup l (RpA.dp ds xs n r)
  | .dict kvs, _, n, _ => nomatch n
end
def okEq (d : D) : Bool := noDict d && SeqAt.shaped d
def isS : D → Bool
  | .str _ => true
  | _ => false
/-- that may be compared: two texts, or data whose texts are such -/
def eqOk (d e : D) : Bool := (isS d && isS e) || (okEq d && okEq e)
def eqD (d e : D) : R Sl := if eqOk d e then .ok (.d (.bool (PyData.eqv d e))) else .bad
def neD (d e : D) : R Sl := if eqOk d e then .ok (.d (.bool (!PyData.eqv d e))) else .bad
theorem eqv_str (x y : Str) : PyData.eqv (.str x) (.str y) = decide (V.str x = V.str y) := by
  have : PyData.eqv (.str x) (.str y) = (x == y) := by simp only [PyData.eqv]
  rw [this, Bool.eq_iff_iff]
  simp
def cmpD (p : Int → Int → Bool) : D → D → R Sl
  | .int i, .int j => .ok (.d (.bool (p i j)))
  | _, _ => .bad
/-- the value of 'x is y', y True, False or None -/
def isN : D → Bool
  | .none => true
  | _ => false
def isD (d e : D) : R Sl := match e with
  | .none => .ok (.d (.bool (isN d)))
  | _ => .bad
def isNotD (d e : D) : R Sl := match e with
  | .none => .ok (.d (.bool (!isN d)))
  | _ => .bad
section
variable {X : Cx}
theorem op_eqD' (hu : X.A.units + 64 < cLine) : OpR X (compareOp .Eq) (rP X.K eqD) := by
  intro pins s σ H x y v u Q I rx ry h
  obtain ⟨S, d, e, hx, hy, p⟩ := h
  unfold eqD at p
  split at p
  · rename_i hl
    unfold eqOk at hl
    by_cases hs : (isS d && isS e) = true
    · obtain ⟨s1, s2⟩ := Bool.and_eq_true_iff.mp hs
      obtain ⟨x, rfl⟩ : ∃ x, d = .str x := by cases d <;> first | exact ⟨_, rfl⟩ | cases s1
      obtain ⟨y, rfl⟩ : ∃ y, e = .str y := by cases e <;> first | exact ⟨_, rfl⟩ | cases s2
      cases hx
      cases hy
      refine op_eq pins s σ H _ _ v u Q I rx ry ⟨rfl, ?_⟩
      have q := p.flat (v := .bl (PyData.eqv (.str x) (.str y))) rfl
      rw [eqv_str] at q
      exact q
    rw [Bool.eq_false_iff.mpr hs, Bool.false_or] at hl
    simp only [okEq, Bool.and_eq_true] at hl
    exact op_eqD hu pins s σ H _ _ v u Q I rx ry ⟨d, e, hx.dp hl.1.1, hy.dp hl.2.1, hl.1.2, hl.2.2, p.flat rfl⟩
  · exact p.elim
theorem op_neD' (hu : X.A.units + 64 < cLine) : OpR X (compareOp .NotEq) (rP X.K neD) := by
  intro pins s σ H x y v u Q I rx ry h
  obtain ⟨S, d, e, hx, hy, p⟩ := h
  unfold neD at p
  split at p
  · rename_i hl
    unfold eqOk at hl
    by_cases hs : (isS d && isS e) = true
    · obtain ⟨s1, s2⟩ := Bool.and_eq_true_iff.mp hs
      obtain ⟨x, rfl⟩ : ∃ x, d = .str x := by cases d <;> first | exact ⟨_, rfl⟩ | cases s1
      obtain ⟨y, rfl⟩ : ∃ y, e = .str y := by cases e <;> first | exact ⟨_, rfl⟩ | cases s2
      cases hx
      cases hy
      refine op_ne pins s σ H _ _ v u Q I rx ry ⟨rfl, ?_⟩
      have q := p.flat (v := .bl (!PyData.eqv (.str x) (.str y))) rfl
      rw [eqv_str] at q
      exact q
    rw [Bool.eq_false_iff.mpr hs, Bool.false_or] at hl
    simp only [okEq, Bool.and_eq_true] at hl
    exact op_neD hu pins s σ H _ _ v u Q I rx ry ⟨d, e, hx.dp hl.1.1, hy.dp hl.2.1, hl.1.2, hl.2.2, p.flat rfl⟩
  · exact p.elim
theorem op_cmpD {op : CmpOp} {q : Int → Int → Bool} (h : OpR X (compareOp op) (rI0 fun i j => .bl (q i j))) : OpR X (compareOp op) (rP X.K (cmpD q)) := by
  intro pins s σ H x y v u Q I rx ry h'
  obtain ⟨S, d, e, hx, hy, p⟩ := h'
  cases d <;> cases e <;> try exact p.elim
  cases hx; cases hy
  exact h pins s σ H _ _ v u Q I rx ry ⟨_, _, rfl, rfl, p.flat rfl⟩
def ltD := cmpD fun i j => decide (i < j)
def leD := cmpD fun i j => decide (i ≤ j)
def gtD := cmpD fun i j => decide (j < i)
def geD := cmpD fun i j => decide (j ≤ i)
theorem op_ltD : OpR X (compareOp .Lt) (rP X.K ltD) := op_cmpD op_lt
theorem op_leD : OpR X (compareOp .LtE) (rP X.K leD) := op_cmpD op_le
theorem op_gtD : OpR X (compareOp .Gt) (rP X.K gtD) := op_cmpD op_gt
theorem op_geD : OpR X (compareOp .GtE) (rP X.K geD) := op_cmpD op_ge
theorem RpT.non {K : PySem.W.Frag} {H : Hp} {S : AP} {d : D} {v : V} (h : RpT K H S d v) : decide (v = V.non) = isN d := by
  cases d with
  | none => cases h; rfl
  | bool b => cases h; rfl
  | int i => cases h; rfl
  | str x => cases h; rfl
  | list ds => obtain ⟨a, xs, rfl, _⟩ := h; rfl
  | tuple ds => obtain ⟨a, xs, rfl, _⟩ := h; rfl
  | dict ds => obtain ⟨a, xs, rfl, _⟩ := h; rfl
theorem op_isD : OpR X (compareOp .Is) (rP X.K isD) := by
  intro pins s σ H x y v u Q I rx ry h
  obtain ⟨S, d, e, hx, hy, p⟩ := h
  cases e <;> try exact p.elim
  cases hy
  exact op_isN pins s σ H _ _ v u Q I rx ry ⟨rfl, p.flat (by rw [hx.non]; rfl)⟩
theorem op_isNotD : OpR X (compareOp .IsNot) (rP X.K isNotD) := by
  intro pins s σ H x y v u Q I rx ry h
  obtain ⟨S, d, e, hx, hy, p⟩ := h
  cases e <;> try exact p.elim
  cases hy
  exact op_notN pins s σ H _ _ v u Q I rx ry ⟨rfl, p.flat (by rw [hx.non]; rfl)⟩
end

/-! ### built-in functions -/
def lenD : List D → R Sl
  | [.list ds] => .ok (.d (.int ds.length))
  | [.tuple ds] => .ok (.d (.int ds.length))
  | [.dict kvs] => .ok (.d (.int kvs.length))
  | [.str x] => if x.length ≤ sizeLine then .ok (.d (.int x.length)) else .bad
  | _ => .bad
def absD : List D → R Sl
  | [.int i] => .ok (.d (.int (if i < 0 then -i else i)))
  | _ => .bad
def intD : List D → R Sl
  | [.int i] => .ok (.d (.int i))
  | [.bool b] => .ok (.d (.int (if b then 1 else 0)))
  | _ => .bad
def listD : List D → R Sl
  | [.list ds] => .ok (.w (.l ds))
  | [.tuple ds] => .ok (.w (.l ds))
  | _ => .bad
def tupleD : List D → R Sl
  | [.list ds] => .ok (.d (.tuple ds))
  | [.tuple ds] => .ok (.d (.tuple ds))
  | _ => .bad
def gcdD : List D → R Sl
  | [.int a, .int b] => .ok (.d (.int (Nat.gcd a.natAbs b.natAbs : Nat)))
  | _ => .bad
def reprOk (d : D) : Bool := noDict d && d.showable && decide (d.depth ≤ 64) && decide (d.shown.length ≤ sizeLine)
def reprD : List D → R Sl
  | [d] => if reprOk d then .ok (.d (.str d.shown)) else .bad
  | _ => .bad
def boolsOf : List D → Option (List Bool)
  | [] => some []
  | .bool b :: r => (boolsOf r).map (b :: ·)
  | _ => none
def intsOf : List D → Option (List Int)
  | [] => some []
  | .int b :: r => (intsOf r).map (b :: ·)
  | _ => none
theorem boolsOf_eq : ∀ {ds : List D} {bs : List Bool}, boolsOf ds = some bs → ds = bs.map .bool
  | [], _, h => by cases h; rfl
  | .bool b :: r, _, h => by
    unfold boolsOf at h
    cases e : boolsOf r with
    | none => rw [e] at h; cases h
    | some bs => rw [e] at h; cases h; rw [boolsOf_eq e]; rfl
  | .none :: _, _, h => nomatch h
  | .int _ :: _, _, h => nomatch h
  | .str _ :: _, _, h => nomatch h
  | .list _ :: _, _, h => nomatch h
  | .tuple _ :: _, _, h => nomatch h
  | .dict _ :: _, _, h => nomatch h
theorem intsOf_eq : ∀ {ds : List D} {bs : List Int}, intsOf ds = some bs → ds = bs.map .int
  | [], _, h => by cases h; rfl
  | .int b :: r, _, h => by
    unfold intsOf at h
    cases e : intsOf r with
    | none => rw [e] at h; cases h
    | some bs => rw [e] at h; cases h; rw [intsOf_eq e]; rfl
  | .none :: _, _, h => nomatch h
  | .bool _ :: _, _, h => nomatch h
  | .str _ :: _, _, h => nomatch h
  | .list _ :: _, _, h => nomatch h
  | .tuple _ :: _, _, h => nomatch h
  | .dict _ :: _, _, h => nomatch h
@[simp] theorem intsOf_map (ns : List Int) : intsOf (ns.map .int) = some ns := by
  induction ns with
  | nil => rfl
  | cons n ns ih => show (intsOf (ns.map .int)).map (n :: ·) = _; rw [ih]; rfl
@[simp] theorem boolsOf_map (ns : List Bool) : boolsOf (ns.map .bool) = some ns := by
  induction ns with
  | nil => rfl
  | cons n ns ih => show (boolsOf (ns.map .bool)).map (n :: ·) = _; rw [ih]; rfl
def allD : List D → R Sl
  | [.list ds] => match boolsOf ds with
    | some bs => .ok (.d (.bool (bs.all id)))
    | none => .bad
  | _ => .bad
def anyD : List D → R Sl
  | [.list ds] => match boolsOf ds with
    | some bs => .ok (.d (.bool (bs.any id)))
    | none => .bad
  | _ => .bad
def sumD : List D → R Sl
  | [.list ds] => match intsOf ds with
    | some ns => .ok (.d (.int ns.sum))
    | none => .bad
  | [.tuple ds] => match intsOf ds with
    | some ns => .ok (.d (.int ns.sum))
    | none => .bad
  | _ => .bad
def maxI : List Int → Int
  | [] => 0
  | [a] => a
  | a :: r => max a (maxI r)
def minI : List Int → Int
  | [] => 0
  | [a] => a
  | a :: r => min a (minI r)
def maxD : List D → R Sl
  | [.list ds] => match intsOf ds with
    | some ns => if ns = [] then .bad else .ok (.d (.int (maxI ns)))
    | none => .bad
  | [.int i, .int j] => .ok (.d (.int (if j > i then j else i)))
  | _ => .bad
def minD : List D → R Sl
  | [.list ds] => match intsOf ds with
    | some ns => if ns = [] then .bad else .ok (.d (.int (minI ns)))
    | none => .bad
  | [.int i, .int j] => .ok (.d (.int (if j < i then j else i)))
  | _ => .bad
theorem maxI_spec : ∀ {ns : List Int} {m : Int}, m ∈ ns → (∀ y ∈ ns, y ≤ m) → m = maxI ns
  | [], _, h, _ => nomatch h
  | [a], m, h, _ => by cases List.mem_singleton.mp h; rfl
  | a :: b :: r, m, h, h2 => by
    show m = max a (maxI (b :: r))
    have ex : ∀ (l : List Int), l ≠ [] → maxI l ∈ l := fun l => by
      induction l with
      | nil => intro h; exact absurd rfl h
      | cons c l ih =>
        intro _
        cases l with
        | nil => simp [maxI]
        | cons e l =>
          have := ih (by simp)
          show max c (maxI (e :: l)) ∈ _
          rw [Int.max_def]
          split
          · exact List.mem_cons_of_mem _ this
          · exact List.mem_cons_self
    have h3 := ex (b :: r) (by simp)
    have h4 := h2 a List.mem_cons_self
    have h5 := h2 _ (List.mem_cons_of_mem _ h3)
    rcases List.mem_cons.mp h with e | h
    · subst e; omega
    · have := maxI_spec h fun y hy => h2 y (List.mem_cons_of_mem _ hy)
      omega
theorem minI_spec : ∀ {ns : List Int} {m : Int}, m ∈ ns → (∀ y ∈ ns, m ≤ y) → m = minI ns
  | [], _, h, _ => nomatch h
  | [a], m, h, _ => by cases List.mem_singleton.mp h; rfl
  | a :: b :: r, m, h, h2 => by
    show m = min a (minI (b :: r))
    have ex : ∀ (l : List Int), l ≠ [] → minI l ∈ l := fun l => by
      induction l with
      | nil => intro h; exact absurd rfl h
      | cons c l ih =>
        intro _
        cases l with
        | nil => simp [minI]
        | cons e l =>
          have := ih (by simp)
          show min c (minI (e :: l)) ∈ _
          rw [Int.min_def]
          split
          · exact List.mem_cons_self
          · exact List.mem_cons_of_mem _ this
    have h3 := ex (b :: r) (by simp)
    have h4 := h2 a List.mem_cons_self
    have h5 := h2 _ (List.mem_cons_of_mem _ h3)
    rcases List.mem_cons.mp h with e | h
    · subst e; omega
    · have := minI_spec h fun y hy => h2 y (List.mem_cons_of_mem _ hy)
      omega
section
variable {X : Cx}
theorem RpTs.one {K : PySem.W.Frag} {H : Hp} {S : AP} {d : D} {vs : List V} (h : RpTs K H S [d] vs) : ∃ v, vs = [v] ∧ RpT K H S d v := by
  obtain ⟨v, r, rfl, h1, rfl⟩ := h
  exact ⟨v, rfl, h1⟩
theorem RpTs.two {K : PySem.W.Frag} {H : Hp} {S : AP} {d e : D} {vs : List V} (h : RpTs K H S [d, e] vs) : ∃ v u, vs = [v, u] ∧ RpT K H S d v ∧ RpT K H S e u := by
  obtain ⟨v, r, rfl, h1, u, r', rfl, h2, rfl⟩ := h
  exact ⟨v, u, rfl, h1, h2⟩
theorem RpK.len {K : PySem.W.Frag} {H : Hp} {S : AP} : ∀ {ds : List (D × D)} {vs : List (L2.Key × V)}, RpK K H S ds vs → vs.length = ds.length
  | [], _, h => by cases h; rfl
  | (k, d) :: ds, _, ⟨q, v, r, e, _, _, h2⟩ => by rw [e, List.length_cons, List.length_cons, RpK.len h2]
theorem cr_len : CallR X (.builtin "len") (rPs X.K lenD) := by
  intro pins s σ H xs us Q I r h
  obtain ⟨S, ds, hr, p⟩ := h
  unfold lenD at p
  split at p
  · obtain ⟨v, rfl, a, ys, rfl, ha, r1⟩ := hr.one
    exact call_len_seq pins s σ H _ us Q I r ⟨a, ys, rfl, .inl (.inl (.inl ha)), by rw [r1.len]; exact p.flat rfl⟩
  · obtain ⟨v, rfl, a, ys, rfl, ha, r1⟩ := hr.one
    exact call_len_seq pins s σ H _ us Q I r ⟨a, ys, rfl, .inr ha, by rw [r1.len]; exact p.flat rfl⟩
  · obtain ⟨v, rfl, a, ys, rfl, ha, r1⟩ := hr.one
    obtain ⟨u, rfl, ru⟩ := vals1 r
    cases ru
    exact d_len I ha fun t s' J => ⟨.int ys.length, H, J, ⟨t, rfl⟩, by rw [RpK.len r1]; exact p.flat rfl⟩
  · obtain ⟨v, rfl, h1⟩ := hr.one
    cases h1
    split at p
    · rename_i hl
      exact call_len_str pins s σ H _ us Q I r ⟨_, rfl, hl, p.flat rfl⟩
    · exact p.elim
  · exact p.elim
theorem cr_abs : CallR X (.builtin "abs") (rPs X.K absD) := by
  intro pins s σ H xs us Q I r h
  obtain ⟨S, ds, hr, p⟩ := h
  unfold absD at p
  split at p
  · obtain ⟨v, rfl, h1⟩ := hr.one
    cases h1
    exact call_abs pins s σ H _ us Q I r ⟨_, rfl, p.flat rfl⟩
  · exact p.elim
theorem cr_int : CallR X (.type "int") (rPs X.K intD) := by
  intro pins s σ H xs us Q I r h
  obtain ⟨S, ds, hr, p⟩ := h
  unfold intD at p
  split at p
  · obtain ⟨v, rfl, h1⟩ := hr.one
    cases h1
    exact call_int1 pins s σ H _ us Q I r (.inl ⟨_, rfl, p.flat rfl⟩)
  · obtain ⟨v, rfl, h1⟩ := hr.one
    cases h1
    exact call_int1 pins s σ H _ us Q I r (.inr ⟨_, rfl, p.flat rfl⟩)
  · exact p.elim
theorem cr_list : CallR X (.type "list") (rPs X.K listD) := by
  intro pins s σ H xs us Q I r h
  obtain ⟨S, ds, hr, p⟩ := h
  unfold listD at p
  split at p
  · obtain ⟨v, rfl, a, ys, rfl, ha, r1⟩ := hr.one
    exact call_list_of pins s σ H _ us Q I r ⟨a, ys, rfl, .inl (.inl (.inl ha)), fun q hq => p.lst hq r1⟩
  · obtain ⟨v, rfl, a, ys, rfl, ha, r1⟩ := hr.one
    exact call_list_of pins s σ H _ us Q I r ⟨a, ys, rfl, .inr ha, fun q hq => p.lst hq r1⟩
  · exact p.elim
theorem cr_tuple : CallR X (.type "tuple") (rPs X.K tupleD) := by
  intro pins s σ H xs us Q I r h
  obtain ⟨S, ds, hr, p⟩ := h
  unfold tupleD at p
  split at p
  · obtain ⟨v, rfl, a, ys, rfl, ha, r1⟩ := hr.one
    exact call_tuple_of pins s σ H _ us Q I r ⟨a, ys, rfl, .inl ⟨.inl (.inl ha), fun q hq => p.tup hq r1⟩⟩
  · obtain ⟨v, rfl, a, ys, rfl, ha, r1⟩ := hr.one
    exact call_tuple_of pins s σ H _ us Q I r ⟨a, ys, rfl, .inr ⟨ha, p.flat ⟨a, ys, rfl, ha, r1⟩⟩⟩
  · exact p.elim
theorem cr_gcdD : CallR X (.builtin "math.gcd") (rPs X.K gcdD) := by
  intro pins s σ H xs us Q I r h
  obtain ⟨S, ds, hr, p⟩ := h
  unfold gcdD at p
  split at p
  · obtain ⟨v, u, rfl, h1, h2⟩ := hr.two
    cases h1; cases h2
    exact cr_gcd pins s σ H _ us Q I r ⟨_, _, rfl, p.flat rfl⟩
  · exact p.elim
theorem cr_allD (hc : X.calm = true) : CallR X (.builtin "all") (rPs X.K allD) := by
  intro pins s σ H xs us Q I r h
  obtain ⟨S, ds, hr, p⟩ := h
  unfold allD at p
  split at p
  · obtain ⟨v, rfl, a, ys, rfl, ha, r1⟩ := hr.one
    split at p
    · rename_i bs e
      rw [boolsOf_eq e] at r1
      rw [r1.bools] at ha
      exact cr_all hc pins s σ H _ us Q I r ⟨a, bs, rfl, .inl (.inl ha), p.flat rfl⟩
    · exact p.elim
  · exact p.elim
theorem cr_anyD (hc : X.calm = true) : CallR X (.builtin "any") (rPs X.K anyD) := by
  intro pins s σ H xs us Q I r h
  obtain ⟨S, ds, hr, p⟩ := h
  unfold anyD at p
  split at p
  · obtain ⟨v, rfl, a, ys, rfl, ha, r1⟩ := hr.one
    split at p
    · rename_i bs e
      rw [boolsOf_eq e] at r1
      rw [r1.bools] at ha
      exact cr_any hc pins s σ H _ us Q I r ⟨a, bs, rfl, .inl (.inl ha), p.flat rfl⟩
    · exact p.elim
  · exact p.elim
theorem sum_rawT {prog : Program} {w : World} {A : Around} {E : Value → Shared → Prop} {s : Shared} {l : Addr} {its : List Value} {ns : List Int} {Q : Value → Shared → Prop} (hh : A.handled = none) (hl : s.heap.IsTuple l its.toArray) (hi : IntsAre its ns)
    (h : ∀ h' tk t', (∀ b o, s.heap.get? b = some o → h'.get? b = some o) → Q (.int ns.sum t') { s with heap := h', toks := tk }) : wpAny (model prog w) A (call (.builtin "sum") [.ref l]) Q E s := by
  obtain ⟨xs, e⟩ := hi.allInts.items
  have hn : numsOf (intItems xs).toList = ns := by rw [← e]; exact hi.numsOf
  rw [nums_intItems] at hn
  rw [e] at hl
  refine PySem.W.ktm_sumG hh hl fun h' tk t' hk => ?_
  have := h h' tk t' hk
  rw [preSum_eq, List.take_of_length_le (by simp), hn]; exact this
theorem cr_sumD (hc : X.calm = true) : CallR X (.builtin "sum") (rPs X.K sumD) := by
  intro pins s σ H xs us Q I r h
  obtain ⟨S, ds, hr, p⟩ := h
  unfold sumD at p
  split at p
  · obtain ⟨v, rfl, a, ys, rfl, ha, r1⟩ := hr.one
    split at p
    · rename_i bs e
      rw [intsOf_eq e] at r1
      rw [r1.ints] at ha
      exact cr_sum hc pins s σ H _ us Q I r ⟨a, bs, rfl, .inl (.inl ha), p.flat rfl⟩
    · exact p.elim
  · obtain ⟨v, rfl, a, ys, rfl, ha, r1⟩ := hr.one
    split at p
    · rename_i bs e
      rw [intsOf_eq e] at r1
      rw [r1.ints] at ha
      obtain ⟨its, rv, ht, _⟩ := I.tuple ha
      rw [Vals.ref1 r]
      exact sum_rawT (I.ok.hd hc) (show s.heap.IsTuple a its.toArray from ht) rv.ints fun h' tk t' hk => ⟨.int _, H, I.kept hk, ⟨_, rfl⟩, p.flat rfl⟩
    · exact p.elim
  · exact p.elim
theorem cr_maxD' (hc : X.calm = true) : CallR X (.builtin "max") (rPs X.K maxD) := by
  intro pins s σ H xs us Q I r h
  obtain ⟨S, ds, hr, p⟩ := h
  unfold maxD at p
  split at p
  · obtain ⟨v, rfl, a, ys, rfl, ha, r1⟩ := hr.one
    split at p
    · rename_i bs e
      rw [intsOf_eq e] at r1
      rw [r1.ints] at ha
      split at p
      · exact p.elim
      · rename_i hne
        refine cr_max hc pins s σ H _ us Q I r ⟨a, bs, rfl, .inl (.inl ha), List.length_pos_iff.mpr hne, fun m h1 h2 => ?_⟩
        rw [maxI_spec h1 h2]
        exact p.flat rfl
    · exact p.elim
  · obtain ⟨v, u, rfl, h1, h2⟩ := hr.two
    cases h1; cases h2
    exact call_max2 hc pins s σ H _ us Q I r ⟨_, _, rfl, p.flat rfl⟩
  · exact p.elim
theorem cr_minD' (hc : X.calm = true) : CallR X (.builtin "min") (rPs X.K minD) := by
  intro pins s σ H xs us Q I r h
  obtain ⟨S, ds, hr, p⟩ := h
  unfold minD at p
  split at p
  · obtain ⟨v, rfl, a, ys, rfl, ha, r1⟩ := hr.one
    split at p
    · rename_i bs e
      rw [intsOf_eq e] at r1
      rw [r1.ints] at ha
      split at p
      · exact p.elim
      · rename_i hne
        refine cr_min hc pins s σ H _ us Q I r ⟨a, bs, rfl, .inl (.inl ha), List.length_pos_iff.mpr hne, fun m h1 h2 => ?_⟩
        rw [minI_spec h1 h2]
        exact p.flat rfl
    · exact p.elim
  · obtain ⟨v, u, rfl, h1, h2⟩ := hr.two
    cases h1; cases h2
    exact call_min2 hc pins s σ H _ us Q I r ⟨_, _, rfl, p.flat rfl⟩
  · exact p.elim
theorem noDict_has {d : D} : noDict d = true → d.hasDict = false := by
  have h : (∀ d : D, noDict d = true → d.hasDict = false) := by
    intro d
    exact PyData.rec (motive_1 := fun d => noDict d = true → d.hasDict = false) (motive_2 := fun ds => noDicts ds = true → PyData.hasDictAll ds = false) (motive_3 := fun _ => True) (motive_4 := fun _ => True)
      (fun _ => rfl) (fun _ _ => rfl) (fun _ _ => rfl) (fun _ _ => rfl) (fun ds ih h => ih h) (fun ds ih h => ih h) (fun kvs _ h => nomatch h)
      (fun _ => rfl) (fun d ds h1 h2 h => by
        have h := Bool.and_eq_true_iff.mp (show (noDict d && noDicts ds) = true from h)
        show (d.hasDict || PyData.hasDictAll ds) = false
        rw [h1 h.1, h2 h.2]; rfl) trivial (fun _ _ _ _ => trivial) (fun _ _ _ _ => trivial) d
  exact h d
theorem cr_repr (hg : X.A.guards = some []) (hu : X.A.units + 100 < cLine) : CallR X (.builtin "repr") (rPs X.K reprD) := by
  intro pins s σ H xs us Q I r h
  obtain ⟨S, ds, hr, p⟩ := h
  unfold reprD at p
  split at p
  · rename_i d
    obtain ⟨v, rfl, h1⟩ := hr.one
    split at p
    · rename_i hl
      simp only [reprOk, Bool.and_eq_true, decide_eq_true_eq] at hl
      obtain ⟨⟨⟨h2, h3⟩, h4⟩, h5⟩ := hl
      obtain ⟨u, rfl, ru⟩ := vals1 r
      obtain ⟨as, rd⟩ := Dp.reads I d v u (h1.dp h2) ru
      have isr : ∀ a, u = .ref a → wpAny (model X.prog X.w) X.A (call (.builtin "repr") [u]) (EP X pins σ Q) X.xe s := fun a e => by
        subst e
        refine repr_of_reads' rd h3 (fun h' => by rw [noDict_has h2] at h'; cases h') hg (by omega) (fun _ _ e => e) (fun h' u tk hk => ?_) h5
        exact ⟨.str d.shown, H, I.kept (t' := tk) hk, ⟨_, rfl⟩, p.flat rfl⟩
      cases d with
      | none => cases h1; cases ru; exact P.repr_of_none ⟨.str _, H, I.tok _, ⟨_, rfl⟩, p.flat rfl⟩
      | bool b => cases h1; cases ru; exact P.repr_of_bool ⟨.str _, H, I.tok _, ⟨_, rfl⟩, p.flat rfl⟩
      | int i =>
        cases h1
        obtain ⟨t, rfl⟩ := ru
        exact P.repr_of_int (of_decide_eq_true h3) ⟨.str _, H, I.tok _, ⟨_, rfl⟩, p.flat rfl⟩
      | str x =>
        cases h1
        obtain ⟨t, rfl⟩ := ru
        exact P.repr_of_str ⟨.str _, H, I.tok _, ⟨_, rfl⟩, p.flat rfl⟩ h5
      | list ds => obtain ⟨a, xs, rfl, _⟩ := h1; exact isr a ru
      | tuple ds => obtain ⟨a, xs, rfl, _⟩ := h1; exact isr a ru
      | dict ds => exact nomatch h2
    · exact p.elim
  · exact p.elim
end
end Eg
end
section
/-! E5: expressions -/
namespace Eg
open PySem PySem.Spec L2
open PyProof.Rows hiding St

/-- what holds of the place where one stands -/
structure Base (X : Cx) (c : Cc) : Prop where
  k : X.K = c.K
  mg : X.mg = c.mg
  un : X.A.units + 120 < cLine
  gd : X.A.guards = some []
  nd : X.N.Nodup
structure Good (X : Cx) (c : Cc) : Prop extends Base X c where
  calm : X.calm = true
instance {X : Cx} {c : Cc} : Coe (Good X c) (Base X c) := ⟨Good.toBase⟩

def prim (r : R Sl) : Fn Sl := fun γ => match r with
  | .ok s => .ok s γ
  | _ => .bad
section
variable {c : Cc} {H H1 H2 H' : Hp} {B S : AP} {og og1 og2 og' : Og} {σ : St} {γ : Env} {X : Cx} {e a b : Expr} {pos : Pos}
theorem VRK.there {K : PySem.W.Frag} {s : Sl} {v : V} {on : List Addr} {a : Addr} (h : VRK K H S s v on) (ha : a ∈ on) : H a ≠ none := by
  cases s with
  | d x => rw [h.1] at ha; cases ha
  | w m => obtain ⟨b, _, o, _⟩ := h; exact (o.mu a ha).ne
  | no => exact h.elim
  | io m => exact h.elim
  | th r => exact h.elim
  | scr r => exact h.elim
theorem prim_fin {r : R Sl} {Q : VK} (E : EnvR c H B og σ γ) (k : tGat c (relE c) B og (prim r) σ H γ Q) : PPost c.K H (Sx B og) r Q := by
  cases r with
  | ex x => exact k
  | bad => exact k
  | ok s => exact fun v H' on hm vr hn => k v H' og on (Later.more hm) (E.fresh hm hn fun a ha => vr.there ha) ⟨vr, fun a ha => E.notS (hn a ha)⟩ hn

/-! ### two operands -/
def op2 (g : D → D → R Sl) (fa fb : Fn AV) : Fn Sl := fun γ => (fa γ).bind fun x γ1 => (fb γ1).bind fun y γ2 => prim ((getA γ2 x).bind fun d => (getA γ2 y).bind (g d)) γ2
theorem op2_core {g : D → D → R Sl} {fa fb : Fn AV} {Q : VK} (h : tE c (op2 g fa fb) σ H Q) : tO c fa σ H fun x H1 => tO c fb σ H1 fun y H2 => rP c.K g x y H2 Q := by
  refine tG.thn h fun B og x γ0 γ1 v H1 og1 on E0 l E1 q1 hn k => ?_
  refine ⟨B, og1, γ1, E1, tGat.thn k fun y γ2 u H2 og2 on2 l2 E2 q2 hn2 k2 => ?_⟩
  have p := prim_fin E2 k2
  have q1' := AVR.later E1 l2 q1.2
  cases ex : getA γ2 x with
  | ex z => rw [ex] at p; exact p.elim
  | bad => rw [ex] at p; exact p.elim
  | ok d =>
    cases ey : getA γ2 y with
    | ex z => rw [ex, ey] at p; exact p.elim
    | bad => rw [ex, ey] at p; exact p.elim
    | ok e =>
      rw [ex, ey] at p
      exact ⟨_, d, e, getA_top E2 q1' ex, getA_top E2 q2.2 ey, p⟩
def op1 (g : D → R Sl) (fa : Fn AV) : Fn Sl := fun γ => (fa γ).bind fun x γ1 => prim ((getA γ1 x).bind g) γ1
theorem op1_core {g : D → R Sl} {fa : Fn AV} {Q : VK} (h : tE c (op1 g fa) σ H Q) : tO c fa σ H fun x H1 => rP1 c.K g x H1 Q := by
  refine tG.thn h fun B og x γ0 γ1 v H1 og1 on E0 l E1 q1 hn k => ?_
  have p := prim_fin E1 k
  cases ex : getA γ1 x with
  | ex z => rw [ex] at p; exact p.elim
  | bad => rw [ex] at p; exact p.elim
  | ok d =>
    rw [ex] at p
    exact ⟨_, d, getA_top E1 q1.2 ex, p⟩
variable {fa fb fc : Fn AV} {g : D → D → R Sl}
theorem pe_bin {op : Operator} (G : Base X c) (ho : OpR X (binaryOp op) (rP X.K g)) (ha : PE X a (tO c fa)) (hb : PE X b (tO c fb)) : PE X (.BinOp a op b pos) (tE c (op2 g fa fb)) :=
  PE_imp (pe_op ho ha hb) fun σ H Q h => by rw [G.k]; exact op2_core h
theorem pe_una {op : UnaryOp} {g : D → R Sl} (G : Base X c) (ho : UnR X (unaryOp op) (rP1 X.K g)) (ha : PE X a (tO c fa)) : PE X (.UnaryOp op a pos) (tE c (op1 g fa)) :=
  PE_imp (pe_un ho ha) fun σ H Q h => by rw [G.k]; exact op1_core h
theorem pe_com {op : CmpOp} (G : Base X c) (ho : OpR X (compareOp op) (rP X.K g)) (ha : PE X a (tO c fa)) (hb : PE X b (tO c fb)) (hm : behindInMarks op b = false) : PE X (.Compare a [op] [b] pos) (tE c (op2 g fa fb)) :=
  PE_imp (pe_cmpR ho ha hb hm) fun σ H Q h => by rw [G.k]; exact op2_core h

/-! ### tests -/
def boolS : Fn Sl → Fn Bool := fun f γ => (f γ).bind fun s γ1 => match s with
  | .d (.bool b) => .ok b γ1
  | _ => .bad
theorem bool_core {f : Fn Sl} {Q : Bool → Hp → Prop} (h : tT c (boolS f) σ H Q) : tE c f σ H fun x H1 => ∃ b, x = .bl b ∧ Q b H1 := by
  refine tG.thn h fun B og x γ0 γ1 v H1 og1 on E0 l E1 q1 hn k => ?_
  cases x with
  | d x =>
    cases x with
    | bool b => cases q1.1.2; exact ⟨b, rfl, k.fin .refl E1 ⟨rfl, rfl⟩ nofun⟩
    | _ => exact k.elim
  | _ => exact k.elim
theorem pt_com {op : CmpOp} (G : Base X c) (ho : OpR X (compareOp op) (rP X.K g)) (ha : PE X a (tO c fa)) (hb : PE X b (tO c fb)) (hm : behindInMarks op b = false) : PT X (.Compare a [op] [b] pos) (tT c (boolS (op2 g fa fb))) :=
  PT_imp (pt_cmpR ho ha hb hm) fun σ H Q h => by rw [G.k]; exact op2_core (bool_core h)
/-- an expression that is a bool, as a test -/
theorem pt_bool {f : Fn Sl} (he : PE X e (tE c f)) (hw : ∀ whole, isTrue e X.env whole = (do let v ← whole; standAt e.pos; holding [v] (truthy v)) := by intro _; rfl) : PT X e (tT c (boolS f)) :=
  PT_imp (pt_val he hw) fun σ H Q h => bool_core h
/-- truth of data -/
def truD : D → Option Bool
  | .none => some false
  | .bool b => some b
  | .int i => some (i != 0)
  | .list ds => some (!ds.isEmpty)
  | .tuple ds => some (!ds.isEmpty)
  | .dict _ => none
  | .str x => if x.length ≤ sizeLine then some ((x.length : Int) != 0) else none
def truS (f : Fn AV) : Fn Bool := fun γ => (f γ).bind fun x γ1 => match getA γ1 x with
  | .ok d => match truD d with
    | some b => .ok b γ1
    | none => .bad
  | _ => .bad
theorem isEmpty_len {α β : Type} {l : List α} {m : List β} (h : l.length = m.length) : l.isEmpty = m.isEmpty := by
  cases l <;> cases m <;> first | rfl | cases h
theorem truV_of {d : D} {v : V} {b : Bool} (h : RpT c.K H S d v) (e : truD d = some b) : TruV c.K v H b := by
  cases d with
  | none => cases h; cases e; exact rfl
  | bool b => cases h; cases e; exact rfl
  | int b => cases h; cases e; exact rfl
  | str x =>
    cases h
    have e : (if x.length ≤ sizeLine then some ((x.length : Int) != 0) else none) = some b := e
    by_cases hl : x.length ≤ sizeLine
    · rw [if_pos hl] at e; cases e; exact ⟨hl, rfl⟩
    · rw [if_neg hl] at e; cases e
  | list ds => obtain ⟨a, xs, rfl, ha, r⟩ := h; cases e; exact .inl ⟨xs, .inl (.inl ha), by rw [isEmpty_len r.len]⟩
  | tuple ds => obtain ⟨a, xs, rfl, ha, r⟩ := h; cases e; exact .inr (.inl ⟨xs, ha, by rw [isEmpty_len r.len]⟩)
  | dict ds => cases e
theorem pt_tru {f : Fn AV} (G : Base X c) (he : PE X e (tO c f)) (hw : ∀ whole, isTrue e X.env whole = (do let v ← whole; standAt e.pos; holding [v] (truthy v)) := by intro _; rfl) : PT X e (tT c (truS f)) :=
  PT_imp (pt_truth he hw) fun σ H Q h => by
    refine tG.thn h fun B og x γ0 γ1 v H1 og1 on E0 l E1 q1 hn k => ?_
    unfold tGat at k
    dsimp only at k
    cases ex : getA γ1 x with
    | ex z => rw [ex] at k; exact k.elim
    | bad => rw [ex] at k; exact k.elim
    | ok d =>
      rw [ex] at k
      dsimp only at k
      cases ed : truD d with
      | none => rw [ed] at k; exact k.elim
      | some b =>
        rw [ed] at k
        have t := truV_of (getA_top E1 q1.2 ex) ed
        rw [← G.k] at t
        exact ⟨b, t, k b H1 og1 [] .refl E1 ⟨rfl, rfl⟩ nofun⟩
def andT (f g : Fn Bool) : Fn Bool := fun γ => (f γ).bind fun b γ1 => if b = true then g γ1 else .ok false γ1
def orT (f g : Fn Bool) : Fn Bool := fun γ => (f γ).bind fun b γ1 => if b = true then .ok true γ1 else g γ1
def notT (f : Fn Bool) : Fn Bool := fun γ => (f γ).bind fun b γ1 => .ok (!b) γ1
variable {t u : Fn Bool} {rest : List Expr}
theorem pw_one_and (ha : PT X a (tT c t)) : PW X (.BoolOp .And [a] pos) (tT c t) := pw_and1 ha
theorem pw_one_or (ha : PT X a (tT c t)) : PW X (.BoolOp .Or [a] pos) (tT c t) := pw_or1 ha
theorem pw_and' (ha : PT X a (tT c t)) (hb : PW X (.BoolOp .And (b :: rest) pos) (tT c u)) : PW X (.BoolOp .And (a :: b :: rest) pos) (tT c (andT t u)) :=
  PW_imp (pw_and ha hb) fun σ H Q h => by
    refine tG.thn h fun B og x γ0 γ1 v H1 og1 on E0 l E1 q1 hn k => ?_
    cases q1.2
    cases x with
    | true => exact ⟨B, og1, γ1, E1, k⟩
    | false => exact k.fin .refl E1 ⟨rfl, rfl⟩ nofun
theorem pw_or' (ha : PT X a (tT c t)) (hb : PW X (.BoolOp .Or (b :: rest) pos) (tT c u)) : PW X (.BoolOp .Or (a :: b :: rest) pos) (tT c (orT t u)) :=
  PW_imp (pw_or ha hb) fun σ H Q h => by
    refine tG.thn h fun B og x γ0 γ1 v H1 og1 on E0 l E1 q1 hn k => ?_
    cases q1.2
    cases x with
    | false => exact ⟨B, og1, γ1, E1, k⟩
    | true => exact k.fin .refl E1 ⟨rfl, rfl⟩ nofun
theorem pt_not' (ha : PT X a (tT c t)) : PT X (.UnaryOp .Not a pos) (tT c (notT t)) :=
  PT_imp (pt_not ha) fun σ H Q h => by
    refine tG.thn h fun B og x γ0 γ1 v H1 og1 on E0 l E1 q1 hn k => ?_
    cases q1.2
    exact k.fin .refl E1 ⟨rfl, rfl⟩ nofun
/-- bools as values -/
def dataB (f : Fn Bool) : Fn D := fun γ => (f γ).bind fun b γ1 => .ok (.bool b) γ1
/-- and, or, not as values: of bools -/
def bd (f : Fn Sl) : Fn Bool := boolS f
def andV (f g : Fn Sl) : Fn Sl := fun γ => (boolS f γ).bind fun b γ1 => if b = true then g γ1 else .ok (.d (.bool false)) γ1
def orV (f g : Fn Sl) : Fn Sl := fun γ => (boolS f γ).bind fun b γ1 => if b = true then .ok (.d (.bool true)) γ1 else g γ1
def notV (f : Fn Sl) : Fn Sl := fun γ => (boolS f γ).bind fun b γ1 => .ok (.d (.bool (!b))) γ1
theorem bool_thn {f : Fn Sl} {k : Bool → Fn Sl} {Q : VK} (h : tE c (fun γ => (boolS f γ).bind k) σ H Q) (step : ∀ (b : Bool) H1, tE c (k b) σ H1 Q → ∀ (v : V), v = .bl b → Q' v H1) : tE c f σ H Q' := by
  have h : tE c (fun γ => (f γ).bind fun s γ1 => (match s with
    | .d (.bool b) => RE.ok b γ1
    | _ => .bad).bind k) σ H Q := by
    obtain ⟨B, og, γ, E, h⟩ := h
    refine ⟨B, og, γ, E, ?_⟩
    unfold tGat boolS at h
    unfold tGat
    dsimp only at h ⊢
    cases e : f γ with
    | ok s γ1 => rw [e] at h; exact h
    | ex z γ1 => rw [e] at h; exact h
    | bad => rw [e] at h; exact h
  refine tG.thn h fun B og x γ0 γ1 v H1 og1 on E0 l E1 q1 hn kk => ?_
  cases x with
  | d x =>
    cases x with
    | bool b => cases q1.1.2; exact step b H1 ⟨B, og1, γ1, E1, kk⟩ _ rfl
    | _ => exact kk.elim
  | _ => exact kk.elim
variable {f h : Fn Sl}
theorem pe_one' {op} (ha : PE X a (tE c f)) : PE X (.BoolOp op [a] pos) (tE c f) := pe_one ha
theorem pe_and' (ha : PE X a (tE c f)) (hb : PE X (.BoolOp .And (b :: rest) pos) (tE c h)) : PE X (.BoolOp .And (a :: b :: rest) pos) (tE c (andV f h)) :=
  PE_imp (pe_and ha hb) fun σ H Q q => bool_thn q fun b H1 k v hv => ⟨b, hv, by
    cases b with
    | true => exact k
    | false => obtain ⟨B, og, γ, E, k⟩ := k; exact k.fin .refl E ⟨⟨rfl, rfl⟩, nofun⟩ nofun⟩
theorem pe_or' (ha : PE X a (tE c f)) (hb : PE X (.BoolOp .Or (b :: rest) pos) (tE c h)) : PE X (.BoolOp .Or (a :: b :: rest) pos) (tE c (orV f h)) :=
  PE_imp (pe_or ha hb) fun σ H Q q => bool_thn q fun b H1 k v hv => ⟨b, hv, by
    cases b with
    | false => exact k
    | true => obtain ⟨B, og, γ, E, k⟩ := k; exact k.fin .refl E ⟨⟨rfl, rfl⟩, nofun⟩ nofun⟩
theorem pe_not' (ha : PE X a (tE c f)) : PE X (.UnaryOp .Not a pos) (tE c (notV f)) :=
  PE_imp (pe_not ha) fun σ H Q q => bool_thn q fun b H1 k v hv => ⟨b, hv, by
    obtain ⟨B, og, γ, E, k⟩ := k; exact k.fin .refl E ⟨⟨rfl, rfl⟩, nofun⟩ nofun⟩
def ifV (t : Fn Bool) (f h : Fn Sl) : Fn Sl := fun γ => (t γ).bind fun b γ1 => if b = true then f γ1 else h γ1
theorem pe_if' {t' : Expr} (ht : PT X t' (tT c t)) (ha : PE X a (tE c f)) (hb : PE X b (tE c h)) : PE X (.IfExp t' a b pos) (tE c (ifV t f h)) :=
  PE_imp (pe_ifExp ht ha hb) fun σ H Q q => by
    refine tG.thn q fun B og x γ0 γ1 v H1 og1 on E0 l E1 q1 hn k => ?_
    cases q1.2
    cases x with
    | true => exact ⟨B, og1, γ1, E1, k⟩
    | false => exact ⟨B, og1, γ1, E1, k⟩

end
end Eg
end
section
/-! E6: chains, arguments, displays, subscripts, calls of built-ins -/
namespace Eg
open PySem PySem.Spec L2
open PyProof.Rows hiding St
section
variable {c : Cc} {H H1 H2 H' : Hp} {B S : AP} {og og1 og2 og' : Og} {σ : St} {γ : Env} {X : Cx} {e a b d : Expr} {pos : Pos} {es rest : List Expr}
variable {fa fb fc : Fn AV} {g g' : D → D → R Sl}

/-! ### chains a < b < c: of bools -/
def okB (r : R Sl) : Fn Bool := fun γ => match r with
  | .ok (.d (.bool b)) => .ok b γ
  | _ => .bad
def chS (g g' : D → D → R Sl) (fa fb fc : Fn AV) : Fn Sl := fun γ => (fa γ).bind fun x γ1 => (fb γ1).bind fun y γ2 =>
  match (getA γ2 x).bind fun d => (getA γ2 y).bind (g d) with
  | .ok (.d (.bool true)) => (fc γ2).bind fun z γ3 => prim ((getA γ3 y).bind fun d => (getA γ3 z).bind (g' d)) γ3
  | .ok (.d (.bool false)) => .ok (.d (.bool false)) γ2
  | _ => .bad
theorem ch_core {Q : VK} (h : tE c (chS g g' fa fb fc) σ H Q) : tChain (rP c.K g) (rP c.K g') (tO c fa) (tO c fb) (tO c fc) σ H Q := by
  refine tG.thn h fun B og x γ0 γ1 v H1 og1 on E0 l E1 q1 hn k => ?_
  refine ⟨B, og1, γ1, E1, tGat.thn k fun y γ2 u H2 og2 on2 l2 E2 q2 hn2 k2 => ?_⟩
  have q1' := AVR.later E1 l2 q1.2
  unfold tGat at k2
  dsimp only at k2
  cases ex : getA γ2 x with
  | ex z => rw [ex] at k2; exact k2.elim
  | bad => rw [ex] at k2; exact k2.elim
  | ok d =>
    cases ey : getA γ2 y with
    | ex z => rw [ex, ey] at k2; exact k2.elim
    | bad => rw [ex, ey] at k2; exact k2.elim
    | ok e =>
      rw [ex, ey] at k2
      refine ⟨_, d, e, getA_top E2 q1' ex, getA_top E2 q2.2 ey, ?_⟩
      dsimp only [R.bind] at k2
      cases eg : g d e with
      | ex z => rw [eg] at k2; exact k2.elim
      | bad => rw [eg] at k2; exact k2.elim
      | ok s =>
        rw [eg] at k2
        cases s with
        | d x' =>
          cases x' with
          | bool b' =>
            intro v3 H3 on3 hm vr hn3
            cases vr.2
            refine ⟨b', rfl, ?_⟩
            cases b' with
            | false => exact k2 _ H3 og2 [] (Later.more hm) (E2.more hm) ⟨⟨rfl, rfl⟩, nofun⟩ nofun
            | true =>
              have k3 : tGat c (relE c) B og2 (fun γ2 => (fc γ2).bind fun z γ3 => prim ((getA γ3 y).bind fun d => (getA γ3 z).bind (g' d)) γ3) σ H2 γ2 Q := k2
              have k4 := k3.shift (Later.more hm)
              refine ⟨B, og2, γ2, E2.more hm, tGat.thn k4 fun z γ4 w H4 og4 on4 l4 E4 q4 hn4 k5 => ?_⟩
              have p := prim_fin E4 k5
              have q2' := AVR.later E2 ((Later.more hm).trans l4) q2.2
              cases ex2 : getA γ4 y with
              | ex z => rw [ex2] at p; exact p.elim
              | bad => rw [ex2] at p; exact p.elim
              | ok d2 =>
                cases ey2 : getA γ4 z with
                | ex z => rw [ex2, ey2] at p; exact p.elim
                | bad => rw [ex2, ey2] at p; exact p.elim
                | ok e2 =>
                  rw [ex2, ey2] at p
                  exact ⟨_, d2, e2, getA_top E4 q2' ex2, getA_top E4 q4.2 ey2, p⟩
          | _ => exact k2.elim
        | _ => exact k2.elim
theorem pe_ch {op op' : CmpOp} (G : Base X c) (ho : OpR X (compareOp op) (rP X.K g)) (ho' : OpR X (compareOp op') (rP X.K g')) (ha : PE X a (tO c fa)) (hb : PE X b (tO c fb)) (hd : PE X d (tO c fc))
    (hm : lastMarks [op, op'] [b, d] = false := by with_unfolding_all rfl) : PE X (.Compare a [op, op'] [b, d] pos) (tE c (chS g g' fa fb fc)) :=
  PE_imp (pe_chain ho ho' ha hb hd hm) fun σ H Q h => by rw [G.k]; exact ch_core h
theorem pt_ch {op op' : CmpOp} (G : Base X c) (ho : OpR X (compareOp op) (rP X.K g)) (ho' : OpR X (compareOp op') (rP X.K g')) (ha : PE X a (tO c fa)) (hb : PE X b (tO c fb)) (hd : PE X d (tO c fc))
    (hm : lastMarks [op, op'] [b, d] = false := by with_unfolding_all rfl) : PT X (.Compare a [op, op'] [b, d] pos) (tT c (boolS (chS g g' fa fb fc))) :=
  PT_imp (pt_chain ho ho' ha hb hd hm) fun σ H Q h => by rw [G.k]; exact ch_core (bool_core h)

/-! ### lists of arguments -/
def nilF {α : Type} : Fn (List α) := fun γ => .ok [] γ
def consF {α : Type} (f : Fn α) (fr : Fn (List α)) : Fn (List α) := fun γ => (f γ).bind fun x γ1 => (fr γ1).bind fun xs γ2 => .ok (x :: xs) γ2
theorem po_nil : PA X [] (tOs c nilF) := PA_imp pa_nil fun σ H Q ⟨B, og, γ, E, k⟩ => k [] H og [] .refl E ⟨rfl, rfl⟩ nofun
theorem po_cons {f : Fn AV} {fr : Fn (List AV)} (ha : PE X e (tO c f)) (hr : PA X es (tOs c fr)) (hs : starEach (e :: es) X.env = (false, eval e X.env) :: starEach es X.env := by rfl) : PA X (e :: es) (tOs c (consF f fr)) :=
  PA_imp (pa_cons ha hr hs) fun σ H Q h => by
    refine tG.thn h fun B og x γ0 γ1 v H1 og1 on E0 l E1 q1 hn k => ?_
    refine ⟨B, og1, γ1, E1, tGat.thn k fun xs γ2 vs H2 og2 on2 l2 E2 q2 hn2 k2 => ?_⟩
    exact k2.fin .refl E2 ⟨rfl, v, vs, rfl, AVR.later E1 l2 q1.2, q2.2⟩ nofun
theorem pl_nil : PA X [] (tDs c nilF) := PA_imp pa_nil fun σ H Q ⟨B, og, γ, E, k⟩ => k [] H og [] .refl E ⟨rfl, rfl⟩ nofun
theorem pl_cons {f : Fn D} {fr : Fn (List D)} (ha : PE X e (tD c f)) (hr : PA X es (tDs c fr)) (hs : starEach (e :: es) X.env = (false, eval e X.env) :: starEach es X.env := by rfl) : PA X (e :: es) (tDs c (consF f fr)) :=
  PA_imp (pa_cons ha hr hs) fun σ H Q h => by
    refine tG.thn h fun B og x γ0 γ1 v H1 og1 on E0 l E1 q1 hn k => ?_
    refine ⟨B, og1, γ1, E1, tGat.thn k fun xs γ2 vs H2 og2 on2 l2 E2 q2 hn2 k2 => ?_⟩
    exact k2.fin .refl E2 ⟨rfl, v, vs, rfl, Rp.frame (Later.fr E1 l2) _ _ q1.2, q2.2⟩ nofun
/-! ### displays -/
def tupF (f : Fn (List D)) : Fn Sl := fun γ => (f γ).bind fun ds γ1 => if ds.length ≤ sizeLine then .ok (.d (.tuple ds)) γ1 else .bad
def lstF (f : Fn (List D)) : Fn Sl := fun γ => (f γ).bind fun ds γ1 => if ds.length ≤ sizeLine then .ok (.w (.l ds)) γ1 else .bad
variable {f : Fn (List D)}
theorem VRK.tup {K : PySem.W.Frag} {p : Addr} {ds : List D} {xs : List V} (hp : H p = none) (r : RpA K H S ds xs) : VRK K (upd H p (.tup xs)) S (.d (.tuple ds)) (.ref p) [] :=
  ⟨rfl, p, xs, rfl, .inl (.inl upd_same), RpA.frame (Fr0.more (same_upd hp)) _ _ r⟩
theorem VRK.lst {K : PySem.W.Frag} {p : Addr} {ds : List D} {xs : List V} (hp : H p = none) (r : RpA K H S ds xs) : VRK K (upd H p (.lst xs)) S (.w (.l ds)) (.ref p) [p] :=
  ⟨p, rfl, ⟨rfl, xs, upd_same, RpA.frame (Fr0.new hp) _ _ r⟩, List.nodup_cons.mpr ⟨nofun, List.nodup_nil⟩⟩
theorem pe_tup' {x1} (h : PA X es (tDs c f)) : PE X (.Tuple es x1 pos) (tE c (tupF f)) := PE_imp (pe_tup h) fun σ H Q q => by
  refine tG.thn q fun B og ds γ0 γ1 vs H1 og1 on E0 l E1 q1 hn k => ?_
  unfold tGat at k
  dsimp only at k
  have q2 := q1.2
  by_cases hl : ds.length ≤ sizeLine
  · rw [if_pos hl] at k
    exact ⟨by rw [q2.len]; exact hl, fun p hp => k _ _ og1 [] (Later.more (same_upd hp)) (E1.more (same_upd hp)) ⟨VRK.tup hp q2, nofun⟩ nofun⟩
  · rw [if_neg hl] at k; exact k.elim
theorem pe_lst' (h : PA X es (tDs c f)) : PE X (.List es pos) (tE c (lstF f)) := PE_imp (pe_lst h) fun σ H Q q => by
  refine tG.thn q fun B og ds γ0 γ1 vs H1 og1 on E0 l E1 q1 hn k => ?_
  unfold tGat at k
  dsimp only at k
  have q2 := q1.2
  by_cases hl : ds.length ≤ sizeLine
  · rw [if_pos hl] at k
    refine ⟨by rw [q2.len]; exact hl, fun p hp => ?_⟩
    have hf : ∀ b ∈ [p], H1 b = none := fun b hb => by cases List.mem_singleton.mp hb; exact hp
    exact k _ _ og1 [p] (Later.more (same_upd hp)) (E1.fresh (same_upd hp) hf fun b hb => VRK.there (VRK.lst (S := Sx B og1) hp q2) hb) ⟨VRK.lst hp q2, fun b hb => E1.notS (hf b hb)⟩ hf
  · rw [if_neg hl] at k; exact k.elim
/-! ### calls of built-ins -/
def getAs (γ : Env) : List AV → R (List D)
  | [] => .ok []
  | a :: as => (getA γ a).bind fun d => (getAs γ as).bind fun ds => .ok (d :: ds)
theorem getAs_top (E : EnvR c H B og σ γ) : ∀ {xs : List AV} {vs : List V} {ds : List D}, AVRs c H (Sx B og) σ xs vs → getAs γ xs = .ok ds → RpTs c.K H (Sx B og) ds vs
  | [], _, _, h, e => by cases e; exact h
  | a :: as, _, ds, ⟨v, r, e0, h1, h2⟩, e => by
    unfold getAs at e
    cases e1 : getA γ a with
    | ex z => rw [e1] at e; cases e
    | bad => rw [e1] at e; cases e
    | ok d =>
      rw [e1] at e
      dsimp only [R.bind] at e
      cases e2 : getAs γ as with
      | ex z => rw [e2] at e; cases e
      | bad => rw [e2] at e; cases e
      | ok r' =>
        rw [e2] at e
        cases e
        exact ⟨v, r, e0, getA_top E h1 e1, getAs_top E h2 e2⟩
def callP (g : List D → R Sl) (fs : Fn (List AV)) : Fn Sl := fun γ => (fs γ).bind fun as γ1 => prim ((getAs γ1 as).bind g) γ1
theorem callP_core {g : List D → R Sl} {fs : Fn (List AV)} {Q : VK} (h : tE c (callP g fs) σ H Q) : tCB (rPs c.K g) (tOs c fs) σ H Q := by
  refine tG.thn h fun B og as γ0 γ1 vs H1 og1 on E0 l E1 q1 hn k => ?_
  have p := prim_fin E1 k
  cases e : getAs γ1 as with
  | ex z => rw [e] at p; exact p.elim
  | bad => rw [e] at p; exact p.elim
  | ok ds => rw [e] at p; exact ⟨_, ds, getAs_top E1 q1.2 e, p⟩
variable {x : Str} {p : Pos} {fs : Fn (List AV)} {id T : String} {h : List D → R Sl}
theorem pe_blt (G : Base X c) (hc : CallR X (.builtin id) (rPs X.K h)) (hg : Gl X x) (hm : X.mg x = none) (hv : bootBuiltins x = some (.builtin id)) (ha : PA X (e :: es) (tOs c fs)) (hn : x ≠ "__name__" := by decide) (hdb : (x == ("__debug__" : Str)) = false := by decide)
    (he : starEach (e :: es) X.env = (false, eval e X.env) :: starEach es X.env := by rfl) (hpl : (backTo pos (starEach es X.env)).any (·.1) = false := by rfl) : PE X (.Call (.Name x p) (e :: es) [] pos) (tE c (callP h fs)) :=
  PE_imp (pe_callB hc hg hm hv ha hn hdb he hpl) fun σ H Q q => by rw [G.k]; exact callP_core q
theorem pe_blty (G : Base X c) (hc : CallR X (.type T) (rPs X.K h)) (hg : Gl X x) (hm : X.mg x = none) (hv : bootBuiltins x = some (.type T)) (ha : PA X (e :: es) (tOs c fs)) (hn : x ≠ "__name__" := by decide) (hdb : (x == ("__debug__" : Str)) = false := by decide)
    (he : starEach (e :: es) X.env = (false, eval e X.env) :: starEach es X.env := by rfl) (hpl : (backTo pos (starEach es X.env)).any (·.1) = false := by rfl) : PE X (.Call (.Name x p) (e :: es) [] pos) (tE c (callP h fs)) :=
  PE_imp (pe_callTy hc hg hm hv ha hn hdb he hpl) fun σ H Q q => by rw [G.k]; exact callP_core q
theorem pe_bltf (G : Base X c) (hc : CallR X (.builtin id) (rPs X.K h)) (hg : Gl X x) (hm : X.mg x = some (.builtin id)) (ha : PA X (e :: es) (tOs c fs)) (hdb : (x == ("__debug__" : Str)) = false := by decide)
    (he : starEach (e :: es) X.env = (false, eval e X.env) :: starEach es X.env := by rfl) (hpl : (backTo pos (starEach es X.env)).any (·.1) = false := by rfl) : PE X (.Call (.Name x p) (e :: es) [] pos) (tE c (callP h fs)) :=
  PE_imp (pe_callBfun hc hg hm ha hdb he hpl) fun σ H Q q => by rw [G.k]; exact callP_core q

/-! ### subscripts -/
def toKey : D → Option L2.Key
  | .int i => some (.inl i)
  | .str x => some (.inr x)
  | _ => none
def isKey (q : L2.Key) (d : D) : Bool := match toKey d with
  | some k => decide (k = q)
  | none => false
def lookD (kvs : List (D × D)) (q : L2.Key) : Option D := (kvs.find? fun p => isKey q p.1).map (·.2)
theorem toKey_key (q : L2.Key) : toKey (keyD q) = some q := by cases q <;> rfl
theorem toKey_inv : ∀ {d : D} {q : L2.Key}, toKey d = some q → d = keyD q
  | .int i, q, h => by cases h; rfl
  | .str x, q, h => by cases h; rfl
  | .none, _, h => nomatch h
  | .bool _, _, h => nomatch h
  | .list _, _, h => nomatch h
  | .tuple _, _, h => nomatch h
  | .dict _, _, h => nomatch h
theorem RpK.look {K : PySem.W.Frag} (q : L2.Key) : ∀ {kvs : List (D × D)} {ks : List (L2.Key × V)}, RpK K H S kvs ks →
    (∃ d v, lookD kvs q = some d ∧ valV ks q = some v ∧ Rp K H S d v) ∨ (lookD kvs q = none ∧ valV ks q = none)
  | [], _, h => by cases h; exact .inr ⟨rfl, rfl⟩
  | (k, d) :: r, _, ⟨q', v, rs, e, hk, h1, h2⟩ => by
    subst e hk
    by_cases hq : q' = q
    · subst hq
      refine .inl ⟨d, v, ?_, ?_, h1⟩
      · unfold lookD isKey; rw [List.find?_cons]; simp [toKey_key]
      · exact valV_pos rfl
    · have e1 : lookD ((keyD q', d) :: r) q = lookD r q := by unfold lookD isKey; rw [List.find?_cons]; simp [toKey_key, hq]
      rw [e1, valV_neg (p := (q', v)) hq]
      exact RpK.look q h2
def ixD : D → D → R Sl
  | .list ds, .int i => match atI ds i with
    | some d => .ok (.d d)
    | none => .bad
  | .tuple ds, .int i => match atI ds i with
    | some d => .ok (.d d)
    | none => .bad
  | .str z, .int i => if z.length ≤ sizeLine then match atI z.cps.toList i with
    | some ch => .ok (.d (.str ⟨#[ch]⟩))
    | none => .bad
    else .bad
  | .dict kvs, k => match (toKey k).bind (lookD kvs) with
    | some d => .ok (.d d)
    | none => .bad
  | _, _ => .bad
theorem RpA.at {K : PySem.W.Frag} {ds : List D} {xs : List V} {i : Int} {d : D} (r : RpA K H S ds xs) (h : atI ds i = some d) : ∃ v, atI xs i = some v ∧ Rp K H S d v := by
  unfold atI at h ⊢
  rw [r.len]
  cases e : ixN ds.length i with
  | none => rw [e] at h; cases h
  | some j => rw [e] at h; exact r.get h
theorem ix_dataD (hu : X.A.units + 1 < cLine) : IxR X (rP X.K ixD) := by
  intro value slice pins s σ H x y v u Q I rx ry h hs
  obtain ⟨S, d, e, hx, hy, p⟩ := h
  cases d with
  | list ds =>
    cases e <;> try exact p.elim
    cases hy
    obtain ⟨a, xs, rfl, ha, r⟩ := hx
    unfold ixD at p
    dsimp only at p
    split at p
    · rename_i d hd
      obtain ⟨w, e1, e2⟩ := r.at hd
      exact ix_list value slice pins s σ H _ _ v u Q I rx ry ⟨a, xs, _, w, rfl, rfl, .inl (.inl ha), e1, p.flat e2⟩ hs
    · exact p.elim
  | tuple ds =>
    cases e <;> try exact p.elim
    cases hy
    obtain ⟨a, xs, rfl, ha, r⟩ := hx
    unfold ixD at p
    dsimp only at p
    split at p
    · rename_i d hd
      obtain ⟨w, e1, e2⟩ := r.at hd
      exact ix_tup value slice pins s σ H _ _ v u Q I rx ry ⟨a, xs, _, w, rfl, rfl, ha, e1, p.flat e2⟩ hs
    · exact p.elim
  | str z =>
    cases e <;> try exact p.elim
    cases hx
    cases hy
    obtain ⟨hl, p⟩ := PPost.ite p
    split at p
    · rename_i ch hd
      exact ix_str value slice pins s σ H _ _ v u Q I rx ry ⟨z, _, ch, rfl, rfl, hl, hd, p.flat rfl⟩ hs
    · exact p.elim
  | dict kvs =>
    obtain ⟨a, ks, rfl, ha, r⟩ := hx
    have p : PPost X.K H S (match (toKey e).bind (lookD kvs) with
      | some d => R.ok (Sl.d d)
      | none => R.bad) Q := p
    cases hk : toKey e with
    | none => rw [hk] at p; exact p.elim
    | some q =>
      rw [hk] at p
      dsimp only [Option.bind] at p
      have ey := toKey_inv hk
      have hy' : y = kV q := by
        subst ey
        cases q with
        | inl i => exact hy
        | inr z => exact hy
      rcases RpK.look (K := X.K) q r with ⟨d, w, e1, e2, e3⟩ | ⟨e1, e2⟩
      · rw [e1] at p
        subst hy'
        obtain rfl : v = Value.ref a := rx
        have g : DGet H a (kV q) (some w) := by rw [← e2]; exact .inl ⟨_, _, ha, rfl, rfl⟩
        exact tail_any (dict_typeIs I g) PySem.F.slot_dict_getitem.lookup (d_getItem hu I g ry fun w' s' I' rw' => ⟨w, H, I', rw', p.flat e3⟩) hs
      · rw [e1] at p; exact p.elim
  | _ => exact p.elim
theorem pe_ix' (G : Base X c) (ha : PE X a (tO c fa)) (hb : PE X b (tO c fb)) (hs : PlainIx b) : PE X (.Subscript a b pos) (tE c (op2 ixD fa fb)) :=
  PE_imp (pe_ix (ix_dataD (by have := G.un; omega)) ha hb hs) fun σ H Q h => by rw [G.k]; exact op2_core h
/-- x in y -/
def flatD : D → Bool
  | .none => true
  | .bool _ => true
  | .int _ => true
  | .str _ => true
  | _ => false
def inDs (d : D) (ds : List D) : Bool := ds.any fun e => PyData.eqv e d
end
end Eg
end
section
/-! E7: statements -/
namespace Eg
open PySem PySem.Spec L2
open PyProof.Rows hiding St

inductive Fl where
  | nx | rt (r : Sl) | bk | ct
section
variable {c : Cc} {H H1 H2 H' : Hp} {B S : AP} {og og1 og2 og' : Og} {σ σ1 : St} {γ γ1 : Env} {X : Cx} {e a b : Expr} {pos : Pos} {st : Stmt} {rest : List Stmt}

def FlPost (c : Cc) (B : AP) (og : Og) (H : Hp) (fl : Fl) (γ' : Env) (D : Ends) : Prop := match fl with
  | .nx => ∀ σ' H' og', Later og og' H H' → EnvR c H' B og' σ' γ' → D.nx σ' H'
  | .bk => ∀ σ' H' og', Later og og' H H' → EnvR c H' B og' σ' γ' → D.bk σ' H'
  | .ct => ∀ σ' H' og', Later og og' H H' → EnvR c H' B og' σ' γ' → D.ct σ' H'
  | .rt r => ∀ v σ' H' og' on, Later og og' H H' → EnvR c H' (Bx B on) og' σ' γ' → VRK c.K H' (Sx B og') r v on → (∀ a ∈ on, ¬ Sx B og' a ∧ c.H0 a = none) → D.rt v H'
def tSat (c : Cc) (B : AP) (og : Og) (f : Fn Fl) (D : Ends) (H : Hp) (γ : Env) : Prop := match f γ with
  | .ok fl γ' => FlPost c B og H fl γ' D
  | .ex e γ' => ∀ cls dx σ' H', ExR c e cls dx H' → Later og (fun _ => []) H H' → EnvR c H' B (fun _ => []) σ' (lose γ') → c.W cls dx σ' H'
  | .bad => False
def tS (c : Cc) (f : Fn Fl) : TS := fun D σ H => ∃ B og γ, EnvR c H B og σ γ ∧ tSat c B og f D H γ
theorem FlPost.shift {fl : Fl} {γ' : Env} {D : Ends} (h : FlPost c B og H fl γ' D) (l : Later og og1 H H1) : FlPost c B og1 H1 fl γ' D := by
  cases fl with
  | nx => exact fun σ' H' og' l' E => h σ' H' og' (l.trans l') E
  | bk => exact fun σ' H' og' l' E => h σ' H' og' (l.trans l') E
  | ct => exact fun σ' H' og' l' E => h σ' H' og' (l.trans l') E
  | rt r => exact fun v σ' H' og' on l' E q n => h v σ' H' og' on (l.trans l') E q n
theorem tSat.shift {f : Fn Fl} {D : Ends} (h : tSat c B og f D H γ) (l : Later og og1 H H1) : tSat c B og1 f D H1 γ := by
  unfold tSat at h ⊢
  split at h
  · exact h.shift l
  · exact fun cls dx σ' H' r l' E' => h cls dx σ' H' r (l.trans l') E'
  · exact h

/-- an expression, then what a statement does with it -/
theorem tSat.thn {δ ε : Type} {rela : Rel δ ε} {fa : Fn δ} {k : δ → Fn Fl} {D : Ends} {Q' : ε → Hp → Prop} (E : EnvR c H B og σ γ)
    (h : tSat c B og (fun γ => (fa γ).bind k) D H γ)
    (step : ∀ r γ1 v H1 og1 on, Later og og1 H H1 → EnvR c H1 B og1 σ γ1 → rela H1 (Sx B og1) σ r v on → ((∀ a ∈ on, H a = none) ∧ EnvR c H1 (Bx B on) og1 σ γ1) → tSat c B og (k r) D H γ1 → Q' v H1) :
    tGat c rela B og fa σ H γ Q' := by
  unfold tSat at h
  unfold tGat
  dsimp only at h
  cases e : fa γ with
  | bad => rw [e] at h; exact h
  | ex x γ1 => rw [e] at h; exact fun cls dx H' r l E' => h cls dx σ H' r l E'
  | ok r γ1 =>
    rw [e] at h
    intro v H1 og1 on l E1 q1 hn
    exact step r γ1 v H1 og1 on l E1.drop q1 ⟨hn, E1⟩ h
theorem tS.thn {δ ε : Type} {rela : Rel δ ε} {fa : Fn δ} {k : δ → Fn Fl} {D : Ends} {Q' : ε → Hp → Prop} (h : tS c (fun γ => (fa γ).bind k) D σ H)
    (step : ∀ B og r γ0 γ1 v H1 og1 on, EnvR c H B og σ γ0 → Later og og1 H H1 → EnvR c H1 B og1 σ γ1 → rela H1 (Sx B og1) σ r v on → ((∀ a ∈ on, H a = none) ∧ EnvR c H1 (Bx B on) og1 σ γ1) → tSat c B og (k r) D H γ1 → Q' v H1) :
    tG c rela fa σ H Q' := by
  obtain ⟨B, og, γ, E, h⟩ := h
  exact ⟨B, og, γ, E, tSat.thn E h fun r γ1 v H1 og1 on => step B og r γ γ1 v H1 og1 on E⟩

/-! ### blocks -/
def seqS (f g : Fn Fl) : Fn Fl := fun γ => (f γ).bind fun fl γ1 => match fl with
  | .nx => g γ1
  | x => .ok x γ1
def skipS : Fn Fl := fun γ => .ok .nx γ
theorem pss_nil' : PSs X [] (tS c skipS) := PSs_imp pss_nil fun D σ H ⟨B, og, γ, E, h⟩ => h σ H og .refl E
theorem ps_pass' : PS X (.Pass pos) (tS c skipS) := PS_imp ps_pass fun D σ H ⟨B, og, γ, E, h⟩ => h σ H og .refl E
theorem ps_break' : PS X (.Break pos) (tS c (fun γ => .ok .bk γ)) := PS_imp ps_break fun D σ H ⟨B, og, γ, E, h⟩ => h σ H og .refl E
theorem ps_cont' : PS X (.Continue pos) (tS c (fun γ => .ok .ct γ)) := PS_imp ps_continue fun D σ H ⟨B, og, γ, E, h⟩ => h σ H og .refl E
theorem pss_cons' {f g : Fn Fl} (h1 : PS X st (tS c f)) (h2 : PSs X rest (tS c g)) : PSs X (st :: rest) (tS c (seqS f g)) := PSs_imp (pss_cons h1 h2) fun D σ H ⟨B, og, γ, E, h⟩ => by
  refine ⟨B, og, γ, E, ?_⟩
  unfold tSat seqS at h
  unfold tSat
  cases e : f γ with
  | bad => rw [e] at h; exact h
  | ex x γ1 => rw [e] at h; exact h
  | ok fl γ1 =>
    rw [e] at h
    cases fl with
    | nx => exact fun σ' H' og' l E' => ⟨B, og', γ1, E', tSat.shift (f := g) h l⟩
    | bk => exact h
    | ct => exact h
    | rt r => exact h
theorem pss_one' {f : Fn Fl} (h1 : PS X st (tS c f)) : PSs X [st] (tS c f) := pss_one h1

/-! ### return, expressions -/
def retS (f : Fn Sl) : Fn Fl := fun γ => (f γ).bind fun r γ1 => .ok (.rt r) γ1
theorem ps_ret' {f : Fn Sl} (he : PE X e (tE c f)) : PS X (.Return (some e) pos) (tS c (retS f)) := PS_imp (ps_ret he) fun D σ H h =>
  tS.thn h fun B og r γ0 γ1 v H1 og1 on E0 l E1 q1 hn k => k v σ H1 og1 on l hn.2 q1.1 fun a ha => ⟨q1.2 a ha, E0.fresh0 (hn.1 a ha)⟩
theorem ps_retN' : PS X (.Return none pos) (tS c (fun γ => .ok (.rt (.d .none)) γ)) := PS_imp ps_retN fun D σ H ⟨B, og, γ, E, h⟩ => h .non σ H og [] .refl E ⟨rfl, rfl⟩ nofun
theorem EnvR.gone (E : EnvR c H B og σ γ) {i : Nat} {sv : Option V} (hi : i < γ.length) : EnvR c H (Bx B (og i)) (og.at i []) (σ.set i sv) (γ.set i .no) := by
  have F : Fr0 H H (Sx B og) (Sx (Bx B (og i)) (og.at i [])) (fun _ => False) := ⟨.refl, nofun, fun a z => .inl (by
    rcases z with z | z
    · exact (Bx_iff.mp z).imp id fun z => ⟨i, z⟩
    · exact .inr (Og.at_nil_sub z))⟩
  have sub : ∀ j a, a ∈ og.at i [] j → a ∈ og j ∧ j ≠ i := fun j a z => by
    unfold Og.at at z
    split at z
    · cases z
    · rename_i h; exact ⟨z, h⟩
  refine ⟨E.tb, by simpa using E.len, fun j hj => ?_, fun j => ?_, fun j k a h1 h2 => E.dj j k a (sub j a h1).1 (sub k a h2).1, fun j a h z => ?_, fun a h => ?_, E.ent, E.grow, fun j t e => ?_⟩
  · rw [List.length_set] at hj
    unfold Og.at
    rw [if_neg (by omega)]
    exact E.out j hj
  · unfold Og.at
    split
    · exact List.nodup_nil
    · exact E.nd j
  · obtain ⟨h1, h2⟩ := sub j a h
    rcases Bx_iff.mp z with z | z
    · exact E.nb j a h1 z
    · exact h2 (E.dj j i a h1 z)
  · rcases Bx_iff.mp h with h | h
    · exact E.bl a h
    · exact (E.mu h).ne
  · by_cases hj : j = i
    · subst hj
      rw [List.getElem?_set_self hi] at e
      cases e
      show og.at j [] j = []
      unfold Og.at
      rw [if_pos rfl]
    · rw [List.getElem?_set_ne (Ne.symm hj)] at e
      rw [List.getElem?_set_ne (Ne.symm hj)]
      have h3 : og.at i [] j = og j := by unfold Og.at; rw [if_neg hj]
      rw [h3]
      exact (E.sl j t e).frame F fun _ _ z => z
/-- a name is handed back: what was owned goes along -/
def retN (i : Nat) : Fn Fl := fun γ => match γ[i]? with
  | some (.d x) => .ok (.rt (.d x)) γ
  | some (.w m) => .ok (.rt (.w m)) (γ.set i .no)
  | _ => .bad
theorem ps_retName {i : Nat} {x : Str} {p : Pos} (hN : X.N[i]? = some x) (hv : Vis X.env.scope x) (hd : (x == ("__debug__" : Str)) = false := by decide) (hcd : (x == ("__classdict__" : Str)) = false := by decide) : PS X (.Return (some (.Name x p)) pos) (tS c (retN i)) :=
  PS_imp (ps_ret (pe_var hN hv hd hcd)) fun D σ H ⟨B, og, γ, E, h⟩ => by
    unfold tSat retN at h
    cases e : γ[i]? with
    | none => rw [e] at h; exact h.elim
    | some s =>
      rw [e] at h
      have hs := E.sl i s e
      have hv := E.val e
      have hi := (List.getElem?_eq_some_iff.mp e).1
      cases s with
      | no => exact h.elim
      | th r => exact h.elim
      | scr r => exact h.elim
      | io r => exact h.elim
      | d x =>
        obtain ⟨_, v, e2, r⟩ := hs
        rw [e2] at hv
        exact ⟨v, hv, h v σ H og [] .refl E ⟨rfl, r⟩ nofun⟩
      | w m =>
        obtain ⟨a, e2, o, f⟩ := hs
        rw [e2] at hv
        have nS : ∀ b ∈ og i, ¬ Sx B (og.at i []) b := fun b hb z => by
          rcases z with z | ⟨j, z⟩
          · exact E.nb i b hb z
          · unfold Og.at at z
            split at z
            · cases z
            · rename_i hj; exact hj (E.dj j i b z hb)
        have E' := E.gone (sv := some (.ref a)) hi
        have F2 : Fr0 H H (Sx B og) (Bx (Sx B (og.at i [])) (og i)) (fun _ => False) := ⟨.refl, nofun, fun b z => .inl ((Bx_iff.mp z).elim (fun z => z.imp id Og.at_nil_sub) fun z => .inr ⟨i, z⟩)⟩
        exact ⟨_, hv, h (.ref a) (σ.set i (some (.ref a))) H (og.at i []) (og i) ⟨.refl, fun _ h => h, fun a z => .inl (Og.at_nil_sub z)⟩ E' ⟨a, rfl, o.frame F2 fun _ _ z => z, E.nd i⟩ fun b hb => ⟨nS b hb, f b hb⟩⟩
def dropS (f : Fn Sl) : Fn Fl := fun γ => (f γ).bind fun _ γ1 => .ok .nx γ1
theorem ps_expr' {f : Fn Sl} (he : PE X e (tE c f)) (hs : swapsWith e none pos.line X.env = pure false := by rfl) : PS X (.Expr e pos) (tS c (dropS f)) := PS_imp (ps_expr he hs) fun D σ H h =>
  tS.thn h fun B og r γ0 γ1 v H1 og1 on E0 l E1 q1 hn k => k σ H1 og1 l E1

/-! ### name = value -/
def canSet : Sl → Bool
  | .io _ => false
  | .scr _ => false
  | _ => true
def setE (i : Nat) (r : Sl) (γ : Env) : RE Fl := match γ[i]? with
  | some s => if canSet s then .ok .nx (γ.set i r) else .bad
  | none => .bad
def setS (i : Nat) (f : Fn Sl) : Fn Fl := fun γ => (f γ).bind fun r γ1 => setE i r γ1
theorem EnvR.take {i : Nat} {r : Sl} {v : V} {on : List Addr} (hi : i < γ.length) (hn : ∀ a ∈ on, ¬ Sx B og a) (h0 : ∀ a ∈ on, c.H0 a = none) (E : EnvR c H (Bx B on) og σ γ) (q : VRK c.K H (Sx B og) r v on) :
    EnvR c H B (og.at i on) (σ.set i (some v)) (γ.set i r) := by
  have nd : on.Nodup := by
    cases r with
    | d x => rw [q.1]; exact List.nodup_nil
    | w m => obtain ⟨_, _, _, n⟩ := q; exact n
    | _ => exact q.elim
  refine E.put (B := B) hi (fun a z => Bx_iff.mpr (.inl z)) .refl (fun _ h => h) nd (fun a ha => ⟨.inr (Bx_iff.mpr (.inr ha)), fun z => hn a ha (.inl z)⟩) (fun _ _ _ => .inl rfl) id fun F => ?_
  have F' : Fr0 H H (Bx (Sx B og) on) (Sx B (og.at i on)) (fun _ => False) := ⟨.refl, nofun, fun b z => .inl (Bx_iff.mpr (by
    rcases z with z | ⟨j, z⟩
    · exact .inl (.inl z)
    · unfold Og.at at z
      split at z
      · exact .inr z
      · exact .inl (.inr ⟨j, z⟩)))⟩
  cases r with
  | d x =>
    obtain ⟨rfl, r⟩ := q
    exact ⟨rfl, v, rfl, Rp.frame F' _ _ r⟩
  | w m =>
    obtain ⟨a, rfl, o, n⟩ := q
    exact ⟨a, rfl, o.frame F' fun _ _ z => z, h0⟩
  | _ => exact q.elim
theorem set_core {i : Nat} {f : Fn Sl} {D : Ends} (h : tS c (setS i f) D σ H) : tE c f σ H fun x H1 => D.nx (σ.set i (some x)) H1 :=
  tS.thn h fun B og r γ0 γ1 v H1 og1 on E0 l E1 q1 hn k => by
    unfold tSat setE at k
    dsimp only at k
    cases es : γ1[i]? with
    | none => rw [es] at k; exact k.elim
    | some s =>
      rw [es] at k
      dsimp only at k
      split at k
      · rename_i kk
        split at kk
        · cases kk
          have hi' := (List.getElem?_eq_some_iff.mp es).1
          have E2 := EnvR.take hi' q1.2 (fun a ha => E0.fresh0 (hn.1 a ha)) hn.2 q1.1
          refine k _ H1 _ ⟨l.kp, l.gr, fun a ⟨j, z⟩ => ?_⟩ E2
          unfold Og.at at z
          split at z
          · exact .inr (hn.1 a z)
          · exact l.sub a ⟨j, z⟩
        · cases kk
      · rename_i kk; split at kk <;> cases kk
      · exact k.elim
theorem ps_set' {i : Nat} {x : Str} {pos' : Pos} {f : Fn Sl} (G : Base X c) (hi : X.N[i]? = some x) (hx : Loc X.env.scope x) (he : PE X e (tE c f)) (hs : swapsWith e (some (.Name x pos')) pos.line X.env = pure false := by rfl)
    (hf : X.fn x = true ∨ X.env.scope.names.lookup x = some .local := by first | exact .inl rfl | exact .inr rfl | assumption) : PS X (.Assign [.Name x pos'] e pos) (tS c (setS i f)) :=
  PS_imp (ps_set G.nd hi hx he hs hf) fun D σ H h => set_core h
end
end Eg
end
section
/-! E8: if, while, for -/
namespace Eg
open PySem PySem.Spec L2
open PyProof.Rows hiding St
section
variable {c : Cc} {H H1 H2 H' : Hp} {B S : AP} {og og1 og2 og' : Og} {σ σ1 : St} {γ γ1 : Env} {X : Cx} {e a b l : Expr} {pos : Pos} {st : Stmt} {rest body orelse : List Stmt}

/-! ### if -/
def ifS (t : Fn Bool) (f g : Fn Fl) : Fn Fl := fun γ => (t γ).bind fun b γ1 => if b = true then f γ1 else g γ1
theorem ps_if' {t : Fn Bool} {f g : Fn Fl} (ht : PT X e (tT c t)) (h1 : PSs X body (tS c f)) (h2 : PSs X orelse (tS c g)) : PS X (.If e body orelse pos) (tS c (ifS t f g)) :=
  PS_imp (ps_if ht h1 h2) fun D σ H h => tS.thn h fun B og r γ0 γ1 v H1 og1 on E0 l E1 q1 hn k => by
    cases q1.2
    cases r with
    | true => exact ⟨B, og1, γ1, E1, tSat.shift (f := f) k l⟩
    | false => exact ⟨B, og1, γ1, E1, tSat.shift (f := g) k l⟩

/-! ### while -/
/-- so many turns at most -/
def whileS (t : Fn Bool) (f : Fn Fl) : Nat → Fn Fl
  | 0, _ => .bad
  | n + 1, γ => (t γ).bind fun b γ1 => if b = true then (f γ1).bind fun fl γ2 => match fl with
      | .nx => whileS t f n γ2
      | .ct => whileS t f n γ2
      | .bk => .ok .nx γ2
      | .rt r => .ok (.rt r) γ2
    else .ok .nx γ1
theorem ps_while' {t : Fn Bool} {f : Fn Fl} (n : Nat) (hp : PassesOwn (model X.prog X.w) X.A X.env X.xe) (ht : PT X e (tT c t)) (h1 : PSs X body (tS c f)) : PS X (.While e body [] pos) (tS c (whileS t f n)) :=
  PS_imp (ps_while hp ht h1) fun D σ H h => by
    refine ⟨fun m σ H => ∃ B og γ, EnvR c H B og σ γ ∧ tSat c B og (whileS t f m) D H γ, ⟨n, h⟩, ?_⟩
    rintro m σ H ⟨B, og, γ, E, h⟩
    cases m with
    | zero => exact h.elim
    | succ m =>
      have h : tSat c B og (fun γ => (t γ).bind fun b γ1 => if b = true then (f γ1).bind fun fl γ2 => match fl with
        | .nx => whileS t f m γ2
        | .ct => whileS t f m γ2
        | .bk => .ok .nx γ2
        | .rt r => .ok (.rt r) γ2
        else .ok .nx γ1) D H γ := h
      refine ⟨B, og, γ, E, tSat.thn E h fun r γ1 v H1 og1 on l E1 q1 hn k => ?_⟩
      cases q1.2
      have k := tSat.shift k l
      unfold tSat at k
      dsimp only at k
      cases r with
      | false => exact k σ H1 og1 .refl E1
      | true =>
        refine ⟨fun σ H => ∃ B og γ, EnvR c H B og σ γ ∧ tSat c B og (whileS t f m) D H γ, fun σ' H' q => ⟨m, Nat.lt_succ_self _, q⟩, B, og1, γ1, E1, ?_⟩
        unfold tSat
        simp only [if_true] at k
        cases ef : f γ1 with
        | bad => rw [ef] at k; exact k
        | ex x γ2 => rw [ef] at k; exact k
        | ok fl γ2 =>
          rw [ef] at k
          cases fl with
          | nx => exact fun σ' H' og' l' E' => ⟨B, og', γ2, E', tSat.shift (f := whileS t f m) k l'⟩
          | ct => exact fun σ' H' og' l' E' => ⟨B, og', γ2, E', tSat.shift (f := whileS t f m) k l'⟩
          | bk => exact k
          | rt r => exact k

/-! ### targets -/
abbrev Tg := D → Env → Option Env
abbrev Tgs := List D → Env → Option Env
/-- outside ts nothing changes -/
def Out (ts : List Nat) (σ σ' : St) : Prop := σ'.length = σ.length ∧ ∀ j, j ∉ ts → σ'[j]? = σ[j]?
theorem Out.refl {ts : List Nat} {σ : St} : Out ts σ σ := ⟨rfl, fun _ _ => rfl⟩
theorem Out.trans {ts us : List Nat} {σ σ1 σ2 : St} (a : Out ts σ σ1) (b : Out us σ1 σ2) : Out (ts ++ us) σ σ2 := ⟨b.1.trans a.1, fun j h => by
  rw [List.mem_append, not_or] at h
  exact (b.2 j h.2).trans (a.2 j h.1)⟩
def tgS (c : Cc) (ts : List Nat) (t : Tg) : TG := fun v σ H Q => ∃ B og γ d, EnvR c H B og σ γ ∧ Rp c.K H (Sx B og) d v ∧ match t d γ with
  | some γ' => ∀ σ' og', Out ts σ σ' → Later og og' H H → EnvR c H B og' σ' γ' → Q σ' H
  | none => False
def tgsS (c : Cc) (ts : List Nat) (t : Tgs) : TGs := fun vs σ H Q => ∃ B og γ ds, EnvR c H B og σ γ ∧ RpA c.K H (Sx B og) ds vs ∧ match t ds γ with
  | some γ' => ∀ σ' og', Out ts σ σ' → Later og og' H H → EnvR c H B og' σ' γ' → Q σ' H
  | none => False
theorem PG_imp {tg : Expr} {t t' : TG} (h : PG X tg t) (i : ∀ v σ H Q, t' v σ H Q → t v σ H Q) : PG X tg t' := ⟨fun pins s σ H v u Q I r q => h.run pins s σ H v u Q I r (i v σ H Q q)⟩
theorem PGs_imp {tg : List Expr} {t t' : TGs} (h : PGs X tg t) (i : ∀ v σ H Q, t' v σ H Q → t v σ H Q) : PGs X tg t' := ⟨fun pins s σ H v u Q I r q => h.run pins s σ H v u Q I r (i v σ H Q q)⟩
def tgN (i : Nat) : Tg := fun d γ => match γ[i]? with
  | some s => if canSet s then some (γ.set i (.d d)) else none
  | none => none
theorem Later.at_nil {i : Nat} : Later og (og.at i []) H H := ⟨.refl, fun _ h => h, fun _ z => .inl (Og.at_nil_sub z)⟩
theorem pg_name' {i : Nat} {x : Str} (G : Base X c) (hi : X.N[i]? = some x) (hx : Loc X.env.scope x) (hf : X.fn x = true ∨ X.env.scope.names.lookup x = some .local := by first | exact .inl rfl | exact .inr rfl | assumption) : PG X (.Name x pos) (tgS c [i] (tgN i)) :=
  PG_imp (pg_name G.nd hi hx hf) fun v σ H Q ⟨B, og, γ, d, E, r, h⟩ => by
    unfold tgN at h
    cases e : γ[i]? with
    | none => rw [e] at h; exact h.elim
    | some s =>
      rw [e] at h
      dsimp only at h
      by_cases kk : canSet s = true
      · rw [if_pos kk] at h
        have E2 := EnvR.take (on := []) (r := .d d) (v := v) (List.getElem?_eq_some_iff.mp e).1 nofun nofun E ⟨rfl, r⟩
        exact h _ _ ⟨List.length_set, fun j hj => List.getElem?_set_ne fun z => hj (by rw [z]; exact List.mem_singleton.mpr rfl)⟩ Later.at_nil E2
      · rw [if_neg kk] at h; exact h.elim
def tgNil : Tgs := fun ds γ => match ds with
  | [] => some γ
  | _ => none
def tgCons (t : Tg) (u : Tgs) : Tgs := fun ds γ => match ds with
  | d :: r => (t d γ).bind fun γ1 => u r γ1
  | [] => none
theorem pgs_nil' : PGs X [] (tgsS c [] tgNil) := PGs_imp pgs_nil fun v σ H Q ⟨B, og, γ, ds, E, r, h⟩ => by
  cases ds with
  | nil => exact ⟨r, h σ og .refl .refl E⟩
  | cons d ds => exact h.elim
theorem pgs_cons' {es : List Expr} {t : Tg} {u : Tgs} {ts us : List Nat} (h1 : PG X e (tgS c ts t)) (h2 : PGs X es (tgsS c us u))
    (hs : (assignEach (e :: es) X.env).map (·.2) = assign e X.env :: (assignEach es X.env).map (·.2) := by rfl) : PGs X (e :: es) (tgsS c (ts ++ us) (tgCons t u)) := PGs_imp (pgs_cons h1 h2 hs) fun vs σ H Q ⟨B, og, γ, ds, E, r, h⟩ => by
  cases ds with
  | nil => exact h.elim
  | cons d ds =>
    obtain ⟨v, r', rfl, r1, r2⟩ := r
    refine ⟨v, r', rfl, B, og, γ, d, E, r1, ?_⟩
    unfold tgCons at h
    dsimp only at h
    cases e1 : t d γ with
    | none => rw [e1] at h; exact h.elim
    | some γ2 =>
      rw [e1] at h
      intro σ' og' o1 l E'
      refine ⟨B, og', γ2, ds, E', RpA.frame (Later.fr E l) _ _ r2, ?_⟩
      dsimp only [Option.bind] at h
      cases e2 : u ds γ2 with
      | none => rw [e2] at h; exact h.elim
      | some γ3 =>
        rw [e2] at h
        exact fun σ2 og2 o2 l2 E2 => h σ2 og2 (o1.trans o2) (l.trans l2) E2
def tgT (n : Nat) (u : Tgs) : Tg := fun d γ => match d with
  | .tuple ds => if ds.length = n then u ds γ else none
  | _ => none
theorem pg_tup' {es : List Expr} {k : Nat} {u : Tgs} {us : List Nat} {n : Nat} (G : Good X c) (h : PGs X es (tgsS c us u))
    (hn : (assignEach es X.env).length = n := by rfl) (hst : (assignEach es X.env).findIdx? (·.1) = none := by rfl) : PG X (.Tuple es k pos) (tgS c us (tgT n u)) := PG_imp (pg_tup G.calm h hn hst) fun v σ H Q ⟨B, og, γ, d, E, r, h⟩ => by
  cases d with
  | tuple ds =>
    obtain ⟨a, xs, rfl, ha, r⟩ := r
    unfold tgT at h
    dsimp only at h
    by_cases hl : ds.length = n
    · rw [if_pos hl] at h
      exact ⟨a, xs, rfl, by rw [G.k]; exact ha, by rw [r.len]; exact hl, B, og, γ, ds, E, r, h⟩
    · rw [if_neg hl] at h; exact h.elim
  | _ => exact h.elim
/-- (a, b) = value -/
def asgS (f : Fn D) (t : Tg) : Fn Fl := fun γ => (f γ).bind fun d γ1 => match t d γ1 with
  | some γ2 => .ok .nx γ2
  | none => .bad
theorem ps_asg' {tg : Expr} {f : Fn D} {t : Tg} {ts : List Nat} (he : PE X e (tD c f)) (hg : PG X tg (tgS c ts t)) (hs : swapsWithSole [tg] e pos.line X.env = pure false := by rfl) (hw : swappedStores [tg] e X.env = pure none := by rfl)
    (h1 : (assignEach [tg] X.env).map (·.2) = [assign tg X.env] := by rfl) : PS X (.Assign [tg] e pos) (tS c (asgS f t)) := PS_imp (ps_asg he hg hs hw h1) fun D σ H h =>
  tS.thn h fun B og r γ0 γ1 v H1 og1 on E0 l E1 q1 hn k => by
    have k := tSat.shift k l
    unfold tSat at k
    dsimp only at k
    refine ⟨B, og1, γ1, r, E1, q1.2, ?_⟩
    cases e1 : t r γ1 with
    | some γ2 => rw [e1] at k; exact fun σ' og' _ l' E' => k σ' H1 og' l' E'
    | none => rw [e1] at k; exact k

/-! ### for -/
/-- what is walked: the items ds, of an iterator J, while P holds -/
structure ItOk (c : Cc) (J : It) (ds : List D) (P : AP → Hp → Prop) : Prop where
  step : ∀ i d H S, P S H → ds[i]? = some d → J.go i H ∧ ∀ x H', J.yld i H x H' → (∀ a o, H a = some o → H' a = some o) ∧ Rp c.K H' S d x
  stop : ∀ H S, P S H → J.stop ds.length H
  keep : ∀ H H' S S' T, P S H → Fr0 H H' S S' T → P S' H'
def forL (t : Tg) (f : Fn Fl) : List D → Fn Fl
  | [], γ => .ok .nx γ
  | d :: ds, γ => match t d γ with
    | none => .bad
    | some γ1 => (f γ1).bind fun fl γ2 => match fl with
      | .nx => forL t f ds γ2
      | .ct => forL t f ds γ2
      | .bk => .ok .nx γ2
      | .rt r => .ok (.rt r) γ2
def forS (src : Fn (List D)) (t : Tg) (f : Fn Fl) : Fn Fl := fun γ => (src γ).bind fun ds γ1 => forL t f ds γ1
/-- an iterator over data -/
def iSrc (c : Cc) (src : Fn (List D)) : TI := fun σ H R => ∃ B og γ, EnvR c H B og σ γ ∧ match src γ with
  | .ok ds γ' => ∀ J H' og' P, Later og og' H H' → EnvR c H' B og' σ γ' → ItOk c J ds P → P (Sx B og') H' → R J H'
  | .ex e γ' => ∀ cls dx H', ExR c e cls dx H' → Later og (fun _ => []) H H' → EnvR c H' B (fun _ => []) σ (lose γ') → c.W cls dx σ H'
  | .bad => False
theorem for_sem {src : Fn (List D)} {t : Tg} {ts : List Nat} {f : Fn Fl} {D : Ends} (h : tS c (forS src t f) D σ H) : tFor (iSrc c src) (tgS c ts t) (tS c f) D σ H := by
    obtain ⟨B, og, γ, E, h⟩ := h
    unfold tSat forS at h
    refine ⟨B, og, γ, E, ?_⟩
    cases es : src γ with
    | bad => rw [es] at h; exact h
    | ex x γ1 => rw [es] at h; exact fun cls dx H' r l E' => h cls dx σ H' r l E'
    | ok ds γ1 =>
      rw [es] at h
      intro J H1 og1 P l1 E1 ok p1
      refine ⟨fun i m σ H => i + m = ds.length ∧ ∃ og γ, EnvR c H B og σ γ ∧ P (Sx B og) H ∧ tSat c B og (forL t f (ds.drop i)) D H γ, ⟨ds.length, by omega, og1, γ1, E1, p1, ?_⟩, ?_⟩
      · exact tSat.shift (f := forL t f (ds.drop 0)) h l1
      · rintro i m σ2 H2 ⟨him, og2, γ2, E2, p2, k⟩
        by_cases hi : i < ds.length
        · have ei : ds[i]? = some ds[i] := List.getElem?_eq_getElem hi
          obtain ⟨go, yl⟩ := ok.step i ds[i] H2 _ p2 ei
          rw [List.drop_eq_getElem_cons hi] at k
          refine .inr ⟨go, fun σ H => ∃ og γ, EnvR c H B og σ γ ∧ P (Sx B og) H ∧ tSat c B og (forL t f (ds.drop (i + 1))) D H γ, fun σ' H' q => ⟨m - 1, by omega, by omega, q⟩, fun x H3 hy => ?_⟩
          obtain ⟨same, r⟩ := yl x H3 hy
          have E3 := E2.more same
          have k := tSat.shift k (Later.more (og := og2) same)
          have p3 := ok.keep _ _ _ _ _ p2 (Fr0.more same)
          refine ⟨B, og2, γ2, ds[i], E3, r, ?_⟩
          unfold tSat forL at k
          cases et : t ds[i] γ2 with
          | none => rw [et] at k; exact k
          | some γ4 =>
            rw [et] at k
            intro σ4 og4 _ l4 E4
            refine ⟨B, og4, γ4, E4, ?_⟩
            unfold tSat
            dsimp only [RE.bind] at k
            cases ef : f γ4 with
            | bad => rw [ef] at k; exact k
            | ex x γ5 => rw [ef] at k; exact fun cls dx σ' H' r l' E' => k cls dx σ' H' r (l4.trans l') E'
            | ok fl γ5 =>
              rw [ef] at k
              have p4 := ok.keep _ _ _ _ _ p3 (Later.fr E3 l4)
              cases fl with
              | nx => exact fun σ5 H5 og5 l5 E5 => ⟨og5, γ5, E5, ok.keep _ _ _ _ _ p4 (Later.fr E4 l5), tSat.shift (f := forL t f (ds.drop (i + 1))) k (l4.trans l5)⟩
              | ct => exact fun σ5 H5 og5 l5 E5 => ⟨og5, γ5, E5, ok.keep _ _ _ _ _ p4 (Later.fr E4 l5), tSat.shift (f := forL t f (ds.drop (i + 1))) k (l4.trans l5)⟩
              | bk => exact fun σ5 H5 og5 l5 E5 => k σ5 H5 og5 (l4.trans l5) E5
              | rt r => exact fun v σ5 H5 og5 on5 l5 E5 => k v σ5 H5 og5 on5 (l4.trans l5) E5
        · have e : i = ds.length := by omega
          subst e
          refine .inl ⟨ok.stop H2 _ p2, ?_⟩
          rw [List.drop_length] at k
          exact k σ2 H2 og2 .refl E2
theorem ps_for' {tg : Expr} {src : Fn (List D)} {t : Tg} {ts : List Nat} {f : Fn Fl} (hp : PassesOwn (model X.prog X.w) X.A X.env X.xe) (G : Good X c) (hi : PI X tg l (iSrc c src)) (hg : PG X tg (tgS c ts t)) (hb : PSs X body (tS c f))
    (hs : ∀ x, foldedSetIterable l X.env x = pure x := by intro _; rfl) : PS X (.For tg l body [] pos) (tS c (forS src t f)) :=
  PS_imp (ps_for hp G.calm hi hg hb hs) fun D σ H h => for_sem h
end
end Eg
end
section
/-! E9: what is walked -/
namespace Eg
open PySem PySem.Spec L2
open PyProof.Rows hiding St
section
variable {c : Cc} {H H1 H2 H' : Hp} {B S : AP} {og og1 og2 og' : Og} {σ σ1 : St} {γ γ1 : Env} {X : Cx} {e a b l : Expr} {pos : Pos} {tg : Expr}
theorem PI_imp {t t' : TI} (h : PI X tg l t) (i : ∀ σ H R, t' σ H R → t σ H R) : PI X tg l t' := ⟨fun pins s σ H R I q => h.run pins s σ H R I (i σ H R q)⟩

/-! ### lists and tuples -/
/-- any list or tuple -/
def iAny (K : PySem.W.Frag) (tl : TE) : TI := fun σ H R => tl σ H fun x H1 => (∃ a xs, x = .ref a ∧ H1 a = some (.lst xs) ∧ R (Itl K a) H1) ∨ ∃ a xs, x = .ref a ∧ SqT K H1 a xs ∧ R (Itt K a) H1
theorem pi_any {tl : TE} (hl : PE X l tl) : PI X tg l (iAny X.K tl) := by
  refine ⟨fun pins s σ H R I h => thn (hl.run pins s σ H _ I h) fun v s1 ⟨x, H1, I1, r1, q1⟩ => ?_⟩
  have fp : ∀ b ∈ [s1.heap.objs.size], FpOk X pins H1 b := fun b hb => by
    cases List.mem_singleton.mp hb
    exact I1.fpOk (Nat.le_refl _) (I1.hok.fresh (Nat.le_refl _))
  rcases q1 with ⟨a, xs, rfl, hq, q⟩ | ⟨a, xs, rfl, hq, q⟩
  · cases r1
    obtain ⟨its, rv, p, _⟩ := I1.list (.inl (.inl hq))
    exact wpAny_pyIter_list p.isList ⟨_, [_], _, _, H1, rfl, I1.kept (t' := s1.toks) fun b o e => Heap.get?_push_of_some _ e, turn_list a _, ⟨_, Heap.get?_push_size _ rfl, rfl, rfl⟩, fp, q⟩
  · cases r1
    obtain ⟨its, rv, p, _⟩ := I1.tuple hq
    exact wpAny_pyIter_tuple (show s1.heap.IsTuple a its.toArray from p) ⟨_, [_], _, _, H1, rfl, I1.kept (t' := s1.toks) fun b o e => Heap.get?_push_of_some _ e, turn_tuple a _, ⟨_, Heap.get?_push_size _ rfl, rfl, rfl⟩, fp, q⟩
def seqD : D → Option (List D)
  | .list ds => some ds
  | .tuple ds => some ds
  | _ => none
def seqSrc (f : Fn D) : Fn (List D) := fun γ => (f γ).bind fun d γ1 => match seqD d with
  | some ds => .ok ds γ1
  | none => .bad
theorem it_list {a : Addr} {ds : List D} : ItOk c (Itl c.K a) ds fun S H => ∃ xs, LsS c.K H S a xs ∧ RpA c.K H S ds xs where
  step := fun i d H S ⟨xs, l, r⟩ e => by
    obtain ⟨v, ev, rv⟩ := r.get e
    refine ⟨⟨xs, v, l.sq, ev⟩, fun x H' ⟨eh, hx⟩ => ?_⟩
    subst eh
    have := hx xs l.sq
    rw [ev] at this
    cases this
    exact ⟨fun _ _ q => q, rv⟩
  stop := fun H S ⟨xs, l, r⟩ => ⟨xs, l.sq, by rw [r.len]; exact Nat.le_refl _⟩
  keep := fun H H' S S' T ⟨xs, l, r⟩ L => ⟨xs, l.frame L, RpA.frame L _ _ r⟩
theorem it_tup {a : Addr} {ds : List D} : ItOk c (Itt c.K a) ds fun S H => ∃ xs, SqT c.K H a xs ∧ RpA c.K H S ds xs where
  step := fun i d H S ⟨xs, l, r⟩ e => by
    obtain ⟨v, ev, rv⟩ := r.get e
    refine ⟨⟨xs, v, l, ev⟩, fun x H' ⟨eh, hx⟩ => ?_⟩
    subst eh
    have := hx xs l
    rw [ev] at this
    cases this
    exact ⟨fun _ _ q => q, rv⟩
  stop := fun H S ⟨xs, l, r⟩ => ⟨xs, l, by rw [r.len]; exact Nat.le_refl _⟩
  keep := fun H H' S S' T ⟨xs, l, r⟩ L => ⟨xs, SqT.frame L l, RpA.frame L _ _ r⟩
/-- from a source's parts -/
theorem iSrc_thn {δ ε : Type} {rela : Rel δ ε} {fa : Fn δ} {k : δ → Fn (List D)} {R : It → Hp → Prop} {Q' : ε → Hp → Prop} (h : iSrc c (fun γ => (fa γ).bind k) σ H R)
    (step : ∀ B og r γ1 v H1 og1 on, Later og og1 H H1 → EnvR c H1 B og1 σ γ1 → rela H1 (Sx B og1) σ r v on → (∀ ds γ2, k r γ1 = .ok ds γ2 → ∀ J H' og' P, Later og og' H H' → EnvR c H' B og' σ γ2 → ItOk c J ds P → P (Sx B og') H' → R J H') → (∃ ds γ2, k r γ1 = .ok ds γ2) → Q' v H1)
    (noex : ∀ r γ e γ', k r γ ≠ .ex e γ') : tG c rela fa σ H Q' := by
  obtain ⟨B, og, γ, E, h⟩ := h
  refine ⟨B, og, γ, E, ?_⟩
  unfold tGat
  dsimp only at h
  cases e : fa γ with
  | bad => rw [e] at h; exact h
  | ex x γ1 => rw [e] at h; exact h
  | ok r γ1 =>
    rw [e] at h
    intro v H1 og1 on l E1 q1 hn
    cases e2 : k r γ1 with
    | bad => simp only [RE.bind_ok, e2] at h
    | ex x γ2 => exact absurd e2 (noex _ _ _ _)
    | ok ds γ2 =>
      simp only [RE.bind_ok, e2] at h
      exact step B og r γ1 v H1 og1 on l E1.drop q1 (fun ds' γ2' e3 => by rw [e2] at e3; cases e3; exact h) ⟨ds, γ2, e2⟩
theorem pi_seq' {f : Fn D} (G : Base X c) (hl : PE X l (tD c f)) : PI X tg l (iSrc c (seqSrc f)) := PI_imp (pi_any hl) fun σ H R h => by
  refine iSrc_thn h (fun B og r γ1 v H1 og1 on L E1 q1 k ex => ?_) fun r γ e γ' z => by
    try dsimp only at z
    split at z <;> cases z
  obtain ⟨ds', γ2, e2⟩ := ex
  have k := k ds' γ2 e2
  try dsimp only at e2
  rw [G.k]
  cases r with
  | list ds =>
    cases e2
    obtain ⟨a, xs, rfl, ha, r⟩ := q1.2
    exact .inl ⟨a, xs, rfl, ha.1, k _ H1 og1 _ L E1 it_list ⟨xs, ha, r⟩⟩
  | tuple ds =>
    cases e2
    obtain ⟨a, xs, rfl, ha, r⟩ := q1.2
    exact .inr ⟨a, xs, rfl, ha, k _ H1 og1 _ L E1 it_tup ⟨xs, ha, r⟩⟩
  | _ => cases e2

/-! ### range -/
def upto (lo : Int) (n : Nat) : List D := (List.range n).map fun k => .int (lo + (k : Nat))
def okR (i : Int) : Bool := decide (-(2 ^ 62) ≤ i ∧ i < 2 ^ 62)
def rng1 (ds : List D) : Option (List D) := match ds with
  | [.int j] => if okR j then some (upto 0 j.toNat) else none
  | _ => none
def rng2 (ds : List D) : Option (List D) := match ds with
  | [.int i, .int j] => if okR i && okR j then some (upto i (j - i).toNat) else none
  | _ => none
def rngSrc (g : List D → Option (List D)) (fs : Fn (List D)) : Fn (List D) := fun γ => (fs γ).bind fun ds γ1 => match g ds with
  | some r => .ok r γ1
  | none => .bad
theorem it_rng {lo : Int} {n : Nat} : ItOk c (Itr lo n) (upto lo n) fun _ _ => True where
  step := fun i d H S _ e => by
    unfold upto at e
    rw [List.getElem?_map] at e
    by_cases hi : i < n
    · rw [List.getElem?_range hi] at e
      cases e
      refine ⟨hi, fun x H' ⟨eh, hx⟩ => ?_⟩
      subst eh hx
      exact ⟨fun _ _ q => q, rfl⟩
    · rw [List.getElem?_eq_none (by simpa using hi)] at e
      cases e
  stop := fun H S _ => by
    show n ≤ _
    unfold upto
    rw [List.length_map, List.length_range]
    exact Nat.le_refl _
  keep := fun _ _ _ _ _ _ _ => trivial
variable {p : Pos} {fs : Fn (List D)}
theorem pi_range1' (G : Base X c) (hg : Gl X "range") (hm : X.mg "range" = none) (ha : PA X [a] (tDs c fs)) (hs : starEach [a] X.env = [(false, eval a X.env)] := by rfl) : PI X tg (.Call (.Name "range" p) [a] [] pos) (iSrc c (rngSrc rng1 fs)) :=
  PI_imp (pi_range1 hg hm ha hs) fun σ H R h => by
    refine iSrc_thn h (fun B og r γ1 v H1 og1 on L E1 q1 k ex => ?_) fun r γ e γ' z => by
      try dsimp only at z
      split at z <;> cases z
    obtain ⟨ds', γ2, e2⟩ := ex
    have k := k ds' γ2 e2
    try dsimp only at e2
    cases er : rng1 r with
    | none => rw [er] at e2; cases e2
    | some r' =>
      rw [er] at e2
      cases e2
      unfold rng1 at er
      split at er
      · split at er
        · rename_i j hj
          cases er
          have hj := of_decide_eq_true hj
          obtain ⟨w, _, rfl, hw, rfl⟩ := q1.2
          cases hw
          exact ⟨j, rfl, hj.1, hj.2, k _ H1 og1 _ L E1 it_rng trivial⟩
        · cases er
      · cases er
theorem pi_range2' (G : Base X c) (hg : Gl X "range") (hm : X.mg "range" = none) (ha : PA X [a, b] (tDs c fs)) (hs : starEach [a, b] X.env = [(false, eval a X.env), (false, eval b X.env)] := by rfl) (hs2 : starEach [b] X.env = [(false, eval b X.env)] := by rfl) :
    PI X tg (.Call (.Name "range" p) [a, b] [] pos) (iSrc c (rngSrc rng2 fs)) :=
  PI_imp (pi_range2 hg hm ha hs hs2) fun σ H R h => by
    refine iSrc_thn h (fun B og r γ1 v H1 og1 on L E1 q1 k ex => ?_) fun r γ e γ' z => by
      try dsimp only at z
      split at z <;> cases z
    obtain ⟨ds', γ2, e2⟩ := ex
    have k := k ds' γ2 e2
    try dsimp only at e2
    cases er : rng2 r with
    | none => rw [er] at e2; cases e2
    | some r' =>
      rw [er] at e2
      cases e2
      unfold rng2 at er
      split at er
      · split at er
        · rename_i i j hj
          cases er
          rw [Bool.and_eq_true] at hj
          have h1 := of_decide_eq_true hj.1
          have h2 := of_decide_eq_true hj.2
          obtain ⟨w, _, rfl, hw, w2, _, rfl, hw2, rfl⟩ := q1.2
          cases hw
          cases hw2
          exact ⟨i, j, rfl, ⟨h1.1, h1.2, h2.1, h2.2⟩, k _ H1 og1 _ L E1 it_rng trivial⟩
        · cases er
      · cases er

/-! ### enumerate -/
/-- the tuple at a, each item in a new pair -/
def IteT (K : PySem.W.Frag) (a : Addr) : It :=
  ⟨fun i H => ∃ (xs : List V) (x : V), SqT K H a xs ∧ xs[i]? = some x, fun i H v H' => ∃ T x, v = .ref T ∧ H T = none ∧ H' = upd H T (.tup [.int (i : Nat), x]) ∧ ∀ xs, SqT K H a xs → xs[i]? = some x, fun i H => ∃ xs : List V, SqT K H a xs ∧ xs.length = i⟩
theorem turn_enumT {P : Program} {w : World} {K : PySem.W.Frag} {elts : List Expr} {kk : Nat} {tpos : Pos} (a e it : Addr) :
    Turn P w K (.Tuple elts kk tpos) (IteT K a) [e, it] e (fun i h => (∃ old, IsEnum h e it ((i : Nat) : Int) old) ∧ h.IsTupleIter it a i ∧ e ≠ it) where
  mem := by simp
  obj := fun i h st b hb => by
    obtain ⟨⟨old, he⟩, ⟨o, ho, hc, hd⟩, _⟩ := st
    rcases List.mem_cons.mp hb with z | z
    · subst z; exact ⟨_, he, fun v q => nomatch q⟩
    · cases List.mem_singleton.mp z; exact ⟨o, ho, fun v q => by rw [hd] at q; cases q⟩
  keep := fun i h h' ⟨⟨old, he⟩, hi, hne⟩ k => ⟨⟨old, k e (by simp) _ he⟩, hi.at fun o q => k it (by simp) o q, hne⟩
  item := by
    intro X hP hw hK hc i pins s σ H E I hf ⟨⟨old, he⟩, hit, hne⟩ hg
    subst hP hw hK
    obtain ⟨xs, x, hq, hx⟩ := hg
    obtain ⟨its, rv, p, hz⟩ := I.tuple hq
    obtain ⟨u, hu, ru⟩ := rv.get hx
    have hp : s.heap.IsTuple a its.toArray := p
    have ta : ∀ b ∈ [e, it], a ≠ b := fun b hb z => by
      subst z
      obtain ⟨o, ho, hcl, _⟩ := p
      rcases List.mem_cons.mp hb with q | q
      · subst q
        have := he.symm.trans ho
        cases this
        exact absurd hcl (by simp)
      · cases List.mem_singleton.mp q
        obtain ⟨o2, ho2, hc2, _⟩ := hit
        rw [ho2] at ho; cases ho
        rw [hc2] at hcl
        exact absurd hcl (by simp)
    have Dr := PySem.Draws.tuple (prog := X.prog) (w := X.w) (A := X.A.in1) (I.ok.hd hc) it a (ta it (by simp)) its.toArray
    have lt : ∀ b ∈ [e, it], b < s.heap.objs.size := fun b hb => by
      rcases List.mem_cons.mp hb with q | q
      · subst q; exact Heap.lt_size he
      · cases List.mem_singleton.mp q; obtain ⟨_, q, _⟩ := hit; exact Heap.lt_size q
    have hsz : i < its.toArray.size := by simpa using (List.getElem?_eq_some_iff.mp hu).1
    refine wpAny_pyNext_enum_itemD Dr he ⟨hit, hp⟩ hsz hne (by
      simp only [List.mem_cons, List.mem_nil_iff, or_false, not_or]
      exact ⟨hne, fun z => ta e (by simp) z.symm⟩) fun x1 h' tk hx1 ho ⟨hit', hp'⟩ hT _ hk => ?_
    have ex1 : x1 = u := by
      have hx1 : its.toArray[i]? = some x1 := hx1
      rw [show its.toArray[i]? = its[i]? by simp, hu] at hx1
      exact (Option.some.inj hx1).symm
    subst ex1
    refine ⟨_, rfl, wpAny_letOwnedTupleGo_enum (s := { s with heap := h', toks := tk + 1 }) ho fun h2 he' sb => ?_⟩
    have hT2 := (sb.2 _ (Nat.ne_of_gt (lt e (by simp)))).trans hT
    have new : ObjOk X.prog X.w (upd H s.heap.objs.size (.tup [.int (i : Nat), x])) h2 s.heap.objs.size (.tup [.int (i : Nat), x]) :=
      ⟨by show 2 ≤ sizeLine; decide, [_, _], .cons ⟨_, rfl⟩ (.cons ru .nil), ⟨_, hT2, rfl, _, rfl⟩⟩
    have kept : ∀ b ob, b ∉ [e, it] → s.heap.get? b = some ob → h2.get? b = some ob := fun b ob hb q => by
      simp only [List.mem_cons, List.mem_nil_iff, or_false, not_or] at hb
      exact (sb.2 b hb.1).trans (hk b ob hb.1 hb.2 q)
    have I1 := I.turnedNew (t' := tk + 1) kept hf (Nat.le_refl _) new
    refine ⟨.ref s.heap.objs.size, _, I1, rfl, ⟨_, x, rfl, I.hok.fresh (Nat.le_refl _), rfl, fun ys hy => by rw [I.tuple_inj hy hq]; exact hx⟩, ⟨⟨x1, ?_⟩, hit'.at fun o q => (sb.2 it (Ne.symm hne)).trans q, hne⟩, fun b hb => ?_⟩
    · rw [show ((i + 1 : Nat) : Int) = (i : Int) + 1 by omega]
      exact he'
    · rw [upd_ne (Nat.ne_of_lt (lt b hb))]
      exact (hf b hb).1
  done := by
    intro X hP hw hK hc i pins s σ H E I hf ⟨⟨old, he⟩, hit, hne⟩ hg
    subst hP hw hK
    obtain ⟨xs, hq, hx⟩ := hg
    obtain ⟨its, rv, p, hz⟩ := I.tuple hq
    have hp : s.heap.IsTuple a its.toArray := p
    obtain ⟨f0, f1, f2, f3, f4, f5⟩ := hf it (by simp)
    have ta : a ≠ it := fun z => by
      subst z
      obtain ⟨o, ho, hcl, _⟩ := p
      obtain ⟨o2, ho2, hc2, _⟩ := hit
      rw [ho2] at ho; cases ho
      rw [hc2] at hcl
      exact absurd hcl (by simp)
    have hl := rv.length
    have Dr := PySem.Draws.tuple (prog := X.prog) (w := X.w) (A := X.A.in1) (I.ok.hd hc) it a ta its.toArray
    have hi : i = its.toArray.size := by rw [List.size_toArray]; omega
    subst hi
    exact wpAny_pyNext_enum_endD Dr he ⟨hit, hp⟩ fun h' he' => ⟨rfl, I.turned (t' := s.toks) (fun b o hb q => he' b o hb q) f0 f1 f3 f4 f5⟩
  self := fun A i s Q E ⟨⟨_, he⟩, _⟩ h => wpAny_pyIter_enum he h
end
set_option maxHeartbeats 2000000 in
/-- enumerate(v), v a list, a tuple, a text -/
theorem enum_made {v : Value} {o : Obj} {Z : Heap → Prop} (B : PySem.Begins v o Z) :
    Meets (Builtin.«enumerate.__new__» ⟨[.type "enumerate", v], []⟩) (fun _ R s => Z s.heap ∧
      R (.ok (.ret (.ref (s.heap.push o).objs.size))) { s with heap := (s.heap.push o).push { cls := .type "enumerate", data := .fields #[.none, .bool false, .ref s.heap.objs.size, rawInt 0, .none, .none] } }) :=
  .of_wp fun prog w A R s h => by
    obtain ⟨hp, g, d, tk, os⟩ := s
    obtain ⟨h1, h⟩ := h
    have isSub := sub_enumerate
    have begun : ∀ {A' : Around} {E : Value → Shared → Prop} {Q : Value → Shared → Prop}, Q (.ref hp.objs.size) ⟨hp.push o, g, d, tk, os⟩ → wpAny (model prog w) A' (pyIter v) Q E ⟨hp, g, d, tk, os⟩ :=
      fun q => B.iter prog w _ _ ⟨hp, g, d, tk, os⟩ _ h1 q
    wp_walk using begun
    refine wpAny_stack_any fun st => wpAny_pure ?_
    split
    · rename_i cl _ _ _ _ _
      cases (cl == Value.type "enumerate")
      · wp_walk using begun
        exact ⟨_, rfl, h⟩
      · wp_walk using begun
        exact ⟨_, rfl, h⟩
    · wp_walk using begun
      exact ⟨_, rfl, h⟩
theorem enum_called {prog : Program} {w : World} {A : Around} {E : Value → Shared → Prop} {s : Shared} {v : Value} {o : Obj} {Z : Heap → Prop} {Q : Value → Shared → Prop} (B : PySem.Begins v o Z) (hz : Z s.heap)
    (h : ∀ h', IsEnum h' (s.heap.objs.size + 1) s.heap.objs.size 0 .none → h'.get? s.heap.objs.size = some o → (∀ b u, s.heap.get? b = some u → h'.get? b = some u) → Q (.ref (s.heap.objs.size + 1)) { s with heap := h' }) :
    wpAny (model prog w) A (call (.type "enumerate") [v]) Q E s := by
  refine callType_new PySem.F.called_enumerate (by decide) (PySem.F.typeCall_enumerate_1 _) (PySem.F.newCall_enumerate_1 _) (fun obj => PySem.F.args_object_init_2 obj _) PySem.F.entry_enumerate_new (enum_made B) ⟨hz, ?_⟩
  have sz : (s.heap.push o).objs.size = s.heap.objs.size + 1 := Heap.size_push ..
  show _ ∧ _
  rw [sz]
  have he : IsEnum ((s.heap.push o).push { cls := .type "enumerate", data := .fields #[.none, .bool false, .ref s.heap.objs.size, rawInt 0, .none, .none] }) (s.heap.objs.size + 1) s.heap.objs.size 0 .none := by
    have q := Heap.get?_push_size (s.heap.push o) (o := { cls := .type "enumerate", data := .fields #[.none, .bool false, .ref s.heap.objs.size, rawInt 0, .none, .none] }) rfl
    rw [sz] at q
    exact q
  exact ⟨⟨_, he, rfl⟩, h _ he (Heap.get?_push_of_some _ (Heap.get?_push_size _ B.free)) fun b u x => Heap.get?_push_of_some _ (Heap.get?_push_of_some _ x)⟩
section
variable {c : Cc} {H H1 H2 H' : Hp} {B S : AP} {og og1 og2 og' : Og} {σ σ1 : St} {γ γ1 : Env} {X : Cx} {e a b l : Expr} {pos : Pos} {tg : Expr}
def iEnA (K : PySem.W.Frag) (ta : TA) : TI := fun σ H R => ta σ H fun vs H1 => (∃ a xs, vs = [.ref a] ∧ H1 a = some (.lst xs) ∧ R (Ite K a) H1) ∨ ∃ a xs, vs = [.ref a] ∧ SqT K H1 a xs ∧ R (IteT K a) H1
theorem pi_enA {ta : TA} {p pos tpos : Pos} {elts : List Expr} {kk : Nat} (hg : Gl X "enumerate") (hm : X.mg "enumerate" = none) (ha : PA X [e] ta) (hs : starEach [e] X.env = [(false, eval e X.env)] := by rfl) :
    PI X (.Tuple elts kk tpos) (.Call (.Name "enumerate" p) [e] [] pos) (iEnA X.K ta) := by
  refine ⟨fun pins s σ H R I h => Call_ (ld_blt I hg hm PyProof.Rows.boot_enumerate (PyProof.Rows.callWith_type1 (thn (ha.run pos pins s σ H _ I h) fun us s1 ⟨vs, H1, I1, r1, q1⟩ => ?_) hs rfl))⟩
  have fp : ∀ b ∈ [s1.heap.objs.size + 1, s1.heap.objs.size], FpOk X pins H1 b := fun b hb => by
    have hle : s1.heap.objs.size ≤ b := by
      rcases List.mem_cons.mp hb with z | z
      · rw [z]; exact Nat.le_add_right _ _
      · rw [List.mem_singleton.mp z]; exact Nat.le_refl _
    exact I1.fpOk hle (I1.hok.fresh hle)
  rcases q1 with ⟨a, xs, rfl, hq, q⟩ | ⟨a, xs, rfl, hq, q⟩
  · obtain ⟨u, rfl, ru⟩ := vals1 r1
    cases ru
    obtain ⟨its, rv, pl, _⟩ := I1.list (.inl (.inl hq))
    refine enum_called (PySem.begins_list a its.toArray) pl.isList fun h' he hit hk => wpAny_pyIter_enum he ?_
    exact ⟨_, _, _, _, H1, rfl, I1.kept (t' := s1.toks) hk, turn_enum a (s1.heap.objs.size + 1) s1.heap.objs.size, ⟨⟨.none, he⟩, ⟨_, hit, rfl, rfl⟩, Nat.succ_ne_self _⟩, fp, q⟩
  · obtain ⟨u, rfl, ru⟩ := vals1 r1
    cases ru
    obtain ⟨its, rv, pl, _⟩ := I1.tuple hq
    refine enum_called (PySem.begins_tuple a its.toArray) (show s1.heap.IsTuple a its.toArray from pl) fun h' he hit hk => wpAny_pyIter_enum he ?_
    exact ⟨_, _, _, _, H1, rfl, I1.kept (t' := s1.toks) hk, turn_enumT a (s1.heap.objs.size + 1) s1.heap.objs.size, ⟨⟨.none, he⟩, ⟨_, hit, rfl, rfl⟩, Nat.succ_ne_self _⟩, fp, q⟩
def enumFrom0 : Nat → List D → List D
  | _, [] => []
  | n, d :: ds => .tuple [.int n, d] :: enumFrom0 (n + 1) ds
theorem enumFrom0_get : ∀ {ds : List D} {n i : Nat} {d : D}, (enumFrom0 n ds)[i]? = some d → ∃ x, ds[i]? = some x ∧ d = .tuple [.int ((n + i : Nat) : Int), x]
  | [], _, _, _, h => by simp [enumFrom0] at h
  | x :: ds, n, 0, d, h => by
    simp [enumFrom0] at h
    exact ⟨x, rfl, h.symm⟩
  | x :: ds, n, i + 1, d, h => by
    obtain ⟨y, e1, e2⟩ := enumFrom0_get (ds := ds) (n := n + 1) (i := i) (d := d) (by simpa [enumFrom0] using h)
    exact ⟨y, by simpa using e1, by rw [e2]; congr 4; omega⟩
theorem enumFrom0_len : ∀ (ds : List D) (n : Nat), (enumFrom0 n ds).length = ds.length
  | [], _ => rfl
  | _ :: ds, n => by show (enumFrom0 (n + 1) ds).length + 1 = ds.length + 1; rw [enumFrom0_len ds]
theorem it_enum {a : Addr} {ds : List D} : ItOk c (Ite c.K a) (enumFrom0 0 ds) fun S H => ∃ xs, LsS c.K H S a xs ∧ RpA c.K H S ds xs where
  step := fun i d H S ⟨xs, l, r⟩ e => by
    obtain ⟨x, ex, rfl⟩ := enumFrom0_get e
    obtain ⟨v, ev, rv⟩ := r.get ex
    refine ⟨⟨xs, v, l.sq, ev⟩, fun y H' ⟨T, z, ey, hn, eh, hx⟩ => ?_⟩
    subst ey eh
    have q := hx xs l.sq
    rw [ev] at q
    cases q
    refine ⟨same_upd hn, T, [.int (i : Nat), v], rfl, .inl (.inl upd_same), .int (i : Nat), [v], rfl, by rw [Nat.zero_add]; rfl, v, [], rfl, Rp.frame (Fr0.more (same_upd hn)) _ _ rv, rfl⟩
  stop := fun H S ⟨xs, l, r⟩ => ⟨xs, l.sq, by rw [r.len, enumFrom0_len]; exact Nat.le_refl _⟩
  keep := fun H H' S S' T ⟨xs, l, r⟩ L => ⟨xs, l.frame L, RpA.frame L _ _ r⟩
theorem it_enumT {a : Addr} {ds : List D} : ItOk c (IteT c.K a) (enumFrom0 0 ds) fun S H => ∃ xs, SqT c.K H a xs ∧ RpA c.K H S ds xs where
  step := fun i d H S ⟨xs, l, r⟩ e => by
    obtain ⟨x, ex, rfl⟩ := enumFrom0_get e
    obtain ⟨v, ev, rv⟩ := r.get ex
    refine ⟨⟨xs, v, l, ev⟩, fun y H' ⟨T, z, ey, hn, eh, hx⟩ => ?_⟩
    subst ey eh
    have q := hx xs l
    rw [ev] at q
    cases q
    refine ⟨same_upd hn, T, [.int (i : Nat), v], rfl, .inl (.inl upd_same), .int (i : Nat), [v], rfl, by rw [Nat.zero_add]; rfl, v, [], rfl, Rp.frame (Fr0.more (same_upd hn)) _ _ rv, rfl⟩
  stop := fun H S ⟨xs, l, r⟩ => ⟨xs, l, by rw [r.len, enumFrom0_len]⟩
  keep := fun H H' S S' T ⟨xs, l, r⟩ L => ⟨xs, SqT.frame L l, RpA.frame L _ _ r⟩
def enumG (ds : List D) : Option (List D) := match ds with
  | [d] => (seqD d).map (enumFrom0 0)
  | _ => none
theorem pi_enum' {fs : Fn (List D)} {p pos tpos : Pos} {elts : List Expr} {kk : Nat} (G : Base X c) (hg : Gl X "enumerate") (hm : X.mg "enumerate" = none) (ha : PA X [e] (tDs c fs)) (hs : starEach [e] X.env = [(false, eval e X.env)] := by rfl) :
    PI X (.Tuple elts kk tpos) (.Call (.Name "enumerate" p) [e] [] pos) (iSrc c (rngSrc enumG fs)) := PI_imp (pi_enA hg hm ha hs) fun σ H R h => by
  refine iSrc_thn h (fun B og r γ1 v H1 og1 on L E1 q1 k ex => ?_) fun r γ e γ' z => by
    try dsimp only at z
    split at z <;> cases z
  obtain ⟨ds', γ2, e2⟩ := ex
  have k := k ds' γ2 e2
  rw [G.k]
  cases er : enumG r with
  | none => rw [er] at e2; cases e2
  | some r' =>
    rw [er] at e2
    cases e2
    unfold enumG at er
    split at er
    · rename_i d
      obtain ⟨v, _, rfl, hv, rfl⟩ := q1.2
      cases d with
      | list ds =>
        cases er
        obtain ⟨a, xs, rfl, ha, r⟩ := hv
        exact .inl ⟨a, xs, rfl, ha.1, k _ H1 og1 _ L E1 it_enum ⟨xs, ha, r⟩⟩
      | tuple ds =>
        cases er
        obtain ⟨a, xs, rfl, ha, r⟩ := hv
        exact .inr ⟨a, xs, rfl, ha, k _ H1 og1 _ L E1 it_enumT ⟨xs, ha, r⟩⟩
      | _ => cases er
    · cases er

/-! ### zip -/
def zipD : List D → List D → List D
  | x :: xs, y :: ys => .tuple [x, y] :: zipD xs ys
  | _, _ => []
theorem zipD_get : ∀ {xs ys : List D} {i : Nat} {d : D}, (zipD xs ys)[i]? = some d → ∃ x y, xs[i]? = some x ∧ ys[i]? = some y ∧ d = .tuple [x, y]
  | [], _, _, _, h => by simp [zipD] at h
  | _ :: _, [], _, _, h => by simp [zipD] at h
  | x :: xs, y :: ys, 0, d, h => by
    simp [zipD] at h
    exact ⟨x, y, rfl, rfl, h.symm⟩
  | x :: xs, y :: ys, i + 1, d, h => by
    obtain ⟨a, b, e1, e2, e3⟩ := zipD_get (xs := xs) (ys := ys) (i := i) (d := d) (by simpa [zipD] using h)
    exact ⟨a, b, by simpa using e1, by simpa using e2, e3⟩
theorem zipD_len : ∀ (xs ys : List D), (zipD xs ys).length = min xs.length ys.length
  | [], _ => by simp [zipD]
  | _ :: _, [] => by simp [zipD]
  | x :: xs, y :: ys => by
    show (zipD xs ys).length + 1 = min (xs.length + 1) (ys.length + 1)
    rw [zipD_len xs ys]
    omega
theorem it_zip {a b : Addr} {ds es : List D} : ItOk c (Itz c.K a b) (zipD ds es) fun S H => ∃ xs ys, LsS c.K H S a xs ∧ LsS c.K H S b ys ∧ RpA c.K H S ds xs ∧ RpA c.K H S es ys where
  step := fun i d H S ⟨xs, ys, l, l', r, r'⟩ e => by
    obtain ⟨x, y, ex, ey, rfl⟩ := zipD_get e
    obtain ⟨v, ev, rv⟩ := r.get ex
    obtain ⟨u, eu, ru⟩ := r'.get ey
    refine ⟨⟨xs, ys, v, u, l.sq, l'.sq, ev, eu⟩, fun z H' ⟨T, z1, z2, ez, hn, eh, hx, hy⟩ => ?_⟩
    subst ez eh
    have q := hx xs l.sq
    rw [ev] at q
    cases q
    have q := hy ys l'.sq
    rw [eu] at q
    cases q
    exact ⟨same_upd hn, T, [v, u], rfl, .inl (.inl upd_same), v, [u], rfl, Rp.frame (Fr0.more (same_upd hn)) _ _ rv, u, [], rfl, Rp.frame (Fr0.more (same_upd hn)) _ _ ru, rfl⟩
  stop := fun H S ⟨xs, ys, l, l', r, r'⟩ => ⟨xs, ys, l.sq, l'.sq, by rw [r.len, r'.len, zipD_len]; omega⟩
  keep := fun H H' S S' T ⟨xs, ys, l, l', r, r'⟩ L => ⟨xs, ys, l.frame L, l'.frame L, RpA.frame L _ _ r, RpA.frame L _ _ r'⟩
theorem it_zipT {a b : Addr} {ds es : List D} : ItOk c (RZ.ItzT c.K a b) (zipD ds es) fun S H => ∃ xs ys, SqT c.K H a xs ∧ SqT c.K H b ys ∧ RpA c.K H S ds xs ∧ RpA c.K H S es ys where
  step := fun i d H S ⟨xs, ys, l, l', r, r'⟩ e => by
    obtain ⟨x, y, ex, ey, rfl⟩ := zipD_get e
    obtain ⟨v, ev, rv⟩ := r.get ex
    obtain ⟨u, eu, ru⟩ := r'.get ey
    refine ⟨⟨xs, ys, v, u, l, l', ev, eu⟩, fun z H' ⟨T, z1, z2, ez, hn, eh, hx, hy⟩ => ?_⟩
    subst ez eh
    have q := hx xs l
    rw [ev] at q
    cases q
    have q := hy ys l'
    rw [eu] at q
    cases q
    exact ⟨same_upd hn, T, [v, u], rfl, .inl (.inl upd_same), v, [u], rfl, Rp.frame (Fr0.more (same_upd hn)) _ _ rv, u, [], rfl, Rp.frame (Fr0.more (same_upd hn)) _ _ ru, rfl⟩
  stop := fun H S ⟨xs, ys, l, l', r, r'⟩ => ⟨xs, ys, l, l', by rw [r.len, r'.len, zipD_len]; omega⟩
  keep := fun H H' S S' T ⟨xs, ys, l, l', r, r'⟩ L => ⟨xs, ys, SqT.frame L l, SqT.frame L l', RpA.frame L _ _ r, RpA.frame L _ _ r'⟩
def zipG (ds : List D) : Option (List D) := match ds with
  | [.list xs, .list ys] => some (zipD xs ys)
  | [.tuple xs, .tuple ys] => some (zipD xs ys)
  | _ => none
theorem pi_zip' {fs : Fn (List D)} {p pos tpos : Pos} {elts : List Expr} {kk : Nat} (G : Base X c) (hg : Gl X "zip") (hm : X.mg "zip" = none) (ha : PA X [a, b] (tDs c fs))
    (hs : starEach [a, b] X.env = (false, eval a X.env) :: starEach [b] X.env := by rfl) (hpl : (backTo pos (starEach [b] X.env)).any (·.1) = false := by rfl) :
    PI X (.Tuple elts kk tpos) (.Call (.Name "zip" p) [a, b] [] pos) (iSrc c (rngSrc zipG fs)) := PI_imp (RZ.pi_zipA hg hm ha hs hpl) fun σ H R h => by
  refine iSrc_thn h (fun B og r γ1 v H1 og1 on L E1 q1 k ex => ?_) fun r γ e γ' z => by
    try dsimp only at z
    split at z <;> cases z
  obtain ⟨ds', γ2, e2⟩ := ex
  have k := k ds' γ2 e2
  rw [G.k]
  cases er : zipG r with
  | none => rw [er] at e2; cases e2
  | some r' =>
    rw [er] at e2
    cases e2
    unfold zipG at er
    split at er
    · cases er
      obtain ⟨v, _, rfl, hv, u, _, rfl, hu, rfl⟩ := q1.2
      obtain ⟨a, xs, rfl, ha, r⟩ := hv
      obtain ⟨b, ys, rfl, hb, r'⟩ := hu
      exact ⟨a, b, xs, ys, rfl, .inl ⟨ha.sq, hb.sq, k _ H1 og1 _ L E1 it_zip ⟨xs, ys, ha, hb, r, r'⟩⟩⟩
    · cases er
      obtain ⟨v, _, rfl, hv, u, _, rfl, hu, rfl⟩ := q1.2
      obtain ⟨a, xs, rfl, ha, r⟩ := hv
      obtain ⟨b, ys, rfl, hb, r'⟩ := hu
      exact ⟨a, b, xs, ys, rfl, .inr ⟨ha, hb, k _ H1 og1 _ L E1 it_zipT ⟨xs, ys, ha, hb, r, r'⟩⟩⟩
    · cases er
end
end Eg
end
section
/-! E10: comprehensions -/
namespace Eg
open PySem PySem.Spec L2
open PyProof.Rows hiding St

theorem RE.bind_assoc {α β δ : Type} (x : RE α) (f : α → Env → RE β) (g : β → Env → RE δ) : (x.bind f).bind g = x.bind fun a γ => (f a γ).bind g := by
  cases x <;> rfl
/-- no exception may leave -/
def noX {α : Type} (f : Fn α) : Fn α := fun γ => match f γ with
  | .ex _ _ => .bad
  | r => r
def Cc.quiet (c : Cc) : Cc := { c with W := fun _ _ _ _ => False }
section
variable {c : Cc} {H H1 H2 H' : Hp} {B S T : AP} {og og1 og2 og' : Og} {σ σ1 : St} {γ γ1 : Env} {X : Cx}
theorem SlR.quiet {i : Nat} {sv : Option V} {s : Sl} {os : List Addr} (h : SlR c H S i sv s os) : SlR c.quiet H S i sv s os := by
  cases s <;> exact h
theorem SlR.loud {i : Nat} {sv : Option V} {s : Sl} {os : List Addr} (h : SlR c.quiet H S i sv s os) : SlR c H S i sv s os := by
  cases s <;> exact h
theorem EnvR.quiet (E : EnvR c H B og σ γ) : EnvR c.quiet H B og σ γ := ⟨E.tb, E.len, E.out, E.nd, E.dj, E.nb, E.bl, E.ent, E.grow, fun i s e => (E.sl i s e).quiet⟩
theorem EnvR.loud (E : EnvR c.quiet H B og σ γ) : EnvR c H B og σ γ := ⟨E.tb, E.len, E.out, E.nd, E.dj, E.nb, E.bl, E.ent, E.grow, fun i s e => (E.sl i s e).loud⟩
variable {α β δ ε : Type}
/-- what a rel says is the same of c.quiet -/
def RelQ (c : Cc) (r : Cc → Rel α β) : Prop := r c.quiet = r c
/-- a quiet part first -/
theorem tGat.thnQ {rel : Rel α β} {rela : Rel δ ε} {fa : Fn δ} {k : δ → Fn α} {Q : β → Hp → Prop} {Q' : ε → Hp → Prop}
    (h : tGat c rel B og (fun γ => (noX fa γ).bind k) σ H γ Q)
    (step : ∀ r γ1 v H1 og1 on, Later og og1 H H1 → EnvR c H1 B og1 σ γ1 → rela H1 (Sx B og1) σ r v on → ((∀ a ∈ on, H a = none) ∧ EnvR c H1 (Bx B on) og1 σ γ1) → tGat c rel B og1 (k r) σ H1 γ1 Q → Q' v H1) :
    tGat c.quiet rela B og fa σ H γ Q' := by
  have h' := tGat.thn (rela := rela) h step
  unfold tGat noX at h'
  unfold tGat
  cases e : fa γ with
  | bad => rw [e] at h'; exact h'
  | ex x γ1 => rw [e] at h'; exact h'.elim
  | ok r γ1 => rw [e] at h'; exact fun v H' og' on l E q n => h' v H' og' on l E.loud q n

/-! ### the block's own names -/
def plainS : Sl → Bool
  | .w _ => false
  | .io _ => false
  | .scr _ => false
  | _ => true
def wipeE : List Nat → Env → Env
  | [], γ => γ
  | v :: vs, γ => (wipeE vs γ).set v .no
def plainAt (γ : Env) (i : Nat) : Bool := match γ[i]? with
  | some s => plainS s
  | none => false
def canWipe (vs : List Nat) (γ : Env) : Bool := vs.all (plainAt γ)
theorem wipeE_len (γ : Env) : ∀ vs : List Nat, (wipeE vs γ).length = γ.length
  | [] => rfl
  | v :: vs => by show ((wipeE vs γ).set v .no).length = _; rw [List.length_set, wipeE_len γ vs]
theorem wipeE_get {γ : Env} {i : Nat} : ∀ {vs : List Nat} {s : Sl}, (wipeE vs γ)[i]? = some s → s = .no ∨ (γ[i]? = some s ∧ i ∉ vs)
  | [], s, h => .inr ⟨h, nofun⟩
  | v :: vs, s, h => by
    have h : ((wipeE vs γ).set v .no)[i]? = some s := h
    by_cases hi : v = i
    · subst hi
      have hv : v < (wipeE vs γ).length := by
        have := (List.getElem?_eq_some_iff.mp h).1
        simpa using this
      rw [List.getElem?_set_self hv] at h
      cases h
      exact .inl rfl
    · rw [List.getElem?_set_ne hi] at h
      rcases wipeE_get h with e | ⟨e, n⟩
      · exact .inl e
      · exact .inr ⟨e, fun z => by rcases List.mem_cons.mp z with z | z; exact hi z.symm; exact n z⟩
theorem wipe_get {σ : St} {i : Nat} : ∀ {vs : List Nat}, i ∉ vs → (wipe σ vs)[i]? = σ[i]? := fun {vs} h => wipe_out h
theorem EnvR.wiped (E : EnvR c H B og σ γ) {vs : List Nat} (h : canWipe vs γ = true) : EnvR c H B og (wipe σ vs) (wipeE vs γ) := by
  refine ⟨E.tb, by rw [wipe_length, wipeE_len]; exact E.len, fun i hi => E.out i (by rw [wipeE_len] at hi; exact hi), E.nd, E.dj, E.nb, E.bl, E.ent, E.grow, fun i s e => ?_⟩
  by_cases hv : i ∈ vs
  · have hp := List.all_eq_true.mp h i hv
    unfold plainAt at hp
    have og0 : og i = [] := by
      cases es : γ[i]? with
      | none => rw [es] at hp; cases hp
      | some s' =>
        rw [es] at hp
        have hs := E.sl i s' es
        cases s' with
        | no => exact hs
        | d x => exact hs.1
        | th r => exact hs.1
        | w m => cases hp
        | io m => cases hp
        | scr m => cases hp
    rcases wipeE_get e with z | ⟨_, n⟩
    · subst z; exact og0
    · exact absurd hv n
  · rw [wipe_get hv]
    rcases wipeE_get e with z | ⟨z, _⟩
    · subst z
      -- not wiped: it was unknown already
      have : (wipeE vs γ)[i]? = γ[i]? := by
        clear e h
        induction vs with
        | nil => rfl
        | cons v vs ih =>
          show ((wipeE vs γ).set v .no)[i]? = _
          rw [List.getElem?_set_ne (fun z => hv (by rw [z]; exact List.mem_cons_self)), ih (fun z => hv (List.mem_cons_of_mem _ z))]
      rw [this] at e
      exact E.sl i .no e
    · exact E.sl i s z
/-- the names of the block get back what they were -/
def restE : List Nat → Env → Env → Env
  | [], _, γ => γ
  | v :: vs, γ0, γ => (restE vs γ0 γ).set v (γ0[v]?.getD .no)
theorem restE_len (γ0 γ : Env) : ∀ vs : List Nat, (restE vs γ0 γ).length = γ.length
  | [] => rfl
  | v :: vs => by show ((restE vs γ0 γ).set v _).length = _; rw [List.length_set, restE_len γ0 γ vs]
theorem restE_get {γ0 γ : Env} {i : Nat} : ∀ {vs : List Nat} {s : Sl}, (restE vs γ0 γ)[i]? = some s → (i ∈ vs ∧ s = γ0[i]?.getD .no) ∨ (i ∉ vs ∧ γ[i]? = some s)
  | [], s, h => .inr ⟨nofun, h⟩
  | v :: vs, s, h => by
    have h : ((restE vs γ0 γ).set v (γ0[v]?.getD .no))[i]? = some s := h
    by_cases hi : v = i
    · subst hi
      have hv : v < (restE vs γ0 γ).length := by
        have := (List.getElem?_eq_some_iff.mp h).1
        simpa using this
      rw [List.getElem?_set_self hv] at h
      cases h
      exact .inl ⟨List.mem_cons_self, rfl⟩
    · rw [List.getElem?_set_ne hi] at h
      rcases restE_get h with ⟨e, e2⟩ | ⟨n, e⟩
      · exact .inl ⟨List.mem_cons_of_mem _ e, e2⟩
      · exact .inr ⟨fun z => by rcases List.mem_cons.mp z with z | z; exact hi z.symm; exact n z, e⟩
theorem wipe_in {σ : St} {i : Nat} : ∀ {vs : List Nat}, i ∈ vs → (wipe σ vs)[i]? = if i < σ.length then some none else none
  | v :: vs, h => by
    show ((wipe σ vs).set v none)[i]? = _
    by_cases hi : v = i
    · subst hi
      by_cases hv : v < σ.length
      · rw [List.getElem?_set_self (by rw [wipe_length]; exact hv), if_pos hv]
      · rw [if_neg hv, List.getElem?_eq_none (by rw [List.length_set, wipe_length]; omega)]
    · rw [List.getElem?_set_ne hi]
      exact wipe_in ((List.mem_cons.mp h).resolve_left fun z => hi z.symm)
theorem wipe_eq {σ σ' : St} {vs : List Nat} (l : σ'.length = σ.length) (h : ∀ j, j ∉ vs → σ'[j]? = σ[j]?) : wipe σ' vs = wipe σ vs := List.ext_getElem? fun i => by
  by_cases hi : i ∈ vs
  · rw [wipe_in hi, wipe_in hi, l]
  · rw [wipe_get hi, wipe_get hi, h i hi]
theorem wipe_wipe {σ : St} {vs : List Nat} : wipe (wipe σ vs) vs = wipe σ vs := wipe_eq (wipe_length _ _) fun j h => wipe_get h
theorem wipe_out' {ts vs : List Nat} {σ σ' : St} (o : Out ts (wipe σ vs) σ') (h : ∀ j ∈ ts, j ∈ vs) : wipe σ' vs = wipe σ vs := by
  rw [← wipe_wipe (σ := σ)]
  exact wipe_eq o.1 fun j hj => o.2 j fun z => hj (h j z)
theorem EnvR.restored {γ0 : Env} {σx : St} {vs : List Nat} {B' : AP} (E0 : EnvR c H B og σ γ0) (h : canWipe vs γ0 = true) (F : Fr0 H H' (Sx B og) (Sx B' og') T) (E : EnvR c H' B' og' σx γ) (hw : wipe σx vs = wipe σ vs) (h' : canWipe vs γ = true) : EnvR c H' B' og' σ (restE vs γ0 γ) := by
  have len : γ.length = γ0.length := by
    have q := congrArg List.length hw
    rw [wipe_length, wipe_length] at q
    rw [← E.len, q, E0.len]
  refine ⟨E.tb, by rw [restE_len, len]; exact E0.len, fun i hi => E.out i (by rw [restE_len] at hi; exact hi), E.nd, E.dj, E.nb, E.bl, E.ent, E.grow, fun i s e => ?_⟩
  rcases restE_get e with ⟨hv, e⟩ | ⟨hv, e⟩
  · have hp := List.all_eq_true.mp h i hv
    have hp' := List.all_eq_true.mp h' i hv
    unfold plainAt at hp hp'
    have og0 : og' i = [] := by
      cases es : γ[i]? with
      | none => rw [es] at hp'; cases hp'
      | some s' =>
        rw [es] at hp'
        have hs := E.sl i s' es
        cases s' with
        | no => exact hs
        | d x => exact hs.1
        | th r => exact hs.1
        | w m => cases hp'
        | io m => cases hp'
        | scr m => cases hp'
    cases es : γ0[i]? with
    | none => rw [es] at hp; cases hp
    | some s' =>
      rw [es] at hp e
      dsimp only [Option.getD] at e
      subst e
      have hs := (E0.sl i s es).frame F fun a ha z => by
        cases s with
        | no => rw [show og i = [] from E0.sl i _ es] at ha; cases ha
        | d x => rw [(E0.sl i _ es).1] at ha; cases ha
        | th x => rw [(E0.sl i _ es).1] at ha; cases ha
        | w m => cases hp
        | io m => cases hp
        | scr m => cases hp
      have og1 : og i = [] := by
        cases s with
        | no => exact E0.sl i _ es
        | d x => exact (E0.sl i _ es).1
        | th x => exact (E0.sl i _ es).1
        | w m => cases hp
        | io m => cases hp
        | scr m => cases hp
      rw [og0, ← og1]
      exact hs
  · have := E.sl i s e
    have q : σx[i]? = σ[i]? := by rw [← wipe_get (σ := σx) hv, hw, wipe_get hv]
    rw [q] at this
    exact this

/-! ### [elt for t in src if test] -/
def lcL (vs : List Nat) (t : Tg) (tt : Fn Bool) (te : Fn D) : List D → Fn (List D)
  | [], γ => .ok [] γ
  | d :: ds, γ => if canWipe vs γ then match t d (wipeE vs γ) with
    | none => .bad
    | some γ1 => (noX tt γ1).bind fun b γ2 => if b = true then (noX te γ2).bind fun x γ3 => (lcL vs t tt te ds γ3).bind fun xs γ4 => .ok (x :: xs) γ4 else lcL vs t tt te ds γ2
    else .bad
def lcS (vs : List Nat) (src : Fn (List D)) (t : Tg) (tt : Fn Bool) (te : Fn D) : Fn Sl := fun γ => (src γ).bind fun ds γ1 => if canWipe vs γ1 && decide (ds.length ≤ sizeLine) then
    (lcL vs t tt te ds γ1).bind fun xs γ2 => if canWipe vs γ2 then .ok (.w (.l xs)) (restE vs γ1 γ2) else .bad
  else .bad
/-- one that is kept apart is written -/
theorem EnvR.wrB {p : Addr} {o : HO} (E : EnvR c H B og σ γ) (hb : B p) (hm : MutO H p) (h0 : c.H0 p = none) : EnvR c (upd H p o) B og σ γ := by
  have F : Fr0 H (upd H p o) (Sx B og) (Sx B og) (fun a => a = p) := ⟨fun a u e n _ => by rw [upd_ne n]; exact e, fun a z => by subst z; exact ⟨.inl hb, hm⟩, fun a z => .inl z⟩
  have gr : ∀ a, H a ≠ none → upd H p o a ≠ none := fun a n => by
    by_cases e : a = p
    · subst e; rw [upd_same]; exact nofun
    · rw [upd_ne e]; exact n
  refine ⟨tabs_upd E.tb hm, E.len, E.out, E.nd, E.dj, E.nb, fun a h => gr a (E.bl a h), fun a u e n t => ?_, fun a h => gr a (E.grow a h), fun j t e => (E.sl j t e).frame F fun a ha z => ?_⟩
  · rw [upd_ne fun z => by rw [z, h0] at e; cases e]
    exact E.ent a u e n t
  · subst z
    exact E.nb j a ha hb
theorem lc_sem {vs : List Nat} {src : Fn (List D)} {t : Tg} {ts : List Nat} {tt : Fn Bool} {te : Fn D} {Q : VK} (hts : ∀ j ∈ ts, j ∈ vs) (h : tE c (lcS vs src t tt te) σ H Q) : tLc (iSrc c src) (tgS c.quiet ts t) (tT c.quiet tt) (tD c.quiet te) vs σ H Q := by
  obtain ⟨B, og, γ, E, h⟩ := h
  refine ⟨B, og, γ, E, ?_⟩
  unfold tGat lcS at h
  cases es : src γ with
  | bad => rw [es] at h; exact h
  | ex x γ1 => rw [es] at h; exact h
  | ok ds γ1 =>
    rw [es] at h
    intro J H1 og1 P l1 E1 okI p1 D hD
    dsimp only [RE.bind] at h
    by_cases hc : (canWipe vs γ1 && decide (ds.length ≤ sizeLine)) = true
    · rw [if_pos hc] at h
      rw [Bool.and_eq_true] at hc
      have cw1 := hc.1
      have hlen : ds.length ≤ sizeLine := of_decide_eq_true hc.2
      have hdn : ∀ a ∈ [D], H1 a = none := fun a ha => by cases List.mem_singleton.mp ha; exact hD
      have E2 : EnvR c (upd H1 D (.lst [])) (Bx B [D]) og1 σ γ1 := E1.fresh (same_upd hD) hdn fun a ha => by
        cases List.mem_singleton.mp ha
        rw [upd_same]
        exact nofun
      have k00 : tGat c (relE c) B og (fun γ => (lcL vs t tt te ds γ).bind fun xs γ2 => if canWipe vs γ2 then RE.ok (Sl.w (.l ([] ++ xs))) (restE vs γ1 γ2) else .bad) σ H γ1 Q := by
        unfold tGat
        dsimp only [RE.bind]
        exact h
      have k0 := k00.shift l1
      have fr1 : Fr0 H1 (upd H1 D (.lst [])) (Sx B og1) (Sx (Bx B [D]) og1) (fun _ => False) := ⟨.same (same_upd hD), nofun, fun a z => by
        rcases z with z | z
        · exact (Bx_iff.mp z).elim (fun z => .inl (.inl z)) fun z => .inr (hdn a z)
        · exact .inl (.inr z)⟩
      refine ⟨fun i m H => i + m = ds.length ∧ ∃ og γ σx accD accV, EnvR c H (Bx B [D]) og σx γ ∧ wipe σx vs = wipe σ vs ∧ Later og1 og H1 H ∧ P (Sx (Bx B [D]) og) H ∧ H D = some (.lst accV) ∧ RpA c.K H (Sx (Bx B [D]) og) accD accV ∧ accD.length ≤ i ∧
        tGat c (relE c) B og1 (fun γ => (lcL vs t tt te (ds.drop i) γ).bind fun xs γ2 => if canWipe vs γ2 then RE.ok (Sl.w (.l (accD ++ xs))) (restE vs γ1 γ2) else .bad) σ H1 γ Q,
        ⟨ds.length, by omega, og1, γ1, σ, [], [], E2, rfl, Later.more (same_upd hD), okI.keep _ _ _ _ _ p1 fr1, upd_same, rfl, Nat.le_refl _, k0⟩, ?_⟩
      rintro i m H2 ⟨him, og2, γ2, σx, accD, accV, E3, hw, l2, p2, hDl, racc, hacc, k⟩
      by_cases hi : i < ds.length
      · have ei : ds[i]? = some ds[i] := List.getElem?_eq_getElem hi
        obtain ⟨go, yl⟩ := okI.step i ds[i] H2 _ p2 ei
        rw [List.drop_eq_getElem_cons hi] at k
        refine .inr ⟨go, fun H => ∃ og γ σx accD accV, EnvR c H (Bx B [D]) og σx γ ∧ wipe σx vs = wipe σ vs ∧ Later og1 og H1 H ∧ P (Sx (Bx B [D]) og) H ∧ H D = some (.lst accV) ∧ RpA c.K H (Sx (Bx B [D]) og) accD accV ∧ accD.length ≤ i + 1 ∧
          tGat c (relE c) B og1 (fun γ => (lcL vs t tt te (ds.drop (i + 1)) γ).bind fun xs γ2 => if canWipe vs γ2 then RE.ok (Sl.w (.l (accD ++ xs))) (restE vs γ1 γ2) else .bad) σ H1 γ Q, fun H' q => ⟨m - 1, by omega, by omega, q⟩, fun x H3 hy => ?_⟩
        obtain ⟨same, rx⟩ := yl x H3 hy
        unfold tGat lcL at k
        dsimp only at k
        by_cases cw : canWipe vs γ2 = true
        · rw [if_pos cw] at k
          have E4 : EnvR c H3 (Bx B [D]) og2 (wipe σ vs) (wipeE vs γ2) := by
            rw [← hw]
            exact (E3.wiped cw).more same
          refine ⟨Bx B [D], og2, wipeE vs γ2, ds[i], E4.quiet, rx, ?_⟩
          cases et : t ds[i] (wipeE vs γ2) with
          | none => rw [et] at k; exact k
          | some γa =>
            rw [et] at k
            dsimp only at k
            intro σ2 og3 out l3 E5
            refine ⟨wipe_out' out hts, Bx B [D], og3, γa, E5, ?_⟩
            unfold tGat
            unfold noX at k
            cases ett : tt γa with
            | bad => rw [ett] at k; exact k
            | ex z γb => rw [ett] at k; exact k.elim
            | ok b γb =>
              rw [ett] at k
              dsimp only [RE.bind] at k
              intro v H4 og4 on4 l4 E6 q4 n4
              obtain ⟨rfl, rfl⟩ := q4
              have lall : Later og1 og4 H1 H4 := ((l2.trans (Later.more same)).trans l3).trans l4
              have f34 : Fr0 H2 H4 (Sx (Bx B [D]) og2) (Sx (Bx B [D]) og4) og2.all := Later.fr E3 (((Later.more same).trans l3).trans l4)
              have nD : ∀ og' σ' γ' Hx, EnvR c Hx (Bx B [D]) og' σ' γ' → ¬ og'.all D := fun og' σ' γ' Hx Ex ⟨j, hj⟩ => Ex.nb j D hj (.inl rfl)
              have hD4 : H4 D = some (.lst accV) := f34.kp D _ hDl (nD _ _ _ _ E3) nt_lst
              cases v with
              | false =>
                refine ⟨og4, γb, σ2, accD, accV, E6.loud, wipe_out' out hts, lall, okI.keep _ _ _ _ _ p2 f34, hD4, RpA.frame f34 _ _ racc, by omega, k⟩
              | true =>
                simp only [if_true] at k ⊢
                refine ⟨Bx B [D], og4, γb, E6, ?_⟩
                unfold tGat
                cases ete : te γb with
                | bad => rw [ete] at k; exact k
                | ex z γc => rw [ete] at k; exact k.elim
                | ok y γc =>
                  rw [ete] at k
                  dsimp only at k
                  intro u H5 og5 on5 l5 E7 q5 n5
                  obtain ⟨rfl, ry⟩ := q5
                  have f5 : Fr0 H4 H5 (Sx (Bx B [D]) og4) (Sx (Bx B [D]) og5) og4.all := Later.fr E6 l5
                  have hD5 : H5 D = some (.lst accV) := f5.kp D _ hD4 (nD _ _ _ _ (EnvR.loud E6)) nt_lst
                  have racc5 := RpA.frame f5 _ _ (RpA.frame f34 _ _ racc)
                  refine ⟨accV, hD5, by rw [racc5.len]; omega, ?_⟩
                  have fD : ∀ o, Fr0 H5 (upd H5 D o) (Sx (Bx B [D]) og5) (Sx (Bx B [D]) og5) (fun a => a = D) := fun o => ⟨fun a u e n _ => by rw [upd_ne n]; exact e, fun a z => by subst z; exact ⟨.inl (.inl rfl), .inl ⟨accV, hD5⟩⟩, fun a z => .inl z⟩
                  have hB : Bx B [D] D := .inl rfl
                  have h0D : c.H0 D = none := E1.fresh0 hD
                  have E8 : EnvR c (upd H5 D (.lst (accV ++ [u]))) (Bx B [D]) og5 σ2 γc := E7.loud.wrB hB (.inl ⟨accV, hD5⟩) h0D
                  have l6 : Later og1 og5 H1 (upd H5 D (.lst (accV ++ [u]))) := ⟨fun a o e n t => by
                    rw [upd_ne fun z => by rw [z, hD] at e; cases e]
                    exact (lall.trans l5).kp a o e n t, fun a n => by
                    by_cases z : a = D
                    · subst z; rw [upd_same]; exact nofun
                    · rw [upd_ne z]; exact (lall.trans l5).gr a n, (lall.trans l5).sub⟩
                  refine ⟨og5, γc, σ2, accD ++ [y], accV ++ [u], E8, wipe_out' out hts, l6, okI.keep _ _ _ _ _ (okI.keep _ _ _ _ _ (okI.keep _ _ _ _ _ p2 f34) f5) (fD _), upd_same, ?_, by rw [List.length_append, List.length_singleton]; omega, ?_⟩
                  · exact RpA.frame (fD _) _ _ (racc5.append ⟨u, [], rfl, ry, rfl⟩)
                  · cases el : lcL vs t tt te (ds.drop (i + 1)) γc with
                    | bad => rw [el] at k; exact k
                    | ex z γd => rw [el] at k; exact k
                    | ok xs γd =>
                      rw [el] at k
                      dsimp only [RE.bind] at k ⊢
                      rw [List.append_assoc]
                      exact k
        · rw [if_neg cw] at k; exact k.elim
      · have e : i = ds.length := by omega
        subst e
        refine .inl ⟨okI.stop H2 _ p2, ?_⟩
        rw [List.drop_length] at k
        unfold tGat lcL at k
        dsimp only [RE.bind] at k
        by_cases cw : canWipe vs γ2 = true
        · rw [if_pos cw, List.append_nil] at k
          have F : Fr0 H1 H2 (Sx B og1) (Sx (Bx B [D]) og2) og1.all := ⟨l2.kp, fun a ⟨j, z⟩ => ⟨.inr ⟨j, z⟩, E1.mu z⟩, fun a z => by
            rcases z with z | z
            · exact (Bx_iff.mp z).elim (fun z => .inl (.inl z)) fun z => .inr (hdn a z)
            · exact (l2.sub a z).imp .inr id⟩
          have E9 := E1.restored cw1 F E3 hw cw
          refine k (.ref D) H2 og2 [D] l2 E9 ⟨⟨D, rfl, ⟨rfl, accV, hDl, RpA.frame (T := fun _ => False) ⟨.refl, nofun, fun a z => .inl ?_⟩ _ _ racc⟩, List.nodup_cons.mpr ⟨nofun, List.nodup_nil⟩⟩, fun a ha z => ?_⟩ hdn
          · rcases z with z | z | z
            · exact .inl (.inl z)
            · exact .inl (.inr z)
            · exact .inr z
          · cases List.mem_singleton.mp ha
            rcases z with z | ⟨j, z⟩
            · exact E1.bl D z hD
            · exact E3.nb j D z (.inl rfl)
        · rw [if_neg cw] at k; exact k.elim
    · rw [if_neg hc] at h; exact h.elim
theorem pe_lc' {elt tg iter : Expr} {ifs : List Expr} {scope : Scope} {own : List (Str × Nat)} {pos : Pos} {src : Fn (List D)} {t : Tg} {ts : List Nat} {tt : Fn Bool} {te : Fn D} (G : Good X c) (hi : PI X tg iter (iSrc c src)) (ok : BlkOk X.N X.env.scope scope own)
    (hts : ∀ j ∈ ts, j ∈ own.map (·.2))
    (hg : ∀ (s : Shared) (H : Hp) (C : Addr) (cl : List (Str × Addr)) (fp : List Addr), PG (X.blk s H scope (compEnvC scope cl C X.env) fp) tg (tgS c.quiet ts t)) (ht : ∀ (s : Shared) (H : Hp) (C : Addr) (cl : List (Str × Addr)) (fp : List Addr), PTs (X.blk s H scope (compEnvC scope cl C X.env) fp) ifs (tT c.quiet tt))
    (he : ∀ (s : Shared) (H : Hp) (C : Addr) (cl : List (Str × Addr)) (fp : List Addr), PE (X.blk s H scope (compEnvC scope cl C X.env) fp) elt (tD c.quiet te)) (hs : ∀ x, foldedSetIterable iter X.env x = pure x := by intro _; rfl) :
    PE X (.ListComp elt [⟨tg, iter, ifs, 0⟩] scope pos) (tE c (lcS (own.map (·.2)) src t tt te)) := PE_imp (pe_lc G.calm G.nd hi ok hg ht he hs) fun σ H Q h => lc_sem hts h
theorem ps_setLc' {i : Nat} {y : Str} {py spos : Pos} {elt tg iter : Expr} {ifs : List Expr} {scope : Scope} {own : List (Str × Nat)} {pos : Pos} {src : Fn (List D)} {t : Tg} {ts : List Nat} {tt : Fn Bool} {te : Fn D} (G : Good X c) (hy : X.N[i]? = some y) (hyl : X.env.scope.names.lookup y = some .local)
    (hsw : swapsWith (.ListComp elt [⟨tg, iter, ifs, 0⟩] scope pos) (some (.Name y py)) spos.line X.env = pure true) (hi : PI X tg iter (iSrc c src)) (ok : BlkOk X.N X.env.scope scope own)
    (hts : ∀ j ∈ ts, j ∈ own.map (·.2))
    (hg : ∀ (s : Shared) (H : Hp) (C : Addr) (cl : List (Str × Addr)) (fp : List Addr), PG (X.blk s H scope (compEnvC scope cl C X.env) fp) tg (tgS c.quiet ts t)) (ht : ∀ (s : Shared) (H : Hp) (C : Addr) (cl : List (Str × Addr)) (fp : List Addr), PTs (X.blk s H scope (compEnvC scope cl C X.env) fp) ifs (tT c.quiet tt))
    (he : ∀ (s : Shared) (H : Hp) (C : Addr) (cl : List (Str × Addr)) (fp : List Addr), PE (X.blk s H scope (compEnvC scope cl C X.env) fp) elt (tD c.quiet te)) (hs : ∀ x, foldedSetIterable iter X.env x = pure x := by intro _; rfl) :
    PS X (.Assign [.Name y py] (.ListComp elt [⟨tg, iter, ifs, 0⟩] scope pos) spos) (tS c (setS i (lcS (own.map (·.2)) src t tt te))) := PS_imp (ps_setLc G.calm G.nd hy hyl hsw hi ok hg ht he hs) fun D σ H h => lc_sem hts (set_core h)
end
end Eg
end
section
/-! E11: comprehensions of two clauses -/
namespace Eg
open PySem PySem.Spec L2
open PyProof.Rows hiding St
section
variable {c : Cc} {H H1 H2 H' : Hp} {B S T : AP} {og og1 og2 og' : Og} {σ σ1 : St} {γ γ1 : Env} {X : Cx}

/-- the second clause's loop: it fills the list at D -/
theorem loop_in {D : Addr} {vs : List Nat} {t : Tg} {ts : List Nat} {tt : Fn Bool} {te : Fn Eg.D} {g : TG} {ttt : TT} {tte : TE} {J : It} {ds : List Eg.D} {P : AP → Hp → Prop} {accD : List Eg.D} {accV : List V} {Nx : Hp → Prop} {xs : List Eg.D} {γe : Env}
    (hg : g = tgS c.quiet ts t) (htt : ttt = tT c.quiet tt) (hte : tte = tD c.quiet te) (hts : ∀ j ∈ ts, j ∈ vs)
    (okI : ItOk c J ds P) (hB : B D) (h0D : c.H0 D = none) (E : EnvR c H B og σ γ) (p : P (Sx B og) H) (hD : H D = some (.lst accV)) (r : RpA c.K H (Sx B og) accD accV)
    (hz : accD.length + ds.length ≤ sizeLine) (k : lcL vs t tt te ds γ = .ok xs γe)
    (fin : ∀ H' og' σ' accV', wipe σ' vs = wipe σ vs → (∀ a o, H a = some o → ¬ og.all a → a ≠ D → NT o → H' a = some o) → (∀ a, H a ≠ none → H' a ≠ none) → (∀ a, og'.all a → og.all a ∨ H a = none) → EnvR c H' B og' σ' γe → H' D = some (.lst accV') → RpA c.K H' (Sx B og') (accD ++ xs) accV' → Nx H') :
    ∃ W1 : Nat → Nat → Hp → Prop, (∃ m, W1 0 m H) ∧ ∀ j k H, W1 j k H → (J.stop j H ∧ Nx H) ∨ (J.go j H ∧ ∃ Nx1 : Hp → Prop, (∀ H', Nx1 H' → ∃ k', k' < k ∧ W1 (j + 1) k' H') ∧ ∀ x H', J.yld j H x H' → g x (wipe σ vs) H' fun σ3 H5 => wipe σ3 vs = wipe σ vs ∧ ttt σ3 H5 fun b H6 =>
      if b = true then tte σ3 H6 fun y H7 => ∃ acc, H7 D = some (.lst acc) ∧ acc.length < sizeLine ∧ Nx1 (upd H7 D (.lst (acc ++ [y]))) else Nx1 H6) := by
  subst hg htt hte
  have nD : ∀ {og' : Og} {σ' γ' Hx}, EnvR c Hx B og' σ' γ' → ¬ og'.all D := fun {og' σ' γ' Hx} Ex ⟨j, hj⟩ => Ex.nb j D hj hB
  refine ⟨fun i m H2 => i + m = ds.length ∧ ∃ og2 γ2 σx aD aV ys, EnvR c H2 B og2 σx γ2 ∧ wipe σx vs = wipe σ vs ∧ (∀ a o, H a = some o → ¬ og.all a → a ≠ D → NT o → H2 a = some o) ∧ (∀ a, H a ≠ none → H2 a ≠ none) ∧ (∀ a, og2.all a → og.all a ∨ H a = none) ∧ P (Sx B og2) H2 ∧ H2 D = some (.lst aV) ∧
    RpA c.K H2 (Sx B og2) aD aV ∧ aD.length ≤ accD.length + i ∧ aD ++ ys = accD ++ xs ∧ lcL vs t tt te (ds.drop i) γ2 = .ok ys γe, ⟨ds.length, by omega, og, γ, σ, accD, accV, xs, E, rfl, fun a o e _ _ _ => e, fun _ h => h, fun _ h => .inl h, p, hD, r, Nat.le_refl _, rfl, k⟩, ?_⟩
  rintro i m H2 ⟨him, og2, γ2, σx, aD, aV, ys, E3, hw, kp, gr, sub, p2, hDl, racc, hacc, eys, k⟩
  by_cases hi : i < ds.length
  · have ei : ds[i]? = some ds[i] := List.getElem?_eq_getElem hi
    obtain ⟨go, yl⟩ := okI.step i ds[i] H2 _ p2 ei
    rw [List.drop_eq_getElem_cons hi] at k
    refine .inr ⟨go, fun H2 => ∃ og2 γ2 σx aD aV ys, EnvR c H2 B og2 σx γ2 ∧ wipe σx vs = wipe σ vs ∧ (∀ a o, H a = some o → ¬ og.all a → a ≠ D → NT o → H2 a = some o) ∧ (∀ a, H a ≠ none → H2 a ≠ none) ∧ (∀ a, og2.all a → og.all a ∨ H a = none) ∧ P (Sx B og2) H2 ∧ H2 D = some (.lst aV) ∧
      RpA c.K H2 (Sx B og2) aD aV ∧ aD.length ≤ accD.length + (i + 1) ∧ aD ++ ys = accD ++ xs ∧ lcL vs t tt te (ds.drop (i + 1)) γ2 = .ok ys γe, fun H' q => ⟨m - 1, by omega, by omega, q⟩, fun x H3 hy => ?_⟩
    obtain ⟨same, rx⟩ := yl x H3 hy
    unfold lcL at k
    by_cases cw : canWipe vs γ2 = true
    · rw [if_pos cw] at k
      have E4 : EnvR c H3 B og2 (wipe σ vs) (wipeE vs γ2) := by
        rw [← hw]
        exact (E3.wiped cw).more same
      refine ⟨B, og2, wipeE vs γ2, ds[i], E4.quiet, rx, ?_⟩
      cases et : t ds[i] (wipeE vs γ2) with
      | none => rw [et] at k; cases k
      | some γa =>
        rw [et] at k
        dsimp only at k
        intro σ2 og3 out l3 E5
        refine ⟨wipe_out' out hts, B, og3, γa, E5, ?_⟩
        unfold tGat
        unfold noX at k
        cases ett : tt γa with
        | bad => rw [ett] at k; cases k
        | ex z γb => rw [ett] at k; cases k
        | ok b γb =>
          rw [ett] at k
          dsimp only [RE.bind] at k
          intro v H4 og4 on4 l4 E6 q4 n4
          obtain ⟨rfl, rfl⟩ := q4
          have l24 : Later og2 og4 H2 H4 := ((Later.more same).trans l3).trans l4
          have f34 : Fr0 H2 H4 (Sx B og2) (Sx B og4) og2.all := Later.fr E3 l24
          have hD4 : H4 D = some (.lst aV) := f34.kp D _ hDl (nD E3) nt_lst
          have kp4 : ∀ a o, H a = some o → ¬ og.all a → a ≠ D → NT o → H4 a = some o := fun a o e n d t => by
            refine f34.kp a o (kp a o e n d t) (fun z => ?_) t
            rcases sub a z with z | z
            · exact n z
            · rw [e] at z; cases z
          have gr4 : ∀ a, H a ≠ none → H4 a ≠ none := fun a n => l24.gr a (gr a n)
          have sub4 : ∀ a, og4.all a → og.all a ∨ H a = none := fun a z => by
            rcases l24.sub a z with z | z
            · exact sub a z
            · cases q : H a with
              | none => exact .inr rfl
              | some o => exact absurd z (gr a (by rw [q]; exact nofun))
          cases v with
          | false =>
            exact ⟨og4, γb, σ2, aD, aV, ys, E6.loud, wipe_out' out hts, kp4, gr4, sub4, okI.keep _ _ _ _ _ p2 f34, hD4, RpA.frame f34 _ _ racc, by omega, eys, k⟩
          | true =>
            simp only [if_true] at k ⊢
            refine ⟨B, og4, γb, E6, ?_⟩
            unfold tGat
            cases ete : te γb with
            | bad => rw [ete] at k; cases k
            | ex z γc => rw [ete] at k; cases k
            | ok y γc =>
              rw [ete] at k
              dsimp only at k
              intro u H5 og5 on5 l5 E7 q5 n5
              obtain ⟨rfl, ry⟩ := q5
              have f5 : Fr0 H4 H5 (Sx B og4) (Sx B og5) og4.all := Later.fr E6 l5
              have hD5 : H5 D = some (.lst aV) := f5.kp D _ hD4 (nD (EnvR.loud E6)) nt_lst
              have racc5 := RpA.frame f5 _ _ (RpA.frame f34 _ _ racc)
              refine ⟨aV, hD5, by rw [racc5.len]; omega, ?_⟩
              have fD : ∀ o, Fr0 H5 (upd H5 D o) (Sx B og5) (Sx B og5) (fun a => a = D) := fun o => ⟨fun a u e n _ => by rw [upd_ne n]; exact e, fun a z => by subst z; exact ⟨.inl hB, .inl ⟨aV, hD5⟩⟩, fun a z => .inl z⟩
              cases el : lcL vs t tt te (ds.drop (i + 1)) γc with
              | bad => rw [el] at k; cases k
              | ex z γd => rw [el] at k; cases k
              | ok zs γd =>
                rw [el] at k
                cases k
                refine ⟨og5, γc, σ2, aD ++ [y], aV ++ [u], zs, E7.loud.wrB hB (.inl ⟨aV, hD5⟩) h0D, wipe_out' out hts, fun a o e n d t => ?_, fun a n => ?_, fun a z => ?_, okI.keep _ _ _ _ _ (okI.keep _ _ _ _ _ (okI.keep _ _ _ _ _ p2 f34) f5) (fD _), upd_same, RpA.frame (fD _) _ _ (racc5.append ⟨u, [], rfl, ry, rfl⟩), by rw [List.length_append, List.length_singleton]; omega, by rw [← eys, List.append_assoc]; rfl, el⟩
                · rw [upd_ne d]
                  refine f5.kp a o (kp4 a o e n d t) (fun z => ?_) t
                  · rcases sub4 a z with z | z
                    · exact n z
                    · rw [e] at z; cases z
                · by_cases z : a = D
                  · subst z; rw [upd_same]; exact nofun
                  · rw [upd_ne z]; exact l5.gr a (gr4 a n)
                · rcases l5.sub a z with z | z
                  · exact sub4 a z
                  · cases q : H a with
                    | none => exact .inr rfl
                    | some o => exact absurd z (gr4 a (by rw [q]; exact nofun))
    · rw [if_neg cw] at k; cases k
  · have e : i = ds.length := by omega
    subst e
    rw [List.drop_length] at k
    cases k
    rw [List.append_nil] at eys
    subst eys
    exact .inl ⟨okI.stop H2 _ p2, fin H2 og2 σx aV hw kp gr sub E3 hDl racc⟩

def lc2L (vs vs1 : List Nat) (t : Tg) (tt : Fn Bool) (src1 : Fn (List D)) (t1 : Tg) (tt1 : Fn Bool) (te : Fn D) : Nat → List D → Fn (List D)
  | _, [], γ => .ok [] γ
  | n, d :: ds, γ => if canWipe vs γ then match t d (wipeE vs γ) with
    | none => .bad
    | some γ1 => (noX tt γ1).bind fun b γ2 => if b = true then (noX src1 γ2).bind fun ds1 γ3 => if n + ds1.length ≤ sizeLine then
          (noX (lcL vs1 t1 tt1 te ds1) γ3).bind fun xs γ4 => (lc2L vs vs1 t tt src1 t1 tt1 te (n + xs.length) ds γ4).bind fun ys γ5 => .ok (xs ++ ys) γ5
        else .bad
      else lc2L vs vs1 t tt src1 t1 tt1 te n ds γ2
    else .bad
def lc2S (vs vs1 : List Nat) (src : Fn (List D)) (t : Tg) (tt : Fn Bool) (src1 : Fn (List D)) (t1 : Tg) (tt1 : Fn Bool) (te : Fn D) : Fn Sl := fun γ => (src γ).bind fun ds γ1 => if canWipe vs γ1 then
    (lc2L vs vs1 t tt src1 t1 tt1 te 0 ds γ1).bind fun xs γ2 => if canWipe vs γ2 then .ok (.w (.l xs)) (restE vs γ1 γ2) else .bad
  else .bad
theorem wipe_sub {σ σ' : St} {vs vs1 : List Nat} (h : ∀ j ∈ vs1, j ∈ vs) (l : σ'.length = σ.length) (e : wipe σ' vs1 = wipe σ vs1) : wipe σ' vs = wipe σ vs := wipe_eq l fun j hj => by
  have hj1 : j ∉ vs1 := fun z => hj (h j z)
  rw [← wipe_get (σ := σ') hj1, e, wipe_get hj1]
theorem wipe_len {σ σ' : St} {vs : List Nat} (e : wipe σ' vs = wipe σ vs) : σ'.length = σ.length := by
  have q := congrArg List.length e
  rw [wipe_length, wipe_length] at q
  exact q
theorem lc2_sem {vs vs1 : List Nat} {src src1 : Fn (List D)} {t t1 : Tg} {ts ts1 : List Nat} {tt tt1 : Fn Bool} {te : Fn D} {Q : VK} (hv : ∀ i ∈ vs1, i ∈ vs) (hts : ∀ j ∈ ts, j ∈ vs) (hts1 : ∀ j ∈ ts1, j ∈ vs1)
    (h : tE c (lc2S vs vs1 src t tt src1 t1 tt1 te) σ H Q) : tLc2 (iSrc c src) (tgS c.quiet ts t) (tT c.quiet tt) (iSrc c.quiet src1) (tgS c.quiet ts1 t1) (tT c.quiet tt1) (tD c.quiet te) vs vs1 σ H Q := by
  obtain ⟨B, og, γ, E, h⟩ := h
  refine ⟨B, og, γ, E, ?_⟩
  unfold tGat lc2S at h
  cases es : src γ with
  | bad => rw [es] at h; exact h
  | ex x γ1 => rw [es] at h; exact h
  | ok ds γ1 =>
    rw [es] at h
    intro J H1 og1 P l1 E1 okI p1 D hD
    dsimp only [RE.bind] at h
    by_cases hc : canWipe vs γ1 = true
    · rw [if_pos hc] at h
      have hdn : ∀ a ∈ [D], H1 a = none := fun a ha => by cases List.mem_singleton.mp ha; exact hD
      have E2 : EnvR c (upd H1 D (.lst [])) (Bx B [D]) og1 σ γ1 := E1.fresh (same_upd hD) hdn fun a ha => by
        cases List.mem_singleton.mp ha
        rw [upd_same]
        exact nofun
      have k00 : tGat c (relE c) B og (fun γ => (lc2L vs vs1 t tt src1 t1 tt1 te 0 ds γ).bind fun xs γ2 => if canWipe vs γ2 then RE.ok (Sl.w (.l ([] ++ xs))) (restE vs γ1 γ2) else .bad) σ H γ1 Q := by
        unfold tGat
        dsimp only [RE.bind]
        exact h
      have k0 := k00.shift l1
      have hB : Bx B [D] D := .inl rfl
      have h0D : c.H0 D = none := E1.fresh0 hD
      have fr1 : Fr0 H1 (upd H1 D (.lst [])) (Sx B og1) (Sx (Bx B [D]) og1) (fun _ => False) := ⟨.same (same_upd hD), nofun, fun a z => by
        rcases z with z | z
        · exact (Bx_iff.mp z).elim (fun z => .inl (.inl z)) fun z => .inr (hdn a z)
        · exact .inl (.inr z)⟩
      refine ⟨fun i m H => i + m = ds.length ∧ ∃ og γ σx accD accV, EnvR c H (Bx B [D]) og σx γ ∧ wipe σx vs = wipe σ vs ∧ Later og1 og H1 H ∧ P (Sx (Bx B [D]) og) H ∧ H D = some (.lst accV) ∧ RpA c.K H (Sx (Bx B [D]) og) accD accV ∧
        tGat c (relE c) B og1 (fun γ => (lc2L vs vs1 t tt src1 t1 tt1 te accD.length (ds.drop i) γ).bind fun xs γ2 => if canWipe vs γ2 then RE.ok (Sl.w (.l (accD ++ xs))) (restE vs γ1 γ2) else .bad) σ H1 γ Q,
        ⟨ds.length, by omega, og1, γ1, σ, [], [], E2, rfl, Later.more (same_upd hD), okI.keep _ _ _ _ _ p1 fr1, upd_same, rfl, k0⟩, ?_⟩
      rintro i m H2 ⟨him, og2, γ2, σx, accD, accV, E3, hw, l2, p2, hDl, racc, k⟩
      by_cases hi : i < ds.length
      · have ei : ds[i]? = some ds[i] := List.getElem?_eq_getElem hi
        obtain ⟨go, yl⟩ := okI.step i ds[i] H2 _ p2 ei
        rw [List.drop_eq_getElem_cons hi] at k
        refine .inr ⟨go, fun H => ∃ og γ σx accD accV, EnvR c H (Bx B [D]) og σx γ ∧ wipe σx vs = wipe σ vs ∧ Later og1 og H1 H ∧ P (Sx (Bx B [D]) og) H ∧ H D = some (.lst accV) ∧ RpA c.K H (Sx (Bx B [D]) og) accD accV ∧
          tGat c (relE c) B og1 (fun γ => (lc2L vs vs1 t tt src1 t1 tt1 te accD.length (ds.drop (i + 1)) γ).bind fun xs γ2 => if canWipe vs γ2 then RE.ok (Sl.w (.l (accD ++ xs))) (restE vs γ1 γ2) else .bad) σ H1 γ Q, fun H' q => ⟨m - 1, by omega, by omega, q⟩, fun x H3 hy => ?_⟩
        obtain ⟨same, rx⟩ := yl x H3 hy
        unfold tGat lc2L at k
        dsimp only at k
        by_cases cw : canWipe vs γ2 = true
        · rw [if_pos cw] at k
          have E4 : EnvR c H3 (Bx B [D]) og2 (wipe σ vs) (wipeE vs γ2) := by
            rw [← hw]
            exact (E3.wiped cw).more same
          refine ⟨Bx B [D], og2, wipeE vs γ2, ds[i], E4.quiet, rx, ?_⟩
          cases et : t ds[i] (wipeE vs γ2) with
          | none => rw [et] at k; exact k
          | some γa =>
            rw [et] at k
            dsimp only at k
            intro σ2 og3 out l3 E5
            have hw2 := wipe_out' out hts
            refine ⟨hw2, Bx B [D], og3, γa, E5, ?_⟩
            unfold tGat
            unfold noX at k
            cases ett : tt γa with
            | bad => rw [ett] at k; exact k
            | ex z γb => rw [ett] at k; exact k.elim
            | ok b γb =>
              rw [ett] at k
              dsimp only [RE.bind] at k
              intro v H4 og4 on4 l4 E6 q4 n4
              obtain ⟨rfl, rfl⟩ := q4
              have lall : Later og1 og4 H1 H4 := ((l2.trans (Later.more same)).trans l3).trans l4
              have f34 : Fr0 H2 H4 (Sx (Bx B [D]) og2) (Sx (Bx B [D]) og4) og2.all := Later.fr E3 (((Later.more same).trans l3).trans l4)
              have nD : ∀ og' σ' γ' Hx, EnvR c Hx (Bx B [D]) og' σ' γ' → ¬ og'.all D := fun og' σ' γ' Hx Ex ⟨j, hj⟩ => Ex.nb j D hj (.inl rfl)
              have hD4 : H4 D = some (.lst accV) := f34.kp D _ hDl (nD _ _ _ _ E3) nt_lst
              cases v with
              | false =>
                exact ⟨og4, γb, σ2, accD, accV, E6.loud, hw2, lall, okI.keep _ _ _ _ _ p2 f34, hD4, RpA.frame f34 _ _ racc, k⟩
              | true =>
                simp only [if_true] at k ⊢
                refine ⟨Bx B [D], og4, γb, E6, ?_⟩
                cases ese : src1 γb with
                | bad => rw [ese] at k; exact k
                | ex z γc => rw [ese] at k; exact k.elim
                | ok ds1 γc =>
                  rw [ese] at k
                  dsimp only at k
                  intro J1 H5 og5 P1 l5 E7 okI1 q5
                  by_cases hl : accD.length + ds1.length ≤ sizeLine
                  · rw [if_pos hl] at k
                    cases el : lcL vs1 t1 tt1 te ds1 γc with
                    | bad => rw [el] at k; exact k.elim
                    | ex z γd => rw [el] at k; exact k.elim
                    | ok xs γd =>
                      rw [el] at k
                      dsimp only at k
                      have f5 : Fr0 H4 H5 (Sx (Bx B [D]) og4) (Sx (Bx B [D]) og5) og4.all := Later.fr E6 l5
                      have hD5 : H5 D = some (.lst accV) := f5.kp D _ hD4 (nD _ _ _ _ (EnvR.loud E6)) nt_lst
                      have racc5 := RpA.frame f5 _ _ (RpA.frame f34 _ _ racc)
                      refine loop_in (c := c) rfl rfl rfl hts1 ⟨okI1.step, okI1.stop, okI1.keep⟩ hB h0D E7.loud q5 hD5 racc5 hl el fun H6 og6 σ6 aV6 hw6 kp6 gr6 sub6 E8 hD6 r6 => ?_
                      have l45 := lall.trans l5
                      have dead : ∀ a o, H1 a = some o → ¬ og1.all a → ¬ og5.all a := fun a o e n z => (l45.sub a z).elim n fun z => by
                        rw [e] at z
                        cases z
                      have nDH : ∀ a o, H1 a = some o → a ≠ D := fun a o e z => by
                        rw [z, hD] at e
                        cases e
                      have sub16 : ∀ a, og6.all a → og1.all a ∨ H1 a = none := fun a z => (sub6 a z).elim (l45.sub a) fun z => by
                        cases q : H1 a with
                        | none => exact .inr rfl
                        | some o => exact absurd z (l45.gr a (by rw [q]; exact nofun))
                      have l6 : Later og1 og6 H1 H6 := ⟨fun a o e n t => kp6 a o (l45.kp a o e n t) (dead a o e n) (nDH a o e) t, fun a n => gr6 a (l45.gr a n), sub16⟩
                      have mu6 : ∀ a, (og5.all a ∨ a = D) → Sx (Bx B [D]) og5 a ∧ MutO H5 a := fun a z => by
                        rcases z with ⟨j, z⟩ | z
                        · exact ⟨.inr ⟨j, z⟩, E7.mu z⟩
                        · subst z
                          exact ⟨.inl (.inl rfl), .inl ⟨accV, hD5⟩⟩
                      have f6 : Fr0 H5 H6 (Sx (Bx B [D]) og5) (Sx (Bx B [D]) og6) (fun a => og5.all a ∨ a = D) := ⟨fun a o e n t => kp6 a o e (fun z => n (.inl z)) (fun z => n (.inr z)) t, mu6, fun a z => z.elim (fun z => .inl (.inl z)) fun z => (sub6 a z).imp .inr id⟩
                      refine ⟨og6, γd, σ6, accD ++ xs, aV6, E8, by rw [wipe_sub hv (wipe_len hw6) hw6, hw2], l6, okI.keep _ _ _ _ _ (okI.keep _ _ _ _ _ (okI.keep _ _ _ _ _ p2 f34) f5) f6, hD6, r6, ?_⟩
                      rw [List.length_append]
                      cases er : lc2L vs vs1 t tt src1 t1 tt1 te (accD.length + xs.length) (ds.drop (i + 1)) γd with
                      | bad => rw [er] at k; exact k
                      | ex z γe => rw [er] at k; exact k
                      | ok zs γe =>
                        rw [er] at k
                        dsimp only [RE.bind] at k ⊢
                        rw [List.append_assoc]
                        exact k
                  · rw [if_neg hl] at k; exact k.elim
        · rw [if_neg cw] at k; exact k.elim
      · have e : i = ds.length := by omega
        subst e
        refine .inl ⟨okI.stop H2 _ p2, ?_⟩
        rw [List.drop_length] at k
        unfold tGat lc2L at k
        dsimp only [RE.bind] at k
        by_cases cw : canWipe vs γ2 = true
        · rw [if_pos cw, List.append_nil] at k
          have F : Fr0 H1 H2 (Sx B og1) (Sx (Bx B [D]) og2) og1.all := ⟨l2.kp, fun a ⟨j, z⟩ => ⟨.inr ⟨j, z⟩, E1.mu z⟩, fun a z => by
            rcases z with z | z
            · exact (Bx_iff.mp z).elim (fun z => .inl (.inl z)) fun z => .inr (hdn a z)
            · exact (l2.sub a z).imp .inr id⟩
          have E9 := E1.restored hc F E3 hw cw
          refine k (.ref D) H2 og2 [D] l2 E9 ⟨⟨D, rfl, ⟨rfl, accV, hDl, RpA.frame (T := fun _ => False) ⟨.refl, nofun, fun a z => .inl ?_⟩ _ _ racc⟩, List.nodup_cons.mpr ⟨nofun, List.nodup_nil⟩⟩, fun a ha z => ?_⟩ hdn
          · rcases z with z | z | z
            · exact .inl (.inl z)
            · exact .inl (.inr z)
            · exact .inr z
          · cases List.mem_singleton.mp ha
            rcases z with z | ⟨j, z⟩
            · exact E1.bl D z hD
            · exact E3.nb j D z (.inl rfl)
        · rw [if_neg cw] at k; exact k.elim
    · rw [if_neg hc] at h; exact h.elim
theorem pe_lc2' {elt tg iter tg1 iter1 : Expr} {ifs ifs1 : List Expr} {scope : Scope} {own : List (Str × Nat)} {vs1 : List Nat} {pos : Pos} {src src1 : Fn (List D)} {t t1 : Tg} {ts ts1 : List Nat} {tt tt1 : Fn Bool} {te : Fn D} (G : Good X c) (hi : PI X tg iter (iSrc c src)) (ok : BlkOk X.N X.env.scope scope own)
    (hv : ∀ i ∈ vs1, i ∈ own.map (·.2)) (hts : ∀ j ∈ ts, j ∈ own.map (·.2)) (hts1 : ∀ j ∈ ts1, j ∈ vs1)
    (hg : ∀ (s : Shared) (H : Hp) (C : Addr) (cl : List (Str × Addr)) (fp : List Addr), PG (X.blk s H scope (compEnvC scope cl C X.env) fp) tg (tgS c.quiet ts t)) (ht : ∀ (s : Shared) (H : Hp) (C : Addr) (cl : List (Str × Addr)) (fp : List Addr), PTs (X.blk s H scope (compEnvC scope cl C X.env) fp) ifs (tT c.quiet tt))
    (hi1 : ∀ (s : Shared) (H : Hp) (C : Addr) (cl : List (Str × Addr)) (fp : List Addr), PI (X.blk s H scope (compEnvC scope cl C X.env) fp) tg1 iter1 (iSrc c.quiet src1))
    (hg1 : ∀ (s : Shared) (H : Hp) (C : Addr) (cl : List (Str × Addr)) (fp : List Addr), PG (X.blk s H scope (compEnvC scope cl C X.env) fp) tg1 (tgS c.quiet ts1 t1)) (ht1 : ∀ (s : Shared) (H : Hp) (C : Addr) (cl : List (Str × Addr)) (fp : List Addr), PTs (X.blk s H scope (compEnvC scope cl C X.env) fp) ifs1 (tT c.quiet tt1))
    (he : ∀ (s : Shared) (H : Hp) (C : Addr) (cl : List (Str × Addr)) (fp : List Addr), PE (X.blk s H scope (compEnvC scope cl C X.env) fp) elt (tD c.quiet te)) (hs : ∀ x, foldedSetIterable iter X.env x = pure x := by intro _; rfl) (hs1 : ∀ env x, foldedSetIterable iter1 env x = pure x := by intro _ _; rfl) :
    PE X (.ListComp elt [⟨tg, iter, ifs, 0⟩, ⟨tg1, iter1, ifs1, 0⟩] scope pos) (tE c (lc2S (own.map (·.2)) vs1 src t tt src1 t1 tt1 te)) := PE_imp (pe_lc2 G.calm G.nd hi ok hv hg ht hi1 hg1 ht1 he hs hs1) fun σ H Q h => lc2_sem hv hts hts1 h
end
end Eg
end
section
/-! E12: defs and their calls -/
namespace Eg
open PySem PySem.Spec L2
open PyProof.Rows hiding St

/-! ### promises -/
/-- a def's promise, where nothing is being shown -/
structure FnG (P : Program) (w : World) (K : PySem.W.Frag) (mg : Str → Option Value) (base : Heap) (k : Nat) (f : Addr) (fd : FuncData) (ps : List Str) (sp : Sp) : Prop where
  len : ∀ vs H Q E, sp vs H Q E → vs.length = ps.length
  run : ∀ (A : Around) (outer : List PySem.Env) (s : Shared) (H : Hp) (args : Args) (us : List Value) (vs : List V) (Q : VK) (E : XK), Room k A → A.guards = some [] → Env0 P w K mg base A outer s H →
    BindsTo s fd args (ps.zip us) → Vals vs us → sp vs H Q E → codeAny (model P w) A (.call (.ref f) args) (CR (L2.CX P w) outer P w H s Q E) s

def adrOf (vs : List V) (i : Nat) : Addr := match vs[i]? with
  | some (.ref a) => a
  | _ => 0
/-- the context of a call's arguments -/
def argC (K : PySem.W.Frag) (mg : Str → Option Value) (H : Hp) (vs : List V) (og : Og) (th : V → R D → Prop) (W : WX) (L : List (Addr × Str)) : Cc := ⟨K, mg, H, adrOf vs, fun i a => a ∈ og i, W, th, L⟩
abbrev noW : WX := fun _ _ _ _ => False
abbrev Mf := List Sl → R (Sl × Env)
/-- called, the def does what mf says -/
def spM (K : PySem.W.Frag) (mg : Str → Option Value) (L : List (Addr × Str)) (n : Nat) (mf : Mf) : Sp := fun vs H Q E => vs.length = n ∧ ∃ B og th ss, EnvR (argC K mg H vs og th noW L) H B og (vs.map some) ss ∧ match mf ss with
  | .ok (r, outs) => ∀ v H' og' on, Later og og' H H' → EnvR (argC K mg H vs og th noW L) H' (Bx B on) og' (vs.map some) outs → VRK K H' (Sx B og') r v on → (∀ a ∈ on, ¬ Sx B og' a ∧ H a = none) → Q v H'
  | .ex e => ∀ cls dx H', ExR (argC K mg H vs og th noW L) e cls dx H' → Kp og.all H H' → (∀ a, H a ≠ none → H' a ≠ none) → LamX.Tabs L H' → E cls dx H'
  | .bad => False

def outsOf : List Sl → Env → List Sl
  | [], _ => []
  | .io _ :: ss, .io m :: γ => .io m :: outsOf ss γ
  | _ :: ss, γ => .no :: outsOf ss γ.tail
/-- a body, from the arguments to the result and what the arguments are then -/
def runF (more : Nat) (body : Fn Fl) : Mf := fun ss => match body (ss ++ List.replicate more .no) with
  | .ok (.rt r) γ' => .ok (r, outsOf ss γ')
  | .ok .nx γ' => .ok (.d .none, outsOf ss γ')
  | .ex e _ => .ex e
  | _ => .bad
theorem outsOf_len : ∀ (ss : List Sl) (γ : Env), (outsOf ss γ).length = ss.length
  | [], _ => by rw [outsOf]
  | s :: ss, γ => by
    unfold outsOf
    split
    · rename_i h; cases h
    · rename_i h; cases h; simp [outsOf_len ss]
    · rename_i h _; cases h; simp [outsOf_len ss]
theorem outsOf_get : ∀ (ss : List Sl) (γ : Env) (i : Nat) (s : Sl), (outsOf ss γ)[i]? = some s → s = .no ∨ ∃ m m0, s = .io m ∧ ss[i]? = some (.io m0) ∧ γ[i]? = some (.io m)
  | [], _, i, s, h => by rw [outsOf] at h; cases h
  | t :: ss, γ, i, s, h => by
    have tl : ∀ j : Nat, (outsOf ss γ.tail)[j]? = some s → s = .no ∨ ∃ m m0, s = .io m ∧ ss[j]? = some (.io m0) ∧ γ[j + 1]? = some (.io m) := fun j hj => by
      rcases outsOf_get ss γ.tail j s hj with z | ⟨m, m0, e1, e2, e3⟩
      · exact .inl z
      · refine .inr ⟨m, m0, e1, e2, ?_⟩
        cases γ with
        | nil => cases e3
        | cons x r => exact e3
    unfold outsOf at h
    split at h
    · rename_i h2; cases h2
    · rename_i m0 ss' m γ' h2
      cases h2
      cases i with
      | zero => cases h; exact .inr ⟨m, m0, rfl, rfl, rfl⟩
      | succ i => exact tl i h
    · rename_i h2 _
      cases h2
      cases i with
      | zero => cases h; exact .inl rfl
      | succ i => exact tl i h

section
variable {c c0 : Cc} {H H0 H1 H2 H' : Hp} {B B0 S S' T : AP} {og og0 og1 og2 og' : Og} {σ σ1 : St} {γ γ1 : Env}
theorem VRK.frame {s : Sl} {v : V} {on : List Addr} (F : Fr0 H H' S S' (fun _ => False)) (h : VRK c.K H S s v on) : VRK c.K H' S' s v on := by
  cases s with
  | d x => exact ⟨h.1, h.2.frame F⟩
  | w m =>
    obtain ⟨a, e, o, n⟩ := h
    refine ⟨a, e, o.frame ⟨F.1, nofun, fun b z => ?_⟩ fun _ _ z => z, n⟩
    rcases Bx_iff.mp z with z | z
    · exact (F.3 b z).imp (fun z => Bx_iff.mpr (.inl z)) id
    · exact .inl (Bx_iff.mpr (.inr z))
  | no => exact h
  | io m => exact h
  | th r => exact h
  | scr r => exact h
theorem EnvR.wish {W : WX} (E : EnvR c H B og σ γ) : EnvR { c with W := W } H B og σ γ := ⟨E.tb, E.len, E.out, E.nd, E.dj, E.nb, E.bl, E.ent, E.grow, fun i s e => by
  have := E.sl i s e
  cases s <;> exact this⟩
theorem EnvR.grown (E : EnvR c H B og σ γ) (m : Nat) : EnvR c H B og (σ ++ List.replicate m none) (γ ++ List.replicate m .no) := by
  refine ⟨E.tb, by simp [E.len], fun i hi => E.out i (by simp at hi; omega), E.nd, E.dj, E.nb, E.bl, E.ent, E.grow, fun i s e => ?_⟩
  by_cases hi : i < γ.length
  · rw [List.getElem?_append_left hi] at e
    rw [List.getElem?_append_left (by rw [E.len]; exact hi)]
    exact E.sl i s e
  · rw [List.getElem?_append_right (by omega), List.getElem?_replicate] at e
    split at e
    · cases e
      exact E.out i (by omega)
    · cases e
/-- what the arguments are, behind the body -/
def Og.outs (og : Og) (o : List Sl) : Og := fun i => match o[i]? with
  | some (.io _) => og i
  | _ => []
theorem Og.outs_sub {og : Og} {o : List Sl} {i : Nat} {a : Addr} (h : a ∈ og.outs o i) : a ∈ og i := by
  unfold Og.outs at h
  split at h
  · exact h
  · cases h
theorem Og.outs_all {og : Og} {o : List Sl} {a : Addr} (h : (og.outs o).all a) : og.all a := let ⟨i, z⟩ := h; ⟨i, Og.outs_sub z⟩
theorem EnvR.args {ss : List Sl} {vs : List V} (E : EnvR c H B og σ γ) (E0 : EnvR c0 H0 B0 og0 (vs.map some) ss) (ha : c0.adr = c.adr) :
    EnvR c H B (og.outs (outsOf ss γ)) (vs.map some) (outsOf ss γ) := by
  have F : Fr0 H H (Sx B og) (Sx B (og.outs (outsOf ss γ))) (fun _ => False) := ⟨.refl, nofun, fun a z => .inl (z.imp id fun ⟨i, h⟩ => ⟨i, Og.outs_sub h⟩)⟩
  refine ⟨E.tb, by rw [outsOf_len]; exact E0.len, fun i hi => ?_, fun i => ?_, fun i j a h1 h2 => E.dj i j a (Og.outs_sub h1) (Og.outs_sub h2), fun i a h => E.nb i a (Og.outs_sub h), E.bl, E.ent, E.grow, fun i s e => ?_⟩
  · unfold Og.outs
    rw [List.getElem?_eq_none hi]
  · unfold Og.outs
    split
    · exact E.nd i
    · exact List.nodup_nil
  · rcases outsOf_get ss γ i s e with rfl | ⟨m, m0, rfl, e2, e3⟩
    · show og.outs (outsOf ss γ) i = []
      unfold Og.outs
      rw [e]
    · obtain ⟨h1, h2, h3⟩ := (E.sl i _ e3).frame F fun _ _ z => z
      obtain ⟨h4, _⟩ := E0.sl i _ e2
      have e5 : og.outs (outsOf ss γ) i = og i := by
        unfold Og.outs
        rw [e]
      rw [e5]
      exact ⟨by rw [h4, ha], h2, h3⟩
theorem EnvR.h0 (E : EnvR c H B og σ γ) {i : Nat} {a : Addr} (h : a ∈ og i) : c.H0 a = none ∨ c.ios a := by
  by_cases hi : i < γ.length
  · have z := E.sl i _ (List.getElem?_eq_getElem hi)
    cases e : γ[i] with
    | no => rw [e] at z; rw [show og i = [] from z] at h; cases h
    | d x => rw [e] at z; rw [z.1] at h; cases h
    | w m => rw [e] at z; obtain ⟨_, _, _, f⟩ := z; exact .inl (f a h)
    | io m => rw [e] at z; exact .inr ⟨i, z.2.2 a h⟩
    | th r => rw [e] at z; rw [z.1] at h; cases h
    | scr r => rw [e] at z; rw [z.1] at h; cases h
  · rw [E.out i (by omega)] at h; cases h
/-- the body runs: from the promise -/
theorem body_run {K : PySem.W.Frag} {mg : Str → Option Value} {N ps : List Str} {fb : Fn Fl} {vs : List V} {Q : VK} {E : XK} {n : Nat} {L : List (Addr × Str)} (hn : n = ps.length) (h : spM K mg L n (runF (N.length - ps.length) fb) vs H Q E) :
    ∃ og th, tS (argC K mg H vs og th (fun cls d _ H' => E cls d H') L) fb { nx := fun _ H' => Q .non H', rt := Q } (L2.start N vs) H := by
  obtain ⟨hl, B, og, th, ss, E0, hm⟩ := h
  refine ⟨og, th, B, og, ss ++ List.replicate (N.length - ps.length) .no, ?_, ?_⟩
  · have E1 := (E0.wish (W := fun cls d _ H' => E cls d H')).grown (N.length - ps.length)
    unfold L2.start
    rw [hl, hn]
    exact E1
  · unfold tSat
    unfold runF at hm
    generalize fb (ss ++ List.replicate (N.length - ps.length) .no) = z at hm ⊢
    cases z with
    | bad => exact hm
    | ex x γ' => exact fun cls dx σ' H' r _ E' => hm cls dx H' r E'.ent E'.grow E'.tb
    | ok fl γ' =>
      cases fl with
      | bk => exact (show False from hm).elim
      | ct => exact (show False from hm).elim
      | nx =>
        intro σ' H' og' l E'
        exact hm .non H' (og'.outs (outsOf ss γ')) [] ⟨l.kp, l.gr, fun a z => l.sub a (Og.outs_all z)⟩ ((E'.args E0 rfl).wish (W := noW)) ⟨rfl, rfl⟩ nofun
      | rt r =>
        intro v σ' H' og' on l E' q hn
        have sub : ∀ a, Sx B (og'.outs (outsOf ss γ')) a → Sx B og' a := fun a z => z.imp id Og.outs_all
        exact hm v H' (og'.outs (outsOf ss γ')) on ⟨l.kp, l.gr, fun a z => l.sub a (Og.outs_all z)⟩ ((E'.args E0 rfl).wish (W := noW))
          (VRK.frame (c := argC K mg H vs og th noW L) ⟨.refl, nofun, fun a z => .inl (sub a z)⟩ q) fun a ha => ⟨fun z => (hn a ha).1 (sub a z), (hn a ha).2⟩
end

/-! ### a def by its body -/
section
variable {P : Program} {w : World} {K : PySem.W.Frag} {mg : Str → Option Value} {base : Heap} {k : Nat} {f : Addr} {name qual : Str} {params : Arguments} {body : List Stmt} {scope : Scope} {dV kV doc pm cdv ct oc : Value} {an od : Option Addr} {osl : Array (Option Value)} {N ps : List Str} {fb : Fn Fl} {L : List (Addr × Str)}
/-- the def runs, from a reading of its body at the arguments -/
theorem run_body {CX : CXT} {A : Around} {outer : List PySem.Env} {s : Shared} {H : Hp} {args : Args} {us : List Value} {vs : List V} {Q : VK} {E : XK} (lk : K.lookup f = some ⟨oc, od, .func (PySem.W.fnOf name qual params body scope dV kV doc pm an cdv ct), osl⟩) (hcd : PySem.W.codeIn K cdv qual = true) (S : FnScope N ps scope)
    (room : Room (k + 1) A) (e0 : Env0 P w K mg base A outer s H) (bound : BindsTo s (PySem.W.fnOf name qual params body scope dV kV doc pm an cdv ct) args (ps.zip us)) (rel : Vals vs us) (l0 : vs.length = ps.length)
    (hq : Room k (A.deeper (envOfC qual scope s.heap.objs.size f cdv)) → ∃ t, PSs (cxOf CX P w K mg base N qual scope f cdv A outer s H E) body t ∧ t { nx := fun _ H' => Q .non H', rt := Q } (L2.start N vs) H) :
    codeAny (model P w) A (.call (.ref f) args) (CR CX outer P w H s Q E) s := by
  have stays : ∀ b o, base.get? b = some o → s.heap.get? b = some o := fun b o z => (e0.bs b o z).1
  have kin : K.In s.heap := e0.mod.kin.keeps stays
  have nolim : s.heap.NoLimit := e0.mod.nolimit.keeps stays
  refine codeAny_call_function room.depth (kin _ _ lk) rfl S.co S.gen rfl (PySem.W.codeRec_of kin hcd) (bound _ _ _ _ ?_)
  refine wpAny_newFunctionEnv_cells S.kind (fun y hy => ?_) fun env ee s1 made => ?_
  · obtain ⟨n, v⟩ := y
    exact (S.par n (List.of_mem_zip hy).1).imp id fun z => ⟨z, PySem.W.cellsFrom_some _ _ _ (.inl z)⟩
  · subst ee
    refine ⟨nolim.keeps made.toInCall.keep, codeAny_func ?_⟩
    obtain ⟨t, ht, hq⟩ := hq (room.deeper _)
    have I0 : Inv (cxOf CX P w K mg base N qual scope f cdv A outer s H E) [] (L2.start N vs) H s1 := inv_start S room.hd e0 l0 rel made
    refine wpAny_mono (ht.run [] s1 (L2.start N vs) H _ I0 hq) ?_ (fun _ _ z => z)
    intro fl s' z
    have done : ∀ {σ' : St} {H' : Hp} {v : V} {u : Value}, Inv (cxOf CX P w K mg base N qual scope f cdv A outer s H E) [] σ' H' s' → RelV v u → Q v H' → CE outer P w H s Q u s' :=
      fun J r q => ⟨_, _, J.os, J.bare, J.base, J.hok, r, q⟩
    cases fl with
    | ret u => obtain ⟨v, σ', H', J, r, q⟩ := z; exact done J r q
    | next => obtain ⟨σ', H', J, q⟩ := z; exact done (v := .non) J rfl q
    | brk => obtain ⟨_, _, _, q⟩ := z; exact q.elim
    | cont => obtain ⟨_, _, _, q⟩ := z; exact q.elim
theorem Good.start {A : Around} {outer : List PySem.Env} {s : Shared} {H : Hp} {E : XK} {CX : CXT} {c : Cc} (S : FnScope N ps scope) (hk : c.K = K) (hm : c.mg = mg) (guards : A.guards = some []) (room' : Room k (A.deeper (envOfC qual scope s.heap.objs.size f cdv))) : Good (cxOf CX P w K mg base N qual scope f cdv A outer s H E) c :=
  ⟨⟨hk.symm, hm.symm, by have := room'.un; show (A.deeper (envOfC qual scope s.heap.objs.size f cdv)).units + 120 < cLine; omega, guards, S.nd⟩, rfl⟩
theorem okG (lk : K.lookup f = some ⟨oc, od, .func (PySem.W.fnOf name qual params body scope dV kV doc pm an cdv ct), osl⟩) (hcd : PySem.W.codeIn K cdv qual = true) (S : FnScope N ps scope)
    (hb : ∀ (A : Around) (outer : List PySem.Env) (s : Shared) (H : Hp) (E : XK) (c : Cc), c.tabs = L → Good (cxOf (L2.CX P w) P w K mg base N qual scope f cdv A outer s H E) c → Room k (A.deeper (envOfC qual scope s.heap.objs.size f cdv)) →
      Takes (cxOf (L2.CX P w) P w K mg base N qual scope f cdv A outer s H E) c.W → PSs (cxOf (L2.CX P w) P w K mg base N qual scope f cdv A outer s H E) body (tS c fb)) :
    FnG P w K mg base (k + 1) f (PySem.W.fnOf name qual params body scope dV kV doc pm an cdv ct) ps (spM K mg L ps.length (runF (N.length - ps.length) fb)) := by
  refine ⟨fun _ _ _ _ h => h.1, ?_⟩
  intro A outer s H args us vs Q E room guards e0 bound rel promise
  refine run_body lk hcd S room e0 bound rel promise.1 fun room' => ?_
  obtain ⟨og, th, hq⟩ := body_run (N := N) (ps := ps) rfl promise
  exact ⟨_, hb A outer s H E _ rfl (Good.start S rfl rfl guards room') room' (L2.takes_of rfl rfl rfl rfl), hq⟩
end
end Eg
end
section
/-! E13: calls of defs -/
namespace Eg
open PySem PySem.Spec L2
open PyProof.Rows hiding St

def posOf (j : Nat) : List AV → Option Nat
  | [] => none
  | .pk i :: as => if i = j then some 0 else (posOf j as).map (· + 1)
  | .d _ :: as => (posOf j as).map (· + 1)
def dis : List AV → Bool
  | [] => true
  | .pk i :: as => (posOf i as).isNone && dis as
  | .d _ :: as => dis as
theorem posOf_some {j : Nat} : ∀ {as : List AV} {k : Nat}, posOf j as = some k → as[k]? = some (.pk j)
  | [], _, h => by cases h
  | .pk i :: as, k, h => by
    unfold posOf at h
    split at h
    · rename_i e; cases h; rw [e]; rfl
    · cases q : posOf j as with
      | none => rw [q] at h; cases h
      | some k' => rw [q] at h; cases h; exact posOf_some (as := as) q
  | .d _ :: as, k, h => by
    unfold posOf at h
    cases q : posOf j as with
    | none => rw [q] at h; cases h
    | some k' => rw [q] at h; cases h; exact posOf_some (as := as) q
theorem posOf_none {j : Nat} : ∀ {as : List AV}, posOf j as = none → ∀ k : Nat, as[k]? ≠ some (AV.pk j)
  | [], _, k, h => by simp at h
  | .pk i :: as, h, k, h2 => by
    unfold posOf at h
    split at h
    · cases h
    · rename_i e
      cases q : posOf j as with
      | some k' => rw [q] at h; cases h
      | none =>
        cases k with
        | zero => cases h2; exact e rfl
        | succ k => exact posOf_none q k h2
  | .d _ :: as, h, k, h2 => by
    unfold posOf at h
    cases q : posOf j as with
    | some k' => rw [q] at h; cases h
    | none =>
      cases k with
      | zero => cases h2
      | succ k => exact posOf_none q k h2
theorem dis_inj : ∀ {as : List AV}, dis as = true → ∀ {k k' i : Nat}, as[k]? = some (.pk i) → as[k']? = some (.pk i) → k = k'
  | [], _, k, k', i, h, _ => by simp at h
  | .d _ :: as, hd, k, k', i, h, h' => by
    cases k with
    | zero => cases h
    | succ k => cases k' with
      | zero => cases h'
      | succ k' => exact congrArg Nat.succ (dis_inj (as := as) hd h h')
  | .pk j :: as, hd, k, k', i, h, h' => by
    obtain ⟨h1, h2⟩ := Bool.and_eq_true_iff.mp (show ((posOf j as).isNone && dis as) = true from hd)
    have h1 := Option.isNone_iff_eq_none.mp h1
    cases k with
    | zero => cases k' with
      | zero => rfl
      | succ k' => cases h; exact absurd h' (posOf_none h1 k')
    | succ k => cases k' with
      | zero => cases h'; exact absurd h (posOf_none h1 k)
      | succ k' => exact congrArg Nat.succ (dis_inj (as := as) h2 h h')
theorem posOf_at {as : List AV} (hd : dis as = true) {k j : Nat} (h : as[k]? = some (.pk j)) : posOf j as = some k := by
  cases q : posOf j as with
  | none => exact absurd h (posOf_none q k)
  | some k' => rw [dis_inj hd h (posOf_some q)]

def argSl (γ : Env) : AV → Option Sl
  | .d x => some (.d x)
  | .pk i => match γ[i]? with
    | some (.w m) => some (.io m)
    | some (.io m) => some (.io m)
    | some (.scr ns) => some (.scr ns)
    | _ => none
def argsSl (γ : Env) : List AV → Option (List Sl)
  | [] => some []
  | a :: as => match argSl γ a with
    | none => none
    | some s => (argsSl γ as).map (s :: ·)
theorem argsSl_get {γ : Env} : ∀ {as : List AV} {ss : List Sl}, argsSl γ as = some ss → ss.length = as.length ∧ ∀ (k : Nat) (s : Sl), ss[k]? = some s → ∃ a, as[k]? = some a ∧ argSl γ a = some s
  | [], ss, h => by cases h; exact ⟨rfl, fun k s h => by simp at h⟩
  | a :: as, ss, h => by
    unfold argsSl at h
    split at h
    · cases h
    · rename_i s e
      cases q : argsSl γ as with
      | none => rw [q] at h; cases h
      | some r =>
        rw [q] at h; cases h
        obtain ⟨h1, h2⟩ := argsSl_get q
        refine ⟨congrArg Nat.succ h1, fun k s' hk => ?_⟩
        cases k with
        | zero => cases hk; exact ⟨a, rfl, e⟩
        | succ k => exact h2 k s' hk
section
variable {c : Cc} {H H1 H2 H' : Hp} {B S S' T : AP} {og og1 og2 og' : Og} {σ σ1 : St} {γ γ1 : Env}
theorem AVRs_get : ∀ {as : List AV} {vs : List V}, AVRs c H S σ as vs → vs.length = as.length ∧ ∀ (k : Nat) (a : AV), as[k]? = some a → ∃ v, vs[k]? = some v ∧ AVR c H S σ a v
  | [], _, h => by
    rw [show _ = [] from h]
    exact ⟨rfl, fun k a h => by simp at h⟩
  | a :: as, _, ⟨v, r, e, h1, h2⟩ => by
    subst e
    obtain ⟨l, g⟩ := AVRs_get h2
    refine ⟨congrArg Nat.succ l, fun k a' hk => ?_⟩
    cases k with
    | zero => cases hk; exact ⟨v, rfl, h1⟩
    | succ k => exact g k a' hk
/-- what the callee may change; what it must leave alone -/
def Og.arg (og : Og) (as : List AV) : Og := fun k => match as[k]? with
  | some (.pk i) => og i
  | _ => []
def Og.rest (og : Og) (as : List AV) (B : AP) : AP := fun a => B a ∨ ∃ j, posOf j as = none ∧ a ∈ og j
theorem Og.arg_mem {as : List AV} {k : Nat} {a : Addr} (h : a ∈ og.arg as k) : ∃ i, as[k]? = some (.pk i) ∧ a ∈ og i := by
  unfold Og.arg at h
  split at h
  · rename_i i e; exact ⟨i, e, h⟩
  · cases h
theorem EnvR.enter {as : List AV} {vs : List V} {ss : List Sl} {th : V → R D → Prop} (E : EnvR c H B og σ γ) (V : AVRs c H (Sx B og) σ as vs) (ha : argsSl γ as = some ss) (hd : dis as = true) :
    EnvR (argC c.K c.mg H vs (og.arg as) th noW c.tabs) H (og.rest as B) (og.arg as) (vs.map some) ss := by
  obtain ⟨l1, g1⟩ := argsSl_get ha
  obtain ⟨l2, g2⟩ := AVRs_get V
  have sub : ∀ a, Sx (og.rest as B) (og.arg as) a → Sx B og a := fun a z => by
    rcases z with (z | ⟨j, _, z⟩) | ⟨k, z⟩
    · exact .inl z
    · exact .inr ⟨j, z⟩
    · obtain ⟨i, _, z⟩ := Og.arg_mem z; exact .inr ⟨i, z⟩
  have F : Fr0 H H (Sx B og) (Sx (og.rest as B) (og.arg as)) (fun _ => False) := ⟨.refl, nofun, fun a z => .inl (sub a z)⟩
  refine ⟨E.tb, by rw [List.length_map, l1, l2], fun k hk => ?_, fun k => ?_, fun k k' a h h' => ?_, fun k a h z => ?_, fun a z => E.tracked (sub a (.inl z)), .refl, fun _ z => z, fun k s e => ?_⟩
  · unfold Og.arg
    rw [List.getElem?_eq_none (by omega)]
  · unfold Og.arg
    split
    · exact E.nd _
    · exact List.nodup_nil
  · obtain ⟨i, e, h⟩ := Og.arg_mem h
    obtain ⟨i', e', h'⟩ := Og.arg_mem h'
    have := E.dj i i' a h h'
    subst this
    exact dis_inj hd e e'
  · obtain ⟨i, e, h⟩ := Og.arg_mem h
    rcases z with z | ⟨j, n, z⟩
    · exact E.nb i a h z
    · have := E.dj i j a h z
      subst this
      exact posOf_none n k e
  · obtain ⟨a, ea, es⟩ := g1 k s e
    obtain ⟨v, ev, r⟩ := g2 k a ea
    have evs : (vs.map some)[k]?.getD none = some v := by rw [List.getElem?_map, ev]; rfl
    rw [evs]
    cases a with
    | d x =>
      cases es
      refine ⟨?_, v, rfl, Rp.frame F _ _ r⟩
      unfold Og.arg
      rw [ea]
    | pk i =>
      have hog : og.arg as k = og i := by unfold Og.arg; rw [ea]
      have r : σ[i]? = some (some v) := r
      rw [hog]
      have key : ∀ m b, σ[i]?.getD none = some (.ref b) → Ow c.K H (Sx B og) m b (og i) → SlR (argC c.K c.mg H vs (og.arg as) th noW c.tabs) H (Sx (og.rest as B) (og.arg as)) k (some v) (.io m) (og i) := fun m b hb o => by
        rw [r] at hb
        cases hb
        have hadr : adrOf vs k = b := by unfold adrOf; rw [ev]
        refine ⟨by show some (L2.V.ref b) = some (L2.V.ref (adrOf vs k)); rw [hadr], ?_, fun a z => by show a ∈ og.arg as k; rw [hog]; exact z⟩
        show Ow c.K H _ m (adrOf vs k) (og i)
        rw [hadr]
        exact o.frame F fun _ _ z => z
      have es : (match γ[i]? with
        | some (.w m) => some (Sl.io m)
        | some (.io m) => some (Sl.io m)
        | some (.scr ns) => some (Sl.scr ns)
        | _ => none) = some s := es
      cases q : γ[i]? with
      | none => rw [q] at es; cases es
      | some t =>
        have hs := E.sl _ _ q
        rw [q] at es
        cases t with
        | w m => cases es; obtain ⟨b, hb, o, _⟩ := hs; exact key m b hb o
        | io m => cases es; obtain ⟨hb, o, _⟩ := hs; exact key m _ hb o
        | scr ns =>
          cases es
          obtain ⟨h1, b, hb, o⟩ := hs
          rw [r] at hb
          cases hb
          refine ⟨h1, b, rfl, ?_⟩
          rcases o with ⟨o, no⟩ | o
          · have oH : Rd H b (.lst (ns.map L2.V.int)) := by
              rcases o with o | ⟨u, o⟩
              · exact .inl (E.ent b _ o no nt_lst)
              · exact .inr ⟨u, E.ent b _ o no nt_frz⟩
            refine .inl ⟨oH, fun ⟨k', z⟩ => ?_⟩
            obtain ⟨i', _, z⟩ := Og.arg_mem z
            rcases E.h0 z with z | z
            · exact Rd.ne o z
            · exact no z
          · exact .inr o
        | _ => cases es

/-! ### behind the call -/
def newSl (s : Sl) (o : Option Sl) : Sl := match o with
  | some (.io m) => (match s with
    | .w _ => .w m
    | .io _ => .io m
    | _ => .no)
  | _ => .no
def backs (as : List AV) (outs : List Sl) : Nat → Env → Env
  | _, [] => []
  | j, s :: γ => (match posOf j as with
    | none => s
    | some k => newSl s outs[k]?) :: backs as outs (j + 1) γ
theorem backs_len {as : List AV} {outs : List Sl} : ∀ (γ : Env) (j : Nat), (backs as outs j γ).length = γ.length
  | [], _ => rfl
  | s :: γ, j => congrArg Nat.succ (backs_len γ (j + 1))
theorem backs_get {as : List AV} {outs : List Sl} : ∀ (γ : Env) (j i : Nat) (t : Sl), (backs as outs j γ)[i]? = some t → ∃ s, γ[i]? = some s ∧ t = match posOf (j + i) as with
    | none => s
    | some k => newSl s outs[k]?
  | [], _, i, t, h => by simp [backs] at h
  | s :: γ, j, 0, t, h => by cases h; exact ⟨s, rfl, rfl⟩
  | s :: γ, j, i + 1, t, h => by
    obtain ⟨s', h1, h2⟩ := backs_get γ (j + 1) i t h
    exact ⟨s', h1, by rw [h2, show j + 1 + i = j + (i + 1) by omega]⟩
def Og.back (og og' : Og) (as : List AV) (outs : List Sl) : Og := fun j => match posOf j as with
  | none => og j
  | some k => og'.outs outs k
theorem EnvR.leave {as : List AV} {vs : List V} {ss outs : List Sl} {th : V → R D → Prop} {on : List Addr} (E : EnvR c H B og σ γ) (W : AVRs c H (Sx B og) σ as vs) (ha : argsSl γ as = some ss) (hd : dis as = true)
    (l : Later (og.arg as) og' H H') (E' : EnvR (argC c.K c.mg H vs (og.arg as) th noW c.tabs) H' (Bx (og.rest as B) on) og' (vs.map some) outs) (hn : ∀ a ∈ on, H a = none) :
    Later og (og.back og' as outs) H H' ∧ EnvR c H' (Bx B on) (og.back og' as outs) σ (backs as outs 0 γ) ∧ (∀ a, Sx B (og.back og' as outs) a → Sx (og.rest as B) og' a) := by
  obtain ⟨l1, g1⟩ := argsSl_get ha
  obtain ⟨l2, g2⟩ := AVRs_get W
  have own : ∀ k a, a ∈ og.arg as k → og.all a := fun k a h => let ⟨i, _, z⟩ := Og.arg_mem h; ⟨i, z⟩
  have bk : ∀ j a, a ∈ og.back og' as outs j → (posOf j as = none ∧ a ∈ og j) ∨ ∃ k, posOf j as = some k ∧ a ∈ og' k := fun j a h => by
    unfold Og.back at h
    split at h
    · rename_i e; exact .inl ⟨e, h⟩
    · rename_i k e; exact .inr ⟨k, e, Og.outs_sub h⟩
  have bkn : ∀ j, posOf j as = none → og.back og' as outs j = og j := fun j e => by unfold Og.back; rw [e]
  have bks : ∀ j k, posOf j as = some k → og.back og' as outs j = og'.outs outs k := fun j k e => by unfold Og.back; rw [e]
  have sub2 : ∀ a, (og.back og' as outs).all a → og.all a ∨ H a = none := fun a ⟨j, z⟩ => by
    rcases bk j a z with ⟨_, z⟩ | ⟨k, _, z⟩
    · exact .inl ⟨j, z⟩
    · exact (l.sub a ⟨k, z⟩).imp (fun ⟨k', z⟩ => own k' a z) id
  have L : Later og (og.back og' as outs) H H' := ⟨fun a o e n t => l.kp a o e (fun ⟨k, z⟩ => n (own k a z)) t, l.gr, sub2⟩
  have rest : ∀ a, Sx B (og.back og' as outs) a → Sx (og.rest as B) og' a := fun a z => by
    rcases z with z | ⟨j, z⟩
    · exact .inl (.inl z)
    · rcases bk j a z with ⟨e, z⟩ | ⟨k, _, z⟩
      · exact .inl (.inr ⟨j, e, z⟩)
      · exact .inr ⟨k, z⟩
  have F : Fr0 H H' (Sx B og) (Sx (Bx B on) (og.back og' as outs)) (og.arg as).all := ⟨l.kp, fun a ⟨k, z⟩ => by
      obtain ⟨i, _, z⟩ := Og.arg_mem z
      exact ⟨.inr ⟨i, z⟩, E.mu z⟩, fun a z => by
      rcases z with z | z
      · exact (Bx_iff.mp z).imp .inl (hn a)
      · exact (sub2 a z).imp .inr id⟩
  refine ⟨L, ⟨E'.tb, by rw [backs_len]; exact E.len, fun j hj => ?_, fun j => ?_, fun i j a h1 h2 => ?_, fun j a h z => ?_, fun a z => ?_, fun a o e n => ?_, fun a n => l.gr a (E.grow a n), fun j t e => ?_⟩, rest⟩
  · rw [backs_len] at hj
    cases q : posOf j as with
    | none => rw [bkn j q]; exact E.out j hj
    | some k =>
      have e := posOf_some q
      have hk : k < ss.length := by rw [l1]; exact (List.getElem?_eq_some_iff.mp e).1
      obtain ⟨a, ea, es⟩ := g1 k _ (List.getElem?_eq_getElem hk)
      rw [e] at ea
      cases ea
      have es : (match γ[j]? with
        | some (.w m) => some (Sl.io m)
        | some (.io m) => some (Sl.io m)
        | some (.scr ns) => some (Sl.scr ns)
        | _ => none) = some ss[k] := es
      rw [List.getElem?_eq_none hj] at es
      cases es
  · cases q : posOf j as with
    | none => rw [bkn j q]; exact E.nd j
    | some k =>
      rw [bks j k q]
      unfold Og.outs
      split
      · exact E'.nd k
      · exact List.nodup_nil
  · have mix : ∀ {i j k : Nat}, posOf i as = none → a ∈ og i → a ∈ og' k → False := fun {i j k} e z z' => E'.nb k a z' (Bx_iff.mpr (.inl (.inr ⟨i, e, z⟩)))
    rcases bk i a h1 with ⟨e1, z1⟩ | ⟨k1, e1, z1⟩ <;> rcases bk j a h2 with ⟨e2, z2⟩ | ⟨k2, e2, z2⟩
    · exact E.dj i j a z1 z2
    · exact (mix (j := j) e1 z1 z2).elim
    · exact (mix (j := j) e2 z2 z1).elim
    · have := E'.dj k1 k2 a z1 z2
      subst this
      have h1 := posOf_some e1
      rw [posOf_some e2] at h1
      cases h1
      rfl
  · rcases bk j a h with ⟨e, y⟩ | ⟨k, e, y⟩
    · rcases Bx_iff.mp z with z | z
      · exact E.nb j a y z
      · exact (E.mu y).ne (hn a z)
    · refine E'.nb k a y (Bx_iff.mpr ?_)
      exact (Bx_iff.mp z).imp .inl id
  · exact E'.bl a (Bx_iff.mpr ((Bx_iff.mp z).imp .inl id))
  · intro t
    refine l.kp a o (E.ent a o e n t) (fun ⟨k, z⟩ => ?_) t
    obtain ⟨i, _, z⟩ := Og.arg_mem z
    rcases E.h0 z with z | z
    · rw [e] at z; cases z
    · exact n z
  · obtain ⟨s, e1, e2⟩ := backs_get γ 0 j t e
    rw [Nat.zero_add] at e2
    cases q : posOf j as with
    | none =>
      rw [q] at e2
      have e2 : t = s := e2
      rw [bkn j q, e2]
      refine (E.sl j s e1).frame F fun a h z => ?_
      obtain ⟨k, z⟩ := z
      obtain ⟨i, e3, z⟩ := Og.arg_mem z
      have := E.dj j i a h z
      subst this
      exact posOf_none q k e3
    | some k =>
      rw [q] at e2
      have e2 : t = newSl s outs[k]? := e2
      rw [bks j k q]
      have hk := posOf_some q
      obtain ⟨v, hv, r⟩ := g2 k _ hk
      have r : σ[j]? = some (some v) := r
      have hog : ∀ b, b ∈ og.arg as k → b ∈ og j := fun b z => by
        unfold Og.arg at z
        rw [hk] at z
        exact z
      have nos : newSl s outs[k]? = .no → og'.outs outs k = [] → SlR c H' (Sx (Bx B on) (og.back og' as outs)) j (σ[j]?.getD none) t (og'.outs outs k) := fun z z2 => by
        rw [e2, z]
        exact z2
      have F2 : Fr0 H' H' (Sx (Bx (og.rest as B) on) og') (Sx (Bx B on) (og.back og' as outs)) (fun _ => False) := ⟨.refl, nofun, fun a z => by
        rcases z with z | z
        · exact .inl (.inl (Bx_iff.mpr ((Bx_iff.mp z).imp .inl id)))
        · rcases rest a (.inr z) with z | z
          · exact .inl (.inl (Bx_iff.mpr (.inl z)))
          · exact .inl (.inr z)⟩
      cases qo : outs[k]? with
      | none => exact nos (by rw [qo]; rfl) (by unfold Og.outs; rw [qo])
      | some o =>
        have ho := E'.sl k o qo
        cases o with
        | io m =>
          have hou : og'.outs outs k = og' k := by unfold Og.outs; rw [qo]
          rw [hou]
          obtain ⟨h1, h2, h3⟩ := ho
          rw [List.getElem?_map, hv] at h1
          have h1 : some v = some (V.ref (adrOf vs k)) := h1
          have o2 := Ow.frame F2 (fun _ _ z => z) h2
          rw [qo] at e2
          have hs := E.sl j s e1
          cases s with
          | w m0 =>
            rw [e2]
            obtain ⟨a0, ea0, _, f0⟩ := hs
            rw [r] at ea0
            have ea : a0 = adrOf vs k := by
              have z : some (V.ref a0) = some (V.ref (adrOf vs k)) := ea0.symm.trans h1
              exact V.ref.inj (Option.some.inj z)
            rw [r]
            exact ⟨adrOf vs k, h1, o2, fun b z => f0 b (hog b (h3 b z))⟩
          | io m0 =>
            rw [e2]
            obtain ⟨ea0, _, f0⟩ := hs
            rw [r] at ea0
            have ea : c.adr j = adrOf vs k := by
              have z : some (V.ref (c.adr j)) = some (V.ref (adrOf vs k)) := ea0.symm.trans h1
              exact V.ref.inj (Option.some.inj z)
            rw [r]
            refine ⟨by rw [ea]; exact h1, ?_, fun b z => f0 b (hog b (h3 b z))⟩
            rw [ea]
            exact o2
          | scr ns0 =>
            exfalso
            have h9 := h3 _ (Ow.mem h2)
            have h10 : og.arg as k = og j := by unfold Og.arg; rw [hk]
            have h11 : adrOf vs k ∈ og.arg as k := h9
            rw [h10, hs.1] at h11
            cases h11
          | _ => 
            exfalso
            have hk2 : k < ss.length := by rw [l1]; exact (List.getElem?_eq_some_iff.mp hk).1
            obtain ⟨a, ea, es⟩ := g1 k _ (List.getElem?_eq_getElem hk2)
            rw [hk] at ea
            cases ea
            have es : (match γ[j]? with
              | some (.w m) => some (Sl.io m)
              | some (.io m) => some (Sl.io m)
              | some (.scr ns) => some (Sl.scr ns)
              | _ => none) = some ss[k] := es
            rw [e1] at es
            cases es
        | _ => exact nos (by rw [qo]; rfl) (by unfold Og.outs; rw [qo])

/-- an exception is behind the call -/
theorem EnvR.lost {oga : Og} (E : EnvR c H B og σ γ) (sub : ∀ a, oga.all a → og.all a) (k : Kp oga.all H H') (g : ∀ a, H a ≠ none → H' a ≠ none) (tb : LamX.Tabs c.tabs H') : EnvR c H' B (fun _ => []) σ (lose γ) := by
  have F : Fr0 H H' (Sx B og) (Sx B fun _ => []) oga.all := ⟨k, fun a z => by
      obtain ⟨i, z⟩ := sub a z
      exact ⟨.inr ⟨i, z⟩, E.mu z⟩, fun a z => by
      rcases z with z | ⟨_, z⟩
      · exact .inl (.inl z)
      · cases z⟩
  refine ⟨tb, by rw [E.len]; unfold lose; rw [List.length_map], fun _ _ => rfl, fun _ => List.nodup_nil, nofun, nofun, fun a z => g a (E.bl a z), fun a o e n => ?_, fun a n => g a (E.grow a n), fun i t e => ?_⟩
  · intro t
    refine k a o (E.ent a o e n t) (fun z => ?_) t
    obtain ⟨i, z⟩ := sub a z
    rcases E.h0 z with z | z
    · rw [e] at z; cases z
    · exact n z
  · unfold lose at e
    rw [List.getElem?_map] at e
    cases q : γ[i]? with
    | none => rw [q] at e; cases e
    | some s =>
      rw [q] at e
      have hs := E.sl i s q
      cases s with
      | no => cases e; exact rfl
      | w m => cases e; exact rfl
      | io m => cases e; exact rfl
      | d x => cases e; obtain ⟨_, v, e2, r⟩ := hs; exact ⟨rfl, v, e2, r.frame F⟩
      | th r => cases e; exact ⟨rfl, hs.2⟩
      | scr r => cases e; exact ⟨rfl, hs.2⟩

/-! ### the call -/
theorem Kp.imp {T T' : AP} (h : Kp T H H') (i : ∀ a, T a → T' a) : Kp T' H H' := fun a o e n t => h a o e (fun z => n (i a z)) t
variable {X : Cx} {e : Expr} {es : List Expr} {p pos : Pos} {k : Nat} {f : Addr} {fd : FuncData} {ps : List Str} {x : Str} {sp : Sp} {mf : Mf} {fs : Fn (List AV)} {dvs : List V} {ds : List Value} {dd : List D} {n : Nat}
theorem FnG.mono {P : Program} {w : World} {K : PySem.W.Frag} {mg : Str → Option Value} {base : Heap} {j : Nat} (F : FnG P w K mg base j f fd ps sp) (h : j ≤ k) : FnG P w K mg base k f fd ps sp :=
  ⟨F.len, fun A outer s H args us vs Q E hr => F.run A outer s H args us vs Q E (hr.mono h)⟩
/-- the callee runs -/
theorem run_fnG {pins : List (Addr × Obj)} {s : Shared} {Q : VK} {us : List Value} {vs : List V} {W : WX} (F : FnG X.prog X.w X.K X.mg X.base k f fd ps sp) (hr : Room k X.A) (gd : X.A.guards = some []) (hb : Binds X.K fd ps ds) (hd : Vals dvs ds) (tk : Takes X W)
    (I : Inv X pins σ H s) (r : Vals vs us) (h : sp (vs ++ dvs) H Q (fun cls d H' => W cls d σ H')) : wpAny (model X.prog X.w) X.A (call (.ref f) us) (EP X pins σ Q) X.xe s := by
  have rr : Vals (vs ++ dvs) (us ++ ds) := r.append hd
  have len : (us ++ ds).length = ps.length := rr.length.symm.trans (F.len _ _ _ _ h)
  have go := F.run X.A X.stack s H ⟨us, []⟩ (us ++ ds) (vs ++ dvs) Q _ hr gd I.env0 (hb s us I.kIn len) rr h
  refine wpAny_call (codeAny_mono go ?_)
  intro res s' hq
  match res, hq with
  | .error e, hq => exact tk e s' (XE.of_call I (fun _ _ _ z => z) hq)
  | .ok (.ret u), hq => exact I.after hq
  | .ok .next, hq => exact False.elim hq
  | .ok .brk, hq => exact False.elim hq
  | .ok .cont, hq => exact False.elim hq

/-- a call: the arguments, the defaults dd -/
def callS (n : Nat) (mf : Mf) (dd : List D) (fs : Fn (List AV)) : Fn Sl := fun γ => (fs γ).bind fun as γ1 => match argsSl γ1 (as ++ dd.map AV.d) with
  | none => .bad
  | some ss => match dis (as ++ dd.map AV.d) && (as ++ dd.map AV.d).length == n with
    | false => .bad
    | true => match mf ss with
      | .ok (r, outs) => .ok r (backs (as ++ dd.map AV.d) outs 0 γ1)
      | .ex e => .ex e γ1
      | .bad => .bad
theorem AVRs.append {as : List AV} (h : ∀ S, RpA c.K H S dd dvs) : ∀ {as : List AV} {vs : List V}, AVRs c H S σ as vs → AVRs c H S σ (as ++ dd.map AV.d) (vs ++ dvs)
  | [], _, z => by
    rw [show _ = [] from z]
    have go : ∀ {ds : List D} {ws : List V}, RpA c.K H S ds ws → AVRs c H S σ (ds.map AV.d) ws := fun {ds} => by
      induction ds with
      | nil => intro ws z; exact z
      | cons x ds ih =>
        intro ws z
        obtain ⟨v, r, e, h1, h2⟩ := z
        exact ⟨v, r, e, h1, ih h2⟩
    exact go (h S)
  | a :: as, _, ⟨v, r, e, h1, h2⟩ => ⟨v, r ++ dvs, by rw [e]; rfl, h1, AVRs.append (as := as) h h2⟩
theorem spM_of {as : List AV} {vs : List V} {Q : VK} (E : EnvR c H B og σ γ) (V : AVRs c H (Sx B og) σ as vs) {rest : Fn Sl} {ss : List Sl} (ha : argsSl γ as = some ss) (hd : dis as = true) (hl : as.length = n)
    (h : tGat c (relE c) B og (fun γ1 => match mf ss with
      | .ok (r, outs) => .ok r (backs as outs 0 γ1)
      | .ex e => .ex e γ1
      | .bad => .bad) σ H γ Q) : spM c.K c.mg c.tabs n mf vs H Q (fun cls d H' => c.W cls d σ H') := by
  refine ⟨(AVRs_get V).1.trans hl, og.rest as B, og.arg as, c.th, ss, E.enter V ha hd, ?_⟩
  unfold tGat at h
  cases q : mf ss with
  | bad => rw [q] at h; exact h
  | ex x => rw [q] at h; exact fun cls dx H' r k g tb => h cls dx H' r ⟨k.imp fun a ⟨i, z⟩ => let ⟨j, _, y⟩ := Og.arg_mem z; ⟨j, y⟩, g, fun a ⟨_, z⟩ => by cases z⟩ (E.lost (fun a ⟨i, z⟩ => let ⟨j, _, y⟩ := Og.arg_mem z; ⟨j, y⟩) k g tb)
  | ok ro =>
    obtain ⟨r, outs⟩ := ro
    rw [q] at h
    intro v H' og' on l E' q hn
    obtain ⟨L, E2, sub⟩ := E.leave V ha hd l E' (fun a z => (hn a z).2)
    exact h v H' _ on L E2 ⟨VRK.frame (c := c) ⟨.refl, nofun, fun a z => .inl (sub a z)⟩ q, fun a z y => (hn a z).1 (sub a y)⟩ fun a z => (hn a z).2
theorem call_core {Q : VK} (hdd : ∀ H S, RpA c.K H S dd dvs) (q : tE c (callS n mf dd fs) σ H Q) : tOs c fs σ H fun vs H1 => spM c.K c.mg c.tabs n mf (vs ++ dvs) H1 Q fun cls d H' => c.W cls d σ H' :=
  tG.thn q fun B og as γ0 γ1 vs H1 og1 on E0 l E1 q1 hn k => by
    have V := AVRs.append (as := as) (hdd H1) q1.2
    unfold tGat at k
    dsimp only at k
    cases ha : argsSl γ1 (as ++ dd.map AV.d) with
    | none => rw [ha] at k; exact k.elim
    | some ss =>
      cases hd : (dis (as ++ dd.map AV.d) && (as ++ dd.map AV.d).length == n) with
      | false => rw [ha, hd] at k; exact k.elim
      | true =>
        rw [ha, hd] at k
        obtain ⟨h1, h2⟩ := Bool.and_eq_true_iff.mp hd
        exact spM_of (rest := fun γ => .bad) E1 V ha h1 (beq_iff_eq.mp h2) k
theorem pe_callF (G : Base X c) (tk : Takes X c.W) (F : FnG X.prog X.w X.K X.mg X.base k f fd ps (spM c.K c.mg c.tabs n mf)) (hr : Room k X.A) (hm : X.mg x = some (.ref f)) (hk : PySem.W.keepIn X.K (.ref f) = true) (hb : Binds X.K fd ps ds) (hd : Vals dvs ds) (hdd : ∀ H S, RpA c.K H S dd dvs)
    (ha : PA X (e :: es) (tOs c fs)) (hg : Gl X x := by rfl) (hdb : (x == ("__debug__" : Str)) = false := by decide) (he : starEach (e :: es) X.env = (false, eval e X.env) :: starEach es X.env := by rfl) (hpl : (backTo pos (starEach es X.env)).any (·.1) = false := by rfl) :
    PE X (.Call (.Name x p) (e :: es) [] pos) (tE c (callS n mf dd fs)) := by
  constructor
  intro pins s σ H Q I h
  have q := call_core hdd h
  refine wpAny_Call_Name_kw (ld_glob I hg hm ?_ hdb)
  refine PySem.W.callWith_K (h₀ := X.base) I.ok.mod.kin hk (thn (ha.run pos pins s σ H _ I q) ?_) he hpl
  intro us s1 ⟨vs, H1, I1, r, z⟩
  exact ⟨I1.kIn, run_fnG F hr G.gd hb hd tk I1 r z⟩
theorem pe_callF0 (G : Base X c) (tk : Takes X c.W) (F : FnG X.prog X.w X.K X.mg X.base k f fd ps (spM c.K c.mg c.tabs n mf)) (hr : Room k X.A) (hm : X.mg x = some (.ref f)) (hk : PySem.W.keepIn X.K (.ref f) = true) (hb : Binds X.K fd ps ds) (hd : Vals dvs ds) (hdd : ∀ H S, RpA c.K H S dd dvs)
    (hg : Gl X x := by rfl) (hdb : (x == ("__debug__" : Str)) = false := by decide) :
    PE X (.Call (.Name x p) [] [] pos) (tE c (callS n mf dd fun γ => .ok [] γ)) := by
  constructor
  intro pins s σ H Q I h
  obtain ⟨B, og, γ, E, q⟩ := call_core hdd h
  have z := q [] H og [] .refl E ⟨rfl, rfl⟩ nofun
  refine wpAny_Call_Name_kw (ld_glob I hg hm ?_ hdb)
  exact PySem.W.callWith_K0 I.kIn hk (run_fnG (us := []) F hr G.gd hb hd tk I .nil z)
end
end Eg
end
section
/-! E14: lists that are changed -/
namespace Eg
open PySem PySem.Spec L2
open PyProof.Rows hiding St

def getL : Sl → Option (List D)
  | .w (.l ds) => some ds
  | .io (.l ds) => some ds
  | _ => none
def slotL (γ : Env) (i : Nat) : Option (List D) := match γ[i]? with
  | some s => getL s
  | none => none
def putL (s : Sl) (ds : List D) : Sl := match s with
  | .w _ => .w (.l ds)
  | .io _ => .io (.l ds)
  | s => s
def setL (γ : Env) (i : Nat) (ds : List D) : Env := match γ[i]? with
  | some s => γ.set i (putL s ds)
  | none => γ
section
variable {c : Cc} {H H1 H2 H' : Hp} {B S S' T : AP} {og og1 og2 og' : Og} {σ σ1 : St} {γ γ1 : Env} {X : Cx} {e a b : Expr} {pos p apos : Pos}
theorem EnvR.ownL (E : EnvR c H B og σ γ) {i : Nat} {ds : List D} (h : slotL γ i = some ds) : ∃ a xs, σ[i]? = some (some (V.ref a)) ∧ H a = some (.lst xs) ∧ RpA c.K H (Sx B og) ds xs ∧ og i = [a] := by
  unfold slotL at h
  cases e : γ[i]? with
  | none => rw [e] at h; cases h
  | some s =>
    rw [e] at h
    have hs := E.sl i s e
    have hv := E.val e
    cases s with
    | w m => cases m with
      | l ds' => cases h; obtain ⟨a, e2, ⟨o1, xs, o2, o3⟩, _⟩ := hs; rw [e2] at hv; exact ⟨a, xs, hv, o2, o3, o1⟩
      | k _ => cases h
      | m _ => cases h
    | io m => cases m with
      | l ds' => cases h; obtain ⟨e2, ⟨o1, xs, o2, o3⟩, _⟩ := hs; rw [e2] at hv; exact ⟨_, xs, hv, o2, o3, o1⟩
      | k _ => cases h
      | m _ => cases h
    | _ => cases h
theorem Fr0.upd1 {a : Addr} {o : HO} (hS : S a) (hm : MutO H a) : Fr0 H (upd H a o) S S (· = a) := ⟨fun b u e n _ => by rw [upd_ne n]; exact e, fun b e => by subst e; exact ⟨hS, hm⟩, fun b z => .inl z⟩
theorem upd_grow {a : Addr} {o : HO} : ∀ b, H b ≠ none → upd H a o b ≠ none := fun b n => by
  by_cases e : b = a
  · subst e; rw [upd_same]; exact nofun
  · rw [upd_ne e]; exact n
theorem set_self {i : Nat} {v : Option V} (h : σ[i]? = some v) : σ.set i v = σ := by
  obtain ⟨hi, e⟩ := List.getElem?_eq_some_iff.mp h
  rw [← e]
  exact List.set_getElem_self hi
theorem Og.at_self {og : Og} {i : Nat} : og.at i (og i) = og := by
  funext j
  unfold Og.at
  split
  · rename_i e; rw [e]
  · rfl
/-- what stands in slot i is written -/
theorem EnvR.write (E : EnvR c H B og σ γ) {i : Nat} {a : Addr} {o : HO} {s : Sl} (hv : σ[i]? = some (some (V.ref a))) (hi : i < γ.length) (ho : a ∈ og i)
    (new : Fr0 H (upd H a o) (Sx B og) (Sx B og) (· ∈ og i) → SlR c (upd H a o) (Sx B og) i (some (.ref a)) s (og i)) :
    EnvR c (upd H a o) B og σ (γ.set i s) ∧ Later og og H (upd H a o) := by
  have kp : Kp (· ∈ og i) H (upd H a o) := fun b u e n _ => by
    rw [upd_ne fun z => n (by subst z; exact ho)]
    exact e
  have := E.put (B := B) (s := s) (sv := some (.ref a)) (os := og i) hi (fun _ z => z) kp upd_grow (E.nd i) (fun b z => ⟨.inl z, E.nb i b z⟩) (fun b z n => (E.h0 z).elim (fun y => absurd y n) .inr) (fun t => tabs_upd t (E.mu ho)) (by rw [Og.at_self]; exact new)
  rw [Og.at_self, set_self hv] at this
  exact ⟨this, fun b u e n t => kp b u e (fun z => n ⟨i, z⟩) t, upd_grow, fun _ z => .inl z⟩
theorem slotL_lt {i : Nat} {ds : List D} (h : slotL γ i = some ds) : i < γ.length := by
  unfold slotL at h
  by_cases hi : i < γ.length
  · exact hi
  · rw [List.getElem?_eq_none (by omega)] at h; cases h
theorem EnvR.setL (E : EnvR c H B og σ γ) {i : Nat} {ds ds' : List D} {a : Addr} {xs' : List V} (h : slotL γ i = some ds) (hv : σ[i]? = some (some (V.ref a))) (ho : og i = [a]) (r : RpA c.K H (Sx B og) ds' xs') :
    EnvR c (upd H a (.lst xs')) B og σ (Eg.setL γ i ds') ∧ Later og og H (upd H a (.lst xs')) := by
  have hi := slotL_lt h
  have e : γ[i]? = some γ[i] := List.getElem?_eq_getElem hi
  have hs := E.sl i _ e
  unfold Eg.setL
  rw [e]
  refine E.write hv hi (by rw [ho]; simp) fun F => ?_
  have vv : σ[i]?.getD none = some (V.ref a) := by rw [hv]; rfl
  rw [vv] at hs
  unfold slotL at h
  rw [e] at h
  have own : Ow c.K (upd H a (.lst xs')) (Sx B og) (.l ds') a (og i) := ⟨ho, xs', upd_same, RpA.frame F _ _ r⟩
  generalize γ[i] = s at h hs
  have h : getL s = some ds := h
  cases s with
  | w m => obtain ⟨a', e2, _, z⟩ := hs; cases e2; exact ⟨a, rfl, own, z⟩
  | io m => obtain ⟨e2, _, z⟩ := hs; have e3 : a = c.adr i := V.ref.inj (Option.some.inj e2); exact ⟨e2, by rw [e3] at own ⊢; exact own, z⟩
  | _ => cases h

/-! ### methods that change a list -/
abbrev Mg := List D → List D → R (D × List D)
def MtL (K : PySem.W.Frag) (r : V → List V → Hp → VK → Prop) (g : Mg) : Prop := ∀ (a : Addr) (ds : List D) (xs : List V) (args : List D) (vs : List V) (H : Hp) (S : AP) (Q : VK), H a = some (.lst xs) → RpA K H S ds xs → RpA K H S args vs →
  (match g ds args with
    | .ok (d, ds') => ∀ v xs', Rp K H S d v → RpA K H S ds' xs' → Q v (upd H a (.lst xs'))
    | _ => False) → r (.ref a) vs H Q
def mutS (i : Nat) (g : Mg) (fs : Fn (List D)) : Fn Sl := fun γ => match slotL γ i with
  | none => .bad
  | some _ => (fs γ).bind fun args γ1 => match slotL γ1 i with
    | none => .bad
    | some ds => match g ds args with
      | .ok (d, ds') => .ok (.d d) (setL γ1 i ds')
      | _ => .bad
variable {i : Nat} {x m : Str} {g : Mg} {r : V → List V → Hp → VK → Prop} {fs : Fn (List D)} {id : String} {es : List Expr} {cpos : Pos}
theorem mut_core {Q : VK} {t : TA} (hr : MtL c.K r g) (ht : ∀ σ H Q, tDs c fs σ H Q → t σ H Q) (q : tE c (mutS i g fs) σ H Q) : tBM c.K "list" r (tVar i) t σ H Q := by
  obtain ⟨B, og, γ, E, q⟩ := q
  unfold tGat mutS at q
  cases e : slotL γ i with
  | none => rw [e] at q; exact q.elim
  | some ds0 =>
    rw [e] at q
    obtain ⟨a, xs0, hv, ha, _, ho⟩ := E.ownL e
    refine ⟨_, hv, .inl ⟨rfl, _, .inl (.inl ha)⟩, ht _ _ _ ⟨B, og, γ, E, ?_⟩⟩
    refine tGat.thn (rel := relE c) (Q := Q) (k := fun args γ1 => match slotL γ1 i with
      | none => .bad
      | some ds => match g ds args with
        | .ok (d, ds') => .ok (.d d) (Eg.setL γ1 i ds')
        | _ => .bad) q fun args γ1 vs H1 og1 on l E1 q1 hn k => ?_
    unfold tGat at k
    dsimp only at k
    cases e1 : slotL γ1 i with
    | none => rw [e1] at k; exact k.elim
    | some ds =>
      rw [e1] at k
      dsimp only at k
      obtain ⟨a', xs, hv', ha', rr, ho'⟩ := E1.ownL e1
      rw [hv] at hv'
      cases hv'
      refine hr a ds xs args vs H1 (Sx B og1) Q ha' rr q1.2 ?_
      cases e2 : g ds args with
      | ex z => rw [e2] at k; exact k.elim
      | bad => rw [e2] at k; exact k.elim
      | ok dd =>
        obtain ⟨d, ds'⟩ := dd
        rw [e2] at k
        intro v xs' rv rs
        obtain ⟨E2, L2⟩ := E1.setL (ds' := ds') (xs' := xs') e1 hv ho' rs
        have F := Later.fr E1 L2
        exact k v _ og1 [] L2 E2 ⟨⟨rfl, Rp.frame F _ _ rv⟩, nofun⟩ nofun
theorem pe_mtL (G : Base X c) (slot : Slot "list" m id) (hty : typeOf (.builtin id) = pure (.type "method_descriptor")) (hm : MtR X id r) (hr : MtL c.K r g) (hN : X.N[i]? = some x) (hv : Vis X.env.scope x) (ha : PA X (e :: es) (tDs c fs))
    (hd : (x == ("__debug__" : Str)) = false := by decide) (hcd : (x == ("__classdict__" : Str)) = false := by decide)
    (hbase : attributeBase (.Name x p) m X.env (eval (.Name x p) X.env) = eval (.Name x p) X.env := by rfl)
    (hfew : ((backTo cpos (starEach (e :: es) X.env)).all (fun x => !x.1) && (backToKw cpos (keywordEach [] X.env)).all (fun x => x.1.isSome)
      && decide ((e :: es).length + ([] : List Keyword).length + (if ([] : List Keyword).isEmpty then 0 else 1) < 30)) = true := by rfl)
    (hline : (apos.endLine == cpos.line) = true := by rfl) (hs : starEach (e :: es) X.env = (false, eval e X.env) :: starEach es X.env := by rfl) (hplain : (backTo cpos (starEach es X.env)).any (·.1) = false := by rfl) :
    PE X (.Call (.Attribute (.Name x p) m apos) (e :: es) [] cpos) (tE c (mutS i g fs)) :=
  PE_imp (pe_bm PySem.F.plainAttrs_list slot hty hm (pe_var hN hv hd hcd) ha hbase hfew hline hs hplain) fun σ H Q q => by rw [G.k]; exact mut_core hr (fun _ _ _ z => z) q
theorem pe_mtL0 (G : Base X c) (slot : Slot "list" m id) (hty : typeOf (.builtin id) = pure (.type "method_descriptor")) (hm : MtR X id r) (hr : MtL c.K r g) (hN : X.N[i]? = some x) (hv : Vis X.env.scope x)
    (hd : (x == ("__debug__" : Str)) = false := by decide) (hcd : (x == ("__classdict__" : Str)) = false := by decide)
    (hbase : attributeBase (.Name x p) m X.env (eval (.Name x p) X.env) = eval (.Name x p) X.env := by rfl) (hline : (apos.endLine == cpos.line) = true := by rfl) :
    PE X (.Call (.Attribute (.Name x p) m apos) [] [] cpos) (tE c (mutS i g fun γ => .ok [] γ)) :=
  PE_imp (pe_bm0 PySem.F.plainAttrs_list slot hty hm (pe_var hN hv hd hcd) hbase hline) fun σ H Q q => by
    rw [G.k]
    obtain ⟨v, hv, ty, z⟩ := mut_core (t := tNil) hr (fun σ H Q ⟨B, og, γ, E, z⟩ => z [] H og [] .refl E ⟨rfl, rfl⟩ nofun) q
    exact ⟨v, hv, ty, z⟩

/-! the methods -/
def appG : Mg := fun ds args => match args with
  | [d] => if ds.length < sizeLine then .ok (.none, ds ++ [d]) else .bad
  | _ => .bad
theorem mg_app {K : PySem.W.Frag} : MtL K rAppend appG := fun a ds xs args vs H S Q ha r rs h => by
  cases args with
  | nil => exact h.elim
  | cons d args => cases args with
    | cons _ _ => exact h.elim
    | nil =>
      obtain ⟨y, u, rfl, h1, h2⟩ := rs
      cases (show u = [] from h2)
      unfold appG at h
      dsimp only at h
      by_cases hl : ds.length < sizeLine
      · rw [if_pos hl] at h
        exact ⟨a, xs, y, rfl, rfl, ha, by rw [r.len]; exact hl, h .non _ rfl (RpA.append r ⟨y, [], rfl, h1, rfl⟩)⟩
      · rw [if_neg hl] at h
        exact h.elim
def popG : Mg := fun ds args => match args with
  | [] => match ds.getLast? with
    | some d => .ok (d, ds.dropLast)
    | none => .bad
  | _ => .bad
def popAtG : Mg := fun ds args => match args with
  | [.int i] => if ds.length ≤ sizeLine then match ixN ds.length i with
    | some j => match ds[j]? with
      | some d => .ok (d, ds.eraseIdx j)
      | none => .bad
    | none => .bad
    else .bad
  | _ => .bad
def insG : Mg := fun ds args => match args with
  | [.int i, d] => if ds.length < sizeLine ∧ 0 ≤ i ∧ i < 2 ^ 63 then .ok (.none, ds.take i.toNat ++ [d] ++ ds.drop i.toNat) else .bad
  | _ => .bad
def revG : Mg := fun ds args => match args with
  | [] => .ok (.none, ds.reverse)
  | _ => .bad
theorem mg_rev {K : PySem.W.Frag} : MtL K rReverse revG := fun a ds xs args vs H S Q ha r rs h => by
  cases args with
  | cons _ _ => exact h.elim
  | nil =>
    cases (show vs = [] from rs)
    exact ⟨a, xs, rfl, rfl, ha, h .non _ rfl (RpA.reverse r)⟩
theorem RpA.dropLast {K : PySem.W.Frag} : ∀ {ds : List D} {vs : List V}, RpA K H S ds vs → RpA K H S ds.dropLast vs.dropLast := fun {ds vs} h => by
  rw [List.dropLast_eq_take, List.dropLast_eq_take, h.len]
  exact RpA.take _ h
theorem mg_pop {K : PySem.W.Frag} : MtL K rPop popG := fun a ds xs args vs H S Q ha r rs h => by
  cases args with
  | cons _ _ => exact h.elim
  | nil =>
    cases (show vs = [] from rs)
    unfold popG at h
    dsimp only at h
    rw [List.getLast?_eq_getElem?] at h
    cases e : ds[ds.length - 1]? with
    | none => rw [e] at h; exact h.elim
    | some d =>
      rw [e] at h
      obtain ⟨v, e1, e2⟩ := r.get e
      exact ⟨a, xs, v, rfl, rfl, ha, by rw [r.len]; exact e1, h v _ e2 r.dropLast⟩
theorem mg_popAt {K : PySem.W.Frag} : MtL K rPopAt popAtG := fun a ds xs args vs H S Q ha r rs h => by
  cases args with
  | nil => exact h.elim
  | cons d args => cases args with
    | cons _ _ => cases d <;> exact h.elim
    | nil =>
      obtain ⟨y, u, rfl, h1, h2⟩ := rs
      cases (show u = [] from h2)
      cases d with
      | int i =>
        cases (show y = .int i from h1)
        unfold popAtG at h
        dsimp only at h
        by_cases hz : ds.length ≤ sizeLine
        case neg => rw [if_neg hz] at h; exact h.elim
        rw [if_pos hz] at h
        cases e : ixN ds.length i with
        | none => rw [e] at h; exact h.elim
        | some j =>
          rw [e] at h
          dsimp only at h
          cases e2 : ds[j]? with
          | none => rw [e2] at h; exact h.elim
          | some d =>
            rw [e2] at h
            obtain ⟨v, e3, e4⟩ := r.get e2
            have hl : xs.length = ds.length := r.len
            obtain ⟨q1, q2, q3, q4⟩ := ixN_seq e
            have hs := line63
            exact ⟨a, xs, i, j, v, rfl, rfl, ha, by omega, by omega, by rw [hl]; exact q1, e3, h v _ e4 (r.erase j)⟩
      | _ => exact h.elim
theorem mg_ins {K : PySem.W.Frag} : MtL K (fun x vs H Q => ∃ (l : Addr) (xs : List V) (i : Int) (y : V), x = .ref l ∧ vs = [.int i, y] ∧ H l = some (.lst xs) ∧ xs.length < sizeLine ∧ 0 ≤ i ∧ i < 2 ^ 63 ∧
    Q .non (upd H l (.lst (xs.take i.toNat ++ [y] ++ xs.drop i.toNat)))) insG := fun a ds xs args vs H S Q ha r rs h => by
  cases args with
  | nil => exact h.elim
  | cons d args => cases args with
    | nil => cases d <;> exact h.elim
    | cons d2 args => cases args with
      | cons _ _ => cases d <;> exact h.elim
      | nil =>
        obtain ⟨y, u, rfl, h1, y2, u2, rfl, h2, h3⟩ := rs
        cases (show u2 = [] from h3)
        cases d with
        | int i =>
          cases (show y = .int i from h1)
          unfold insG at h
          dsimp only at h
          by_cases hc : ds.length < sizeLine ∧ 0 ≤ i ∧ i < 2 ^ 63
          · rw [if_pos hc] at h
            exact ⟨a, xs, i, y2, rfl, rfl, ha, by rw [r.len]; exact hc.1, hc.2.1, hc.2.2, h .non _ rfl ((RpA.append (RpA.append (r.take _) ⟨y2, [], rfl, h2, rfl⟩) (r.drop _)))⟩
          · rw [if_neg hc] at h; exact h.elim
        | _ => exact h.elim

/-! ### x[i] = v, x a list's name -/
def putIx (i : Nat) (d k : D) (γ2 : Env) : RE Fl := match slotL γ2 i with
  | none => .bad
  | some ds => match k with
    | .int k => match ixN ds.length k with
      | some j => .ok .nx (setL γ2 i (ds.set j d))
      | none => .bad
    | _ => .bad
def setIx (i : Nat) (fi fv : Fn D) : Fn Fl := fun γ => (fv γ).bind fun d γ1 => match slotL γ1 i with
  | none => .bad
  | some _ => (fi γ1).bind fun k γ2 => putIx i d k γ2
theorem ps_setIx {fi fv : Fn D} {pn px : Pos} (G : Base X c) (hN : X.N[i]? = some x) (hv : Vis X.env.scope x) (hi : PE X e (tD c fi)) (hval : PE X a (tD c fv)) (hd : (x == ("__debug__" : Str)) = false := by decide) (hcd : (x == ("__classdict__" : Str)) = false := by decide)
    (hs : swapsWithSole [.Subscript (.Name x pn) e px] a pos.line X.env = pure false := by rfl) (hw : swappedStores [.Subscript (.Name x pn) e px] a X.env = pure none := by rfl)
    (h1 : (assignEach [.Subscript (.Name x pn) e px] X.env).map (·.2) = [assign (.Subscript (.Name x pn) e px) X.env] := by rfl)
    (hasg : ∀ v, assign (.Subscript (.Name x pn) e px) X.env v = (do
      let ov ← holding [v] (eval (.Name x pn) X.env)
      let iv ← holding [v, ov] (eval e X.env)
      standAt px
      holding [v, ov, iv] (setItem ov iv v)
      release [v, ov, iv] []) := by intro _; rfl) : PS X (.Assign [.Subscript (.Name x pn) e px] a pos) (tS c (setIx i fi fv)) :=
  PS_imp (ps_asg hval (pg_sub (pe_var hN hv hd hcd) hi set_list hasg) hs hw h1) fun Dn σ H q => by
    refine tS.thn q fun B og d γ0 γ1 v H1 og1 on E0 l E1 q1 hn k => ?_
    have k := k.shift l
    cases e0 : slotL γ1 i with
    | none => unfold tSat at k; dsimp only at k; rw [e0] at k; exact k.elim
    | some ds0 =>
      obtain ⟨a0, xs0, hv0, ha0, _, ho0⟩ := E1.ownL e0
      refine ⟨_, hv0, B, og1, γ1, E1, ?_⟩
      have k : tSat c B og1 (fun γ1 => (fi γ1).bind fun kd γ2 => putIx i d kd γ2) Dn H1 γ1 := by
        unfold tSat at k ⊢
        dsimp only at k
        rw [e0] at k
        exact k
      refine tSat.thn E1 k fun kd γ2 w H2 og2 on2 l2 E2 q2 hn2 k => ?_
      have k := k.shift l2
      unfold tSat putIx at k
      dsimp only at k
      cases e1 : slotL γ2 i with
      | none => rw [e1] at k; exact k.elim
      | some ds =>
        rw [e1] at k
        obtain ⟨a1, xs, hv1, ha1, rr, ho1⟩ := E2.ownL e1
        rw [hv0] at hv1
        cases hv1
        cases kd with
        | int kk =>
          dsimp only at k
          cases e2 : ixN ds.length kk with
          | none => rw [e2] at k; exact k.elim
          | some j =>
            rw [e2] at k
            have rd : Rp c.K H2 (Sx B og2) d v := Rp.frame (Later.fr E1 l2) _ _ q1.2
            obtain ⟨E3, l3⟩ := E2.setL (ds' := ds.set j d) (xs' := xs.set j v) e1 hv0 ho1 (RpA.set j rr rd)
            have hw : w = .int kk := q2.2
            exact ⟨a0, xs, kk, j, rfl, hw, ha1, by rw [rr.len]; exact e2, k σ _ og2 l3 E3⟩
        | _ => exact k.elim
end
end Eg
end
section
/-! E15: name op= e, slices, in, isinstance, sorted of ints -/
namespace Eg
open PySem PySem.Spec L2
open PyProof.Rows hiding St

section
variable {c : Cc} {H H1 H2 H' : Hp} {B S S' T : AP} {og og1 og2 og' : Og} {σ σ1 : St} {γ γ1 : Env} {X : Cx} {e a b : Expr} {pos p apos : Pos}
/-! ### name op= e, ints -/
def augI (i : Nat) (f : Int → Int → Int) (fe : Fn D) : Fn Fl := fun γ => match γ[i]? with
  | some (.d (.int m)) => (fe γ).bind fun d γ1 => match d with
    | .int n => setE i (.d (.int (f m n))) γ1
    | _ => .bad
  | _ => .bad
theorem ps_augI {i : Nat} {x : Str} {op : Operator} {f : Int → Int → Int} {fe : Fn D} {pos' : Pos} (G : Base X c) (ho : PIp X op (ipI f)) (hi : X.N[i]? = some x) (hx : Loc X.env.scope x) (he : PE X e (tD c fe)) (hf : X.fn x = true ∨ X.env.scope.names.lookup x = some .local := by first | exact .inl rfl | exact .inr rfl) : PS X (.AugAssign (.Name x pos') op e pos) (tS c (augI i f fe)) :=
  PS_imp (ps_aug G.nd hi hx he ho hf) fun Dn σ H q => by
    obtain ⟨B, og, γ, E, q⟩ := q
    unfold tSat augI at q
    cases e0 : γ[i]? with
    | none => rw [e0] at q; exact q.elim
    | some s =>
      have hv := E.val e0
      have hs := E.sl i s e0
      cases s with
      | d d0 => cases d0 with
        | int m =>
          obtain ⟨_, v, e2, r⟩ := hs
          cases (show v = .int m from r)
          rw [e2] at hv
          rw [e0] at q
          have gen : tE c (fun γ => (fe γ).bind fun d γ1 => match d with
            | .int n => .ok (.d (.int (f m n))) γ1
            | _ => .bad) σ H fun z H1 => Dn.nx (σ.set i (some z)) H1 := set_core ⟨B, og, γ, E, by
              unfold tSat setS
              dsimp only at q ⊢
              cases e1 : fe γ with
              | bad => rw [e1] at q; exact q.elim
              | ex z γ1 => rw [e1] at q; exact q
              | ok d γ1 =>
                rw [e1] at q
                cases d with
                | int n => exact q
                | _ => exact q.elim⟩
          refine ⟨_, hv, tG.thn gen fun B og d γ0 γ1 y H1 og1 on E0 l E1 q1 hn k => ?_⟩
          cases d with
          | int n =>
            cases (show y = .int n from q1.2)
            exact ⟨m, n, rfl, rfl, k (.int (f m n)) H1 og1 [] .refl E1 ⟨⟨rfl, rfl⟩, nofun⟩ nofun⟩
          | _ => exact k.elim
        | _ => rw [e0] at q; exact q.elim
      | _ => rw [e0] at q; exact q.elim

/-! ### slices -/
def cutD {α : Type} (xs : List α) (lo hi : Option Int) : List α := (xs.drop (HT.sIx xs.length 0 lo)).take (HT.sIx xs.length xs.length hi - HT.sIx xs.length 0 lo)
theorem RpA.cut {K : PySem.W.Frag} {ds : List D} {xs : List V} {lo hi : Option Int} (r : RpA K H S ds xs) : RpA K H S (cutD ds lo hi) (cutV xs lo hi) := by
  unfold cutD cutV
  rw [r.len]
  exact RpA.take _ (RpA.drop _ r)
def slD (d : D) (lo hi : Option Int) : R Sl := match d with
  | .list ds => .ok (.w (.l (cutD ds lo hi)))
  | .tuple ds => .ok (.d (.tuple (cutD ds lo hi)))
  | .str z => if z.length ≤ sizeLine then .ok (.d (.str (cutS z lo hi))) else .bad
  | _ => .bad
theorem cut_whole {α : Type} {xs : List α} {lo hi : Option Int} (h : HT.sIx xs.length 0 lo = 0 ∧ HT.sIx xs.length xs.length hi = xs.length) : cutD xs lo hi = xs := by
  unfold cutD
  rw [h.1, h.2]
  simp
theorem sl_data : L2.SlR X (fun x lo hi H Q => ∃ S d, RpT X.K H S d x ∧ PPost X.K H S (slD d lo hi) Q) := by
  intro pins s σ H x v vl vu lo hi sl Q I rx hs pl pu h
  obtain ⟨S, d, hx, p⟩ := h
  cases d with
  | list ds =>
    obtain ⟨a, xs, rfl, ha, r⟩ := hx
    exact sl_list pins s σ H _ v vl vu lo hi sl Q I rx hs pl pu ⟨a, xs, rfl, .inl (.inl ha), fun q hq => PPost.lst p hq r.cut⟩
  | tuple ds =>
    obtain ⟨a, xs, rfl, ha, r⟩ := hx
    refine sl_tupA pins s σ H _ v vl vu lo hi sl Q I rx hs pl pu ⟨a, xs, rfl, ha, fun w => ?_, fun w q hq => PPost.tup p hq r.cut⟩
    rw [r.len] at w
    have p : PPost X.K H S (.ok (.d (.tuple (cutD ds lo hi)))) Q := p
    rw [cut_whole w] at p
    exact p.flat ⟨a, xs, rfl, ha, r⟩
  | str z =>
    cases hx
    obtain ⟨hl, p⟩ := PPost.ite p
    exact sl_str pins s σ H _ v vl vu lo hi sl Q I rx hs pl pu ⟨z, rfl, hl, p.flat rfl⟩
  | _ => exact p.elim
def relI : Rel (Option Int) (Option Int) := fun _ _ _ b b' on => on = [] ∧ b' = b
abbrev tOI (c : Cc) (f : Fn (Option Int)) : TO := tG c relI f
def noI : Fn (Option Int) := fun γ => .ok none γ
def someI (f : Fn D) : Fn (Option Int) := fun γ => (f γ).bind fun d γ1 => match d with
  | .int i => .ok (some i) γ1
  | _ => .bad
theorem PO_imp {e : Option Expr} {t t' : TO} (h : PO X e t) (i : ∀ σ H Q, t' σ H Q → t σ H Q) : PO X e t' := ⟨fun pins s σ H Q I q => h.run pins s σ H Q I (i σ H Q q)⟩
theorem po_none' : PO X none (tOI c noI) := PO_imp po_none fun σ H Q ⟨B, og, γ, E, k⟩ => k none H og [] .refl E ⟨rfl, rfl⟩ nofun
theorem po_some' {f : Fn D} (h : PE X e (tD c f)) : PO X (some e) (tOI c (someI f)) := PO_imp (po_some h) fun σ H Q q => tG.thn q fun B og d γ0 γ1 v H1 og1 on E0 l E1 q1 hn k => by
  cases d with
  | int i => cases (show v = .int i from q1.2); exact ⟨i, rfl, k.fin .refl E1 ⟨rfl, rfl⟩ nofun⟩
  | _ => exact k.elim
def slS (fa : Fn AV) (flo fhi : Fn (Option Int)) : Fn Sl := fun γ => (fa γ).bind fun x γ1 => (flo γ1).bind fun lo γ2 => (fhi γ2).bind fun hi γ3 => prim ((getA γ3 x).bind fun d => slD d lo hi) γ3
theorem pe_slice' {fa : Fn AV} {flo fhi : Fn (Option Int)} {lo hi : Option Expr} {p2 : Pos} (G : Base X c) (he : PE X e (tO c fa)) (hl : PO X lo (tOI c flo)) (hh : PO X hi (tOI c fhi)) : PE X (.Subscript e (.Slice lo hi none p2) pos) (tE c (slS fa flo fhi)) :=
  PE_imp (pe_slice sl_data he hl hh) fun σ H Q q => by
    rw [G.k]
    refine tG.thn q fun B og x γ0 γ1 v H1 og1 on E0 l E1 q1 hn k => ?_
    refine ⟨B, og1, γ1, E1, tGat.thn k fun lo γ2 w H2 og2 on2 l2 E2 q2 hn2 k2 => ?_⟩
    refine ⟨B, og2, γ2, E2, tGat.thn k2 fun hi γ3 w3 H3 og3 on3 l3 E3 q3 hn3 k3 => ?_⟩
    cases (show w = lo from q2.2)
    cases (show w3 = hi from q3.2)
    have p := prim_fin E3 k3
    have hx := AVR.later E2 l3 (AVR.later E1 l2 q1.2)
    cases ex : getA γ3 x with
    | ex z => rw [ex] at p; exact p.elim
    | bad => rw [ex] at p; exact p.elim
    | ok d => rw [ex] at p; exact ⟨_, d, getA_top E3 hx ex, p⟩
/-! the script's slice -/
theorem EnvR.scrAt (E : EnvR c H B og σ γ) {a : Addr} {xs : List V} (r : SqX c.K c.H0 c.ios a xs) : SqL c.K H a xs := by
  rcases r with ⟨r | ⟨o, r⟩, n⟩ | r
  · exact .inl (.inl (E.ent a _ r n nt_lst))
  · exact .inl (.inr ⟨o, E.ent a _ r n nt_frz⟩)
  · exact SqX.any r
def slScr (i : Nat) (flo fhi : Fn (Option Int)) : Fn Sl := fun γ => match γ[i]? with
  | some (.scr ns) => (flo γ).bind fun lo γ2 => (fhi γ2).bind fun hi γ3 => .ok (.w (.l ((cutD ns lo hi).map .int))) γ3
  | _ => .bad
theorem cutV_ints {ns : List Int} {lo hi : Option Int} : cutV (ns.map V.int) lo hi = (cutD ns lo hi).map V.int := by
  unfold cutV cutD
  rw [List.length_map, List.map_take, List.map_drop]
theorem pe_slScr {i : Nat} {x : Str} {flo fhi : Fn (Option Int)} {lo hi : Option Expr} {p2 : Pos} (G : Base X c) (hN : X.N[i]? = some x) (hv : Vis X.env.scope x) (hl : PO X lo (tOI c flo)) (hh : PO X hi (tOI c fhi)) (hd : (x == ("__debug__" : Str)) = false := by decide) (hcd : (x == ("__classdict__" : Str)) = false := by decide) :
    PE X (.Subscript (.Name x p) (.Slice lo hi none p2) pos) (tE c (slScr i flo fhi)) :=
  PE_imp (pe_slice sl_list (pe_var hN hv hd hcd) hl hh) fun σ H Q q => by
    rw [G.k]
    obtain ⟨B, og, γ, E, q⟩ := q
    unfold tGat slScr at q
    cases e0 : γ[i]? with
    | none => rw [e0] at q; exact q.elim
    | some s =>
      rw [e0] at q
      cases s with
      | scr ns =>
        obtain ⟨_, a, e2, r⟩ := E.sl i _ e0
        have hv := E.val e0
        rw [e2] at hv
        refine ⟨_, hv, B, og, γ, E, ?_⟩
        refine tGat.thn (rel := relE c) (Q := Q) (k := fun lo γ2 => (fhi γ2).bind fun hi γ3 => .ok (.w (.l ((cutD ns lo hi).map .int))) γ3) q fun lo γ2 w H2 og2 on2 l2 E2 q2 hn2 k2 => ?_
        refine ⟨B, og2, γ2, E2, tGat.thn k2 fun hi γ3 w3 H3 og3 on3 l3 E3 q3 hn3 k3 => ?_⟩
        cases (show w = lo from q2.2)
        cases (show w3 = hi from q3.2)
        refine ⟨a, _, rfl, E3.scrAt r, fun q hq => ?_⟩
        have hf : ∀ b ∈ [q], H3 b = none := fun b hb => by cases List.mem_singleton.mp hb; exact hq
        have vr : VRK c.K (upd H3 q (.lst ((cutD ns lo hi).map V.int))) (Sx B og3) (.w (.l ((cutD ns lo hi).map .int))) (.ref q) [q] := VRK.lst hq (RpA.of_ints _)
        rw [cutV_ints]
        exact k3 _ _ og3 [q] (Later.more (same_upd hq)) (E3.fresh (same_upd hq) hf fun b hb => VRK.there vr hb) ⟨vr, fun b hb => E3.notS (hf b hb)⟩ hf
      | _ => exact q.elim
end
end Eg
end
section
/-! E16: in, isinstance, sorted of ints, index, the list backwards -/
namespace Eg
open PySem PySem.Spec L2
open PyProof.Rows hiding St

def inD (d e : D) : R Sl := match e with
  | .list ds => if okEq d && okEq (.list ds) then .ok (.d (.bool (inDs d ds))) else .bad
  | .tuple ds => if okEq d && okEq (.tuple ds) then .ok (.d (.bool (inDs d ds))) else .bad
  | .dict kvs => match toKey d with
    | some q => .ok (.d (.bool (lookD kvs q).isSome))
    | none => .bad
  | _ => .bad
def notS : R Sl → R Sl
  | .ok (.d (.bool b)) => .ok (.d (.bool (!b)))
  | _ => .bad
def notInD (d e : D) : R Sl := notS (inD d e)
section
variable {c : Cc} {H H1 H2 H' : Hp} {B S S' T : AP} {og og1 og2 og' : Og} {σ σ1 : St} {γ γ1 : Env} {X : Cx} {e a b : Expr} {pos p apos : Pos}
theorem key_val {d : D} {v : V} {q : L2.Key} {K : PySem.W.Frag} (h : RpT K H S d v) (e : toKey d = some q) : v = kV q := by
  have e := toKey_inv e
  subst e
  cases q with
  | inl i => exact h
  | inr z => exact h
theorem lookD_some {K : PySem.W.Frag} {q : L2.Key} {kvs : List (D × D)} {ks : List (L2.Key × V)} (r : RpK K H S kvs ks) : (valV ks q).isSome = (lookD kvs q).isSome := by
  rcases RpK.look (K := K) q r with ⟨d, w, e1, e2, _⟩ | ⟨e1, e2⟩ <;> rw [e1, e2] <;> rfl
theorem op_inE (hu : X.A.units + 65 < cLine) : OpR X (compareOp .In) (rP X.K inD) := by
  intro pins s σ H x y v u Q I rx ry h
  obtain ⟨S, d, e, hx, hy, p⟩ := h
  cases e with
  | list ds =>
    obtain ⟨hl, p⟩ := PPost.ite p
    simp only [okEq, Bool.and_eq_true] at hl
    exact op_inD hu pins s σ H _ _ v u Q I rx ry ⟨d, ds, hx.dp hl.1.1, hy.dp hl.2.1, hl.1.2, hl.2.2, p.flat rfl⟩
  | tuple ds =>
    obtain ⟨hl, p⟩ := PPost.ite p
    simp only [okEq, Bool.and_eq_true] at hl
    obtain ⟨as, r1⟩ := Dp.reads I d x v (hx.dp hl.1.1) rx
    obtain ⟨bs, r2⟩ := Dp.reads I (.tuple ds) y u (hy.dp hl.2.1) ry
    exact SeqAt.in_tuple_reads r2 r1 (SeqAt.canLay_of_shaped hl.2.2) (SeqAt.canLay_of_shaped hl.1.2) (room_in_shaped hl.1.2 hu) ⟨.bl (inDs d ds), H, I, rfl, p.flat rfl⟩
  | dict kvs =>
    obtain ⟨a, ks, rfl, ha, r⟩ := hy
    have p : PPost X.K H S (match toKey d with
      | some q => R.ok (.d (.bool (lookD kvs q).isSome))
      | none => R.bad) Q := p
    cases hk : toKey d with
    | none => rw [hk] at p; exact p.elim
    | some q =>
      rw [hk] at p
      have ex := key_val hx hk
      subst ex
      cases (show u = Value.ref a from ry)
      refine d_in (by omega) I (.inl ⟨_, _, ha, rfl, rfl⟩) rx fun s' I' => ⟨.bl (lookD kvs q).isSome, H, I', ?_, p.flat rfl⟩
      rw [lookD_some r]
      rfl
  | _ => exact p.elim
theorem op_notInE (hu : X.A.units + 65 < cLine) : OpR X (compareOp .NotIn) (rP X.K notInD) := by
  intro pins s σ H x y v u Q I rx ry h
  obtain ⟨S, d, e, hx, hy, p⟩ := h
  cases e with
  | list ds =>
    have p : PPost X.K H S (notS (if okEq d && okEq (.list ds) then .ok (.d (.bool (inDs d ds))) else .bad)) Q := p
    by_cases hl : (okEq d && okEq (.list ds)) = true
    · rw [if_pos hl] at p
      simp only [okEq, Bool.and_eq_true] at hl
      exact op_notInD hu pins s σ H _ _ v u Q I rx ry ⟨d, ds, hx.dp hl.1.1, hy.dp hl.2.1, hl.1.2, hl.2.2, p.flat rfl⟩
    · rw [if_neg hl] at p; exact p.elim
  | tuple ds =>
    have p : PPost X.K H S (notS (if okEq d && okEq (.tuple ds) then .ok (.d (.bool (inDs d ds))) else .bad)) Q := p
    by_cases hl : (okEq d && okEq (.tuple ds)) = true
    · rw [if_pos hl] at p
      simp only [okEq, Bool.and_eq_true] at hl
      obtain ⟨as, r1⟩ := Dp.reads I d x v (hx.dp hl.1.1) rx
      obtain ⟨bs, r2⟩ := Dp.reads I (.tuple ds) y u (hy.dp hl.2.1) ry
      exact SeqAt.notIn_tuple_reads r2 r1 (SeqAt.canLay_of_shaped hl.2.2) (SeqAt.canLay_of_shaped hl.1.2) (room_in_shaped hl.1.2 hu) ⟨.bl (!inDs d ds), H, I, rfl, p.flat rfl⟩
    · rw [if_neg hl] at p; exact p.elim
  | dict kvs =>
    obtain ⟨a, ks, rfl, ha, r⟩ := hy
    have p : PPost X.K H S (notS (match toKey d with
      | some q => R.ok (.d (.bool (lookD kvs q).isSome))
      | none => R.bad)) Q := p
    cases hk : toKey d with
    | none => rw [hk] at p; exact p.elim
    | some q =>
      rw [hk] at p
      have ex := key_val hx hk
      subst ex
      cases (show u = Value.ref a from ry)
      refine d_notIn (by omega) I (.inl ⟨_, _, ha, rfl, rfl⟩) rx fun s' I' => ⟨.bl (!(lookD kvs q).isSome), H, I', ?_, p.flat rfl⟩
      rw [lookD_some r]
      rfl
  | _ => exact p.elim

/-! ### isinstance(x, T), T a built-in type -/
def tyD : D → String
  | .none => "NoneType"
  | .bool _ => "bool"
  | .int _ => "int"
  | .str _ => "str"
  | .list _ => "list"
  | .tuple _ => "tuple"
  | .dict _ => "dict"
theorem tyD_of {K : PySem.W.Frag} {d : D} {v : V} (h : RpT K H S d v) : TyX K H v (.type (tyD d)) := by
  cases d with
  | none => cases h; exact .base .non
  | bool b => cases h; exact .base (.bl b)
  | int i => cases h; exact .base (.int i)
  | str x => cases h; exact .base (.str x)
  | list ds => obtain ⟨a, xs, rfl, ha, _⟩ := h; exact .base (.lst ha)
  | dict ds => obtain ⟨a, xs, rfl, ha, _⟩ := h; exact ha.elim (fun z => .base (.dK z)) fun ⟨o, z⟩ => .fDict z
  | tuple ds =>
    obtain ⟨a, xs, rfl, ha, _⟩ := h
    rcases ha with (ha | ⟨o, ha⟩) | ha
    · exact .base (.tup ha)
    · exact .fTuple ha
    · obtain ⟨o, _, _, k, c, _⟩ := ha
      exact .kTuple k c
def isiInt : D → Bool
  | .int _ => true
  | .bool _ => true
  | _ => false
def isiBool : D → Bool
  | .bool _ => true
  | _ => false
def isiTup : D → Bool
  | .tuple _ => true
  | _ => false
def isiList : D → Bool
  | .list _ => true
  | _ => false
def isiStr : D → Bool
  | .str _ => true
  | _ => false
def isiDict : D → Bool
  | .dict _ => true
  | _ => false
theorem kit_int (d : D) : kitB (tyD d) "int" = some (isiInt d) := by cases d <;> (show kitB _ _ = _; simp only [tyD, isiInt]; decide +kernel)
theorem kit_bool (d : D) : kitB (tyD d) "bool" = some (isiBool d) := by cases d <;> (show kitB _ _ = _; simp only [tyD, isiBool]; decide +kernel)
theorem kit_tup (d : D) : kitB (tyD d) "tuple" = some (isiTup d) := by cases d <;> (show kitB _ _ = _; simp only [tyD, isiTup]; decide +kernel)
theorem kit_list (d : D) : kitB (tyD d) "list" = some (isiList d) := by cases d <;> (show kitB _ _ = _; simp only [tyD, isiList]; decide +kernel)
theorem kit_str (d : D) : kitB (tyD d) "str" = some (isiStr d) := by cases d <;> (show kitB _ _ = _; simp only [tyD, isiStr]; decide +kernel)
theorem kit_dict (d : D) : kitB (tyD d) "dict" = some (isiDict d) := by cases d <;> (show kitB _ _ = _; simp only [tyD, isiDict]; decide +kernel)
def boolOf (g : D → Bool) : D → R Sl := fun d => .ok (.d (.bool (g d)))
theorem pe_isi {fa : Fn AV} {x : Str} {T : String} {g : D → Bool} {p2 : Pos} (G : Base X c) (hk : ∀ d, kitB (tyD d) T = some (g d)) (he : PE X e (tO c fa)) (hm : X.mg "isinstance" = none) (hmT : X.mg x = none) (hT : bootBuiltins x = some (.type T)) (hg : Gl X "isinstance" := by rfl) (hgT : Gl X x := by rfl)
    (hn : x ≠ "__name__" := by decide) (hdb : (x == ("__debug__" : Str)) = false := by decide) (hs : starEach [e, .Name x p2] X.env = (false, eval e X.env) :: starEach [.Name x p2] X.env := by rfl) (hpl : (backTo pos (starEach [.Name x p2] X.env)).any (·.1) = false := by rfl) :
    PE X (.Call (.Name "isinstance" p) [e, .Name x p2] [] pos) (tE c (op1 (boolOf g) fa)) :=
  PE_imp (pe_callB call_isi hg hm PyProof.Rows.boot_isinstance (pa_cons he (pa_cons (pe_bltn hgT hmT hT (show RelV (.ty T) (.type T) from rfl) hn hdb) pa_nil) hs) (he := hs) (hpl := hpl)) fun σ H Q q => by
    rw [G.k]
    have z := op1_core q
    have mono : ∀ σ H (Q Q' : VK), (∀ v H, Q v H → Q' v H) → tO c fa σ H Q → tO c fa σ H Q' := fun σ H Q Q' i ⟨B, og, γ, E, z⟩ => ⟨B, og, γ, E, by
      unfold tGat at z ⊢
      split
      · rename_i r γ' e0; rw [e0] at z; exact fun v H' og' on a b c d => i _ _ (z v H' og' on a b c d)
      · rename_i x γ' e0; rw [e0] at z; exact z
      · rename_i e0; rw [e0] at z; exact z⟩
    exact mono _ _ _ _ (fun v H1 ⟨S, d, h, p⟩ => ⟨v, .ty T, _, .type T, g d, rfl, .ty T, tyD_of h, kit_ty (hk d), PPost.flat p rfl⟩) z
end
end Eg
end
section
/-! E17: a dict is walked -/
namespace Eg
open PySem PySem.Spec L2
open PyProof.Rows hiding St

/-! ### a dict is locked, unlocked: the data stay -/
structure Dz (d : Addr) (ks : List (L2.Key × V)) (H H' : Hp) : Prop where
  eq : ∀ a, a ≠ d → H' a = H a
  old : Rd H d (.dK ks)
  new : Rd H' d (.dK ks)
section
variable {c : Cc} {H H1 H2 H' : Hp} {B S S' T : AP} {og og1 og2 og' : Og} {σ σ1 : St} {γ γ1 : Env} {X : Cx} {e a b : Expr} {pos p apos : Pos} {d : Addr} {ks : List (L2.Key × V)} {K : PySem.W.Frag}
theorem Rd.dz {u : HO} {a : Addr} (z : Dz d ks H H') (n : ∀ ks, u ≠ .dK ks) (m : ∀ o v, u ≠ .frz o v) (r : Rd H a u) : a ≠ d := fun e => by
  subst e
  rcases z.old with h | ⟨o, h⟩ <;> rcases r with r | ⟨o', r⟩ <;> rw [h] at r <;> cases r
  · exact n _ rfl
  · exact m _ _ rfl
  · exact n _ rfl
theorem Rd.toDz {u : HO} {a : Addr} (z : Dz d ks H H') (n : ∀ ks, u ≠ .dK ks) (m : ∀ o v, u ≠ .frz o v) (r : Rd H a u) : Rd H' a u := by
  have h := z.eq a (Rd.dz z n m r)
  rcases r with r | ⟨o, r⟩
  · exact .inl (h.trans r)
  · exact .inr ⟨o, h.trans r⟩
theorem Rd.dzK {ls : List (L2.Key × V)} {a : Addr} (z : Dz d ks H H') (r : Rd H a (.dK ls)) : Rd H' a (.dK ls) := by
  by_cases e : a = d
  · subst e
    have : ls = ks := by
      rcases z.old with h | ⟨o, h⟩ <;> rcases r with r | ⟨o', r⟩ <;> rw [h] at r <;> cases r <;> rfl
    rw [this]
    exact z.new
  · have h := z.eq a e
    rcases r with r | ⟨o, r⟩
    · exact .inl (h.trans r)
    · exact .inr ⟨o, h.trans r⟩
mutual
theorem Rp.dz (z : Dz d ks H H') : ∀ (x : D) (v : V), Rp K H S x v → Rp K H' S x v
  | .none, _, h => h
  | .bool _, _, h => h
  | .int _, _, h => h
  | .str _, _, h => h
  | .list ds, _, ⟨a, xs, e, l, r⟩ => ⟨a, xs, e, ⟨(z.eq a (Rd.dz z (fun _ h => by cases h) (fun _ _ h => by cases h) (.inl l.1))).trans l.1, l.2⟩, RpA.dz z ds xs r⟩
  | .tuple ds, _, ⟨a, xs, e, l, r⟩ => ⟨a, xs, e, l.imp (fun l => Rd.toDz z (fun _ h => by cases h) (fun _ _ h => by cases h) l) id, RpA.dz z ds xs r⟩
  | .dict kvs, _, ⟨a, ls, e, l, n, r⟩ => ⟨a, ls, e, Rd.dzK z l, n, RpK.dz z kvs ls r⟩
theorem RpA.dz (z : Dz d ks H H') : ∀ (ds : List D) (vs : List V), RpA K H S ds vs → RpA K H' S ds vs
  | [], _, h => h
  | d :: ds, _, ⟨v, r, e, h1, h2⟩ => ⟨v, r, e, Rp.dz z d v h1, RpA.dz z ds r h2⟩
theorem RpK.dz (z : Dz d ks H H') : ∀ (ds : List (D × D)) (vs : List (L2.Key × V)), RpK K H S ds vs → RpK K H' S ds vs
  | [], _, h => h
  | (k, d) :: ds, _, ⟨q, v, r, e, hk, h1, h2⟩ => ⟨q, v, r, e, hk, Rp.dz z d v h1, RpK.dz z ds r h2⟩
end
theorem Rows.dz (z : Dz d ks H H') : ∀ (rows : List (List D)) (as : List Addr), (∀ a ∈ as, a ≠ d) → Rows K H S rows as → Rows K H' S rows as
  | [], _, _, h => h
  | ds :: r, _, n, ⟨a, xs, b, e, ha, h1, h2⟩ => by
    subst e
    exact ⟨a, xs, b, rfl, (z.eq a (n a List.mem_cons_self)).trans ha, RpA.dz z _ _ h1, Rows.dz z r b (fun c hc => n c (List.mem_cons_of_mem _ hc)) h2⟩
theorem Ow.dz (z : Dz d ks H H') {m : Md} {a : Addr} {os : List Addr} (n : ∀ a ∈ os, a ≠ d) (h : Ow K H S m a os) : Ow K H' S m a os := by
  cases m with
  | l ds => obtain ⟨e, xs, ha, r⟩ := h; exact ⟨e, xs, (z.eq a (n a (by rw [e]; simp))).trans ha, RpA.dz z _ _ r⟩
  | k kvs => obtain ⟨e, xs, ha, r⟩ := h; exact ⟨e, xs, (z.eq a (n a (by rw [e]; simp))).trans ha, RpK.dz z _ _ r⟩
  | m rows => obtain ⟨as, e, ha, r⟩ := h; exact ⟨as, e, (z.eq a (n a (by rw [e]; simp))).trans ha, Rows.dz z _ _ (fun b hb => n b (by rw [e]; exact List.mem_cons_of_mem _ hb)) r⟩
theorem VRK.dz (z : Dz d ks H H') {s : Sl} {v : V} {on : List Addr} (n : ∀ a ∈ on, a ≠ d) (h : VRK K H S s v on) : VRK K H' S s v on := by
  cases s with
  | d x => exact ⟨h.1, Rp.dz z _ _ h.2⟩
  | w m => obtain ⟨a, e, o, nn⟩ := h; exact ⟨a, e, o.dz z n, nn⟩
  | no => exact h
  | io m => exact h
  | th r => exact h
  | scr r => exact h
theorem tabs_dz {L : List (Addr × Str)} (z : Dz d ks H H') (t : LamX.Tabs L H) : LamX.Tabs L H' := fun q hq => by
  obtain ⟨ps, h1, h2, h3⟩ := t q hq
  have nd : ∀ b o, H b = some o → (∀ ls, o ≠ .dK ls) → (∀ u v, o ≠ .frz u v) → b ≠ d := fun b o hb h h' e => by
    subst e
    rcases z.old with y | ⟨u, y⟩ <;> rw [hb] at y <;> cases y
    · exact h _ rfl
    · exact h' _ _ rfl
  refine ⟨ps, (z.eq _ (nd _ _ h1 (fun _ e => by cases e) fun _ _ e => by cases e)).trans h1, h2, fun pos cv hc => ?_⟩
  obtain ⟨b, e1, e2⟩ := h3 pos cv hc
  exact ⟨b, e1, (z.eq b (nd b _ e2 (fun _ e => by unfold LamX.CodeO at e; cases e) fun _ _ e => by unfold LamX.CodeO at e; cases e)).trans e2⟩
/-- the context with another heap at the entry, silent -/
def Cc.at0 (c : Cc) (H0 : Hp) : Cc := { c with H0 := H0, W := fun _ _ _ _ => False }
/-- the state goes over -/
theorem EnvR.dz {W : WX} (E : EnvR c H B og σ γ) (z : Dz d ks H H') (n : ¬ Sx B og d) {h0 : Hp} (ent : Kp c.ios h0 H') (gr : ∀ a, h0 a ≠ none → H' a ≠ none) (e0 : ∀ a, c.H0 a = none → h0 a = none) (sc : ∀ a xs, SqL c.K c.H0 a xs → ¬ c.ios a → SqL c.K h0 a xs) :
    EnvR { c with H0 := h0, W := W } H' B og σ γ := by
  have gz : ∀ a, H a ≠ none → H' a ≠ none := fun a h => by
    by_cases e : a = d
    · rw [e]; exact Rd.ne z.new
    · rw [z.eq a e]; exact h
  have no : ∀ i a, a ∈ og i → a ≠ d := fun i a h e => n (by subst e; exact .inr ⟨i, h⟩)
  refine ⟨tabs_dz z E.tb, E.len, E.out, E.nd, E.dj, E.nb, fun a h => gz a (E.bl a h), ent, gr, fun i s e => ?_⟩
  have hs := E.sl i s e
  cases s with
  | no => exact hs
  | d x => obtain ⟨h1, v, h2, h3⟩ := hs; exact ⟨h1, v, h2, Rp.dz z _ _ h3⟩
  | w m => obtain ⟨a, h1, h2, h3⟩ := hs; exact ⟨a, h1, h2.dz z (no i), fun b hb => e0 b (h3 b hb)⟩
  | io m => obtain ⟨h1, h2, h3⟩ := hs; exact ⟨h1, h2.dz z (no i), h3⟩
  | th r => exact hs
  | scr ns =>
    obtain ⟨h1, a, h2, h3⟩ := hs
    refine ⟨h1, a, h2, ?_⟩
    rcases h3 with ⟨h3, h4⟩ | h3
    · exact SqX.of (sc a _ (.inl h3) h4) h4
    · exact .inr h3
/-- slot i holds a locked dict -/
def Lkd (i : Nat) (σ : St) (H : Hp) : Prop := ∃ d o ks, σ[i]? = some (some (V.ref d)) ∧ H d = some (.frz o (.dK ks))

/-- the dict in slot i -/
def dictAt (i : Nat) (γ : Env) : Option (List (D × D)) := match γ[i]? with
  | some (.d (.dict kvs)) => some kvs
  | _ => none
/-- what is done while the dict of slot i is walked (an owned one is read alone from now on) -/
def lockF {α : Type} (i : Nat) (f : Fn α) : Fn α := fun γ => (nameS i γ).bind fun _ γ1 => match dictAt i γ1 with
  | some _ => noX f γ1
  | none => .bad
/-- entry: the state with the lock -/
theorem lock_in {i : Nat} {kvs : List (D × D)} (E : EnvR c H B og σ γ) (h : dictAt i γ = some kvs) : ∃ d ks, σ[i]? = some (some (V.ref d)) ∧ ¬ Sx B og d ∧
    ((∃ o, H d = some (.frz o (.dK ks))) ∨ (H d = some (.dK ks) ∧ ∀ o, ∃ h0, EnvR (c.at0 h0) (upd H d (.frz o (.dK ks))) B og σ γ ∧ (∀ b, h0 b = none → c.H0 b = none) ∧
      ∀ H' og' B' σ' γ', EnvR (c.at0 h0) H' B' og' σ' γ' → H' d = some (.frz o (.dK ks)) → ¬ Sx B' og' d → EnvR c (upd H' d (.dK ks)) B' og' σ' γ' ∧ Dz d ks H' (upd H' d (.dK ks)) ∧ (Later og og' (upd H d (.frz o (.dK ks))) H' → Later og og' H (upd H' d (.dK ks))))) := by
  unfold dictAt at h
  split at h
  · rename_i kvs' e
    obtain ⟨_, v, e2, a, ls, e3, r, n, rk⟩ := E.sl i _ e
    have hv := E.val e
    rw [e2, e3] at hv
    refine ⟨a, ls, hv, n, ?_⟩
    rcases r with r | ⟨o, r⟩
    · refine .inr ⟨r, fun o => ?_⟩
      have z : Dz a ls H (upd H a (.frz o (.dK ls))) := ⟨fun b hb => upd_ne hb, .inl r, .inr ⟨o, upd_same⟩⟩
      -- what stood there at the entry
      have at0 : ∀ u, c.H0 a = some u → ¬ c.ios a → NT u → u = .dK ls := fun u hu hn t => by
        have q := E.ent a u hu hn t
        rw [r] at q
        cases q
        rfl
      let h0 : Hp := fun b => if b = a then (c.H0 a).map (fun _ => HO.frz o (.dK ls)) else c.H0 b
      have h0a : h0 a = (c.H0 a).map fun _ => HO.frz o (.dK ls) := by show (if a = a then _ else _) = _; rw [if_pos rfl]
      have h0n : ∀ b, b ≠ a → h0 b = c.H0 b := fun b hb => by show (if b = a then _ else _) = _; rw [if_neg hb]
      have nn : ∀ b, c.H0 b = none ↔ h0 b = none := fun b => by
        by_cases eb : b = a
        · subst eb; rw [h0a]; cases c.H0 b <;> simp
        · rw [h0n b eb]
      have sq : ∀ b xs, SqL c.K c.H0 b xs → ¬ c.ios b → SqL c.K h0 b xs := fun b xs hs hn => by
        by_cases eb : b = a
        · subst eb
          rcases hs with (q | ⟨o', q⟩) | q
          · have := at0 _ q hn nt_lst; cases this
          · have := at0 _ q hn nt_frz; cases this
          · exact .inr q
        · rcases hs with (q | ⟨o', q⟩) | q
          · exact .inl (.inl ((h0n b eb).trans q))
          · exact .inl (.inr ⟨o', (h0n b eb).trans q⟩)
          · exact .inr q
      refine ⟨h0, ?_, fun b => (nn b).mpr, fun H' og' B' σ' γ' E' hd hn' => ?_⟩
      · refine E.dz (W := fun _ _ _ _ => False) z n (fun b u e hn t => ?_) (fun b hb => ?_) (fun b hb => (nn b).mp hb) sq
        · by_cases eb : b = a
          · subst eb
            rw [h0a] at e
            cases q : c.H0 b with
            | none => rw [q] at e; cases e
            | some u' => rw [q] at e; cases e; exact upd_same
          · rw [upd_ne eb]
            rw [h0n b eb] at e
            exact E.ent b u e hn t
        · by_cases eb : b = a
          · subst eb; rw [upd_same]; exact nofun
          · rw [upd_ne eb]
            rw [h0n b eb] at hb
            exact E.grow b hb
      · have z' : Dz a ls H' (upd H' a (.dK ls)) := ⟨fun b hb => upd_ne hb, .inr ⟨o, hd⟩, .inl upd_same⟩
        refine ⟨?_, z', fun l => ⟨fun b u e hn t => ?_, fun b hb => ?_, fun b hb => ?_⟩⟩
        · refine E'.dz (W := c.W) (h0 := c.H0) z' hn' (fun b u e hn t => ?_) (fun b hb => ?_) (fun b hb => (nn b).mpr hb) (fun b xs hs hn => ?_)
          · by_cases eb : b = a
            · subst eb
              rw [at0 u e hn t, upd_same]
            · rw [upd_ne eb]
              exact E'.ent b u ((h0n b eb).trans e) hn t
          · by_cases eb : b = a
            · subst eb; rw [upd_same]; exact nofun
            · rw [upd_ne eb]
              exact E'.grow b (by show h0 b ≠ none; rw [h0n b eb]; exact hb)
          · have hs : SqL c.K h0 b xs := hs
            by_cases eb : b = a
            · subst eb
              rcases hs with (q | ⟨o', q⟩) | q
              · rw [h0a] at q; cases q0 : c.H0 b with
                | none => rw [q0] at q; cases q
                | some u => rw [q0] at q; cases q
              · rw [h0a] at q; cases q0 : c.H0 b with
                | none => rw [q0] at q; cases q
                | some u => rw [q0] at q; cases q
              · exact .inr q
            · rcases hs with (q | ⟨o', q⟩) | q
              · exact .inl (.inl ((h0n b eb).symm.trans q))
              · exact .inl (.inr ⟨o', (h0n b eb).symm.trans q⟩)
              · exact .inr q
        · by_cases eb : b = a
          · subst eb
            rw [r] at e
            cases e
            exact upd_same
          · rw [upd_ne eb]
            exact l.kp b u (by rw [upd_ne eb]; exact e) hn t
        · by_cases eb : b = a
          · subst eb; rw [upd_same]; exact nofun
          · rw [upd_ne eb]
            exact l.gr b (by rw [upd_ne eb]; exact hb)
        · rcases l.sub b hb with q | q
          · exact .inl q
          · by_cases eb : b = a
            · subst eb; rw [upd_same] at q; cases q
            · rw [upd_ne eb] at q; exact .inr q
    · exact .inl ⟨o, r⟩
  · cases h

theorem Good.of (G : Good X c) {c' : Cc} (hk : c'.K = c.K) (hm : c'.mg = c.mg) : Good X c' := ⟨⟨G.k.trans hk.symm, G.mg.trans hm.symm, G.un, G.gd, G.nd⟩, G.calm⟩
theorem takes_no {W : WX} (h : ∀ a b c d, ¬ W a b c d) : Takes X W := fun u s' ⟨_, _, _, _, _, _, _, _, _, _, _, _, _, _, _, _, w⟩ => (h _ _ _ _ w).elim
/-- the name is read, then the rest -/
theorem lock_start {α β : Type} {rel : Rel α β} {i : Nat} {f : Fn α} {Q : β → Hp → Prop} (E : EnvR c H B og σ γ) (h : tGat c rel B og (lockF i f) σ H γ Q) :
    ∃ og1 γ1 kvs, EnvR c H B og1 σ γ1 ∧ dictAt i γ1 = some kvs ∧ Later og og1 H H ∧ tGat c rel B og1 (noX f) σ H γ1 Q := by
  have fin : ∀ og1 γ1, EnvR c H B og1 σ γ1 → Later og og1 H H → tGat c rel B og (fun γ => match dictAt i γ with
      | some _ => noX f γ
      | none => .bad) σ H γ1 Q → ∃ og1 γ1 kvs, EnvR c H B og1 σ γ1 ∧ dictAt i γ1 = some kvs ∧ Later og og1 H H ∧ tGat c rel B og1 (noX f) σ H γ1 Q := fun og1 γ1 E1 l h => by
    have h := h.shift l
    cases e : dictAt i γ1 with
    | none => unfold tGat at h; dsimp only at h; rw [e] at h; exact h.elim
    | some kvs =>
      refine ⟨og1, γ1, kvs, E1, e, l, ?_⟩
      unfold tGat at h ⊢
      dsimp only at h
      rw [e] at h
      exact h
  unfold tGat lockF nameS at h
  cases e : γ[i]? with
  | none => rw [e] at h; exact h.elim
  | some s =>
    rw [e] at h
    cases s with
    | d x => exact fin og γ E .refl h
    | w m =>
      obtain ⟨E1, _⟩ := E.freeze e
      exact fin _ _ E1 ⟨.refl, fun _ h => h, fun a z => .inl (Og.at_nil_sub z)⟩ h
    | _ => exact h.elim
theorem pe_lockE {i : Nat} {f : Fn Sl} (G : Good X c) (he : ∀ c', Good X c' → Takes X c'.W → PE X e (fun σ H Q => Lkd i σ H ∧ tE c' f σ H Q)) : PE X e (tE c (lockF i f)) := by
  have h1 : PE X e (fun σ H Q => ∃ c', Good X c' ∧ Takes X c'.W ∧ Lkd i σ H ∧ tE c' f σ H Q) := ⟨fun pins s σ H Q I ⟨c', g, tk, q⟩ => (he c' g tk).run pins s σ H Q I q⟩
  have h2 := pe_lock h1
  refine ⟨fun pins s σ H Q I q => ?_⟩
  obtain ⟨B, og, γ, E, q⟩ := q
  obtain ⟨og1, γ1, kvs, E1, e1, l1, k⟩ := lock_start E q
  obtain ⟨d, ks, hv, nd, hh⟩ := lock_in E1 e1
  rcases hh with ⟨o, hh⟩ | ⟨hh, go⟩
  · refine h1.run pins s σ H Q I ⟨c.quiet, G.of rfl rfl, takes_no fun _ _ _ _ z => z, ⟨d, o, ks, hv, hh⟩, B, og1, γ1, E1.quiet, ?_⟩
    unfold tGat noX at k
    unfold tGat
    cases ef : f γ1 with
    | bad => rw [ef] at k; exact k
    | ex x γ2 => rw [ef] at k; exact k.elim
    | ok r γ2 => rw [ef] at k; exact fun v H' og' on l E' q n => k v H' og' on l E'.loud q n
  · refine h2.run pins s σ H Q I ⟨d, .dK ks, hh, trivial, fun od => ?_⟩
    obtain ⟨h0, E0, nn, back⟩ := go od
    refine ⟨c.at0 h0, G.of rfl rfl, takes_no fun _ _ _ _ z => z, ⟨d, od, ks, hv, upd_same⟩, B, og1, γ1, E0, ?_⟩
    unfold tGat noX at k
    unfold tGat
    cases ef : f γ1 with
    | bad => rw [ef] at k; exact k
    | ex x γ2 => rw [ef] at k; exact k.elim
    | ok r γ2 =>
      rw [ef] at k
      intro v H' og' on l E' q hn
      have hd : H' d = some (.frz od (.dK ks)) := l.kp d _ upd_same (fun ⟨j, z⟩ => nd (.inr ⟨j, z⟩)) nt_frz
      have non : ∀ a ∈ on, a ≠ d := fun a ha z => by
        subst z
        have := hn a ha
        rw [upd_same] at this
        cases this
      have nd' : ¬ Sx (Bx B on) og' d := fun z => by
        rcases z with z | z
        · rcases Bx_iff.mp z with z | z
          · exact nd (.inl z)
          · exact non d z rfl
        · rcases l.sub d z with z | z
          · exact nd (.inr z)
          · rw [upd_same] at z; cases z
      obtain ⟨E2, z, l2⟩ := back H' og' (Bx B on) σ γ2 E' hd nd'
      exact ⟨hd, k v _ og' on (l2 l) E2 ⟨VRK.dz z non q.1, q.2⟩ fun a ha => by
        have := hn a ha
        rw [upd_ne (non a ha)] at this
        exact this⟩
theorem ps_lockS {i : Nat} {f : Fn Fl} {st : Stmt} (G : Good X c) (he : ∀ c', Good X c' → Takes X c'.W → PS X st (fun D σ H => Lkd i σ H ∧ tS c' f D σ H)) : PS X st (tS c (lockF i f)) := by
  have h1 : PS X st (fun D σ H => ∃ c', Good X c' ∧ Takes X c'.W ∧ Lkd i σ H ∧ tS c' f D σ H) := ⟨fun pins s σ H D I ⟨c', g, tk, q⟩ => (he c' g tk).run pins s σ H D I q⟩
  have h2 := ps_lock h1
  refine ⟨fun pins s σ H D I q => ?_⟩
  obtain ⟨B, og, γ, E, q⟩ := q
  have start : ∃ og1 γ1 kvs, EnvR c H B og1 σ γ1 ∧ dictAt i γ1 = some kvs ∧ tSat c B og1 (noX f) D H γ1 := by
    have fin : ∀ og1 γ1, EnvR c H B og1 σ γ1 → Later og og1 H H → tSat c B og (fun γ => match dictAt i γ with
        | some _ => noX f γ
        | none => .bad) D H γ1 → ∃ og1 γ1 kvs, EnvR c H B og1 σ γ1 ∧ dictAt i γ1 = some kvs ∧ tSat c B og1 (noX f) D H γ1 := fun og1 γ1 E1 l h => by
      have h := h.shift l
      cases e : dictAt i γ1 with
      | none => unfold tSat at h; dsimp only at h; rw [e] at h; exact h.elim
      | some kvs =>
        refine ⟨og1, γ1, kvs, E1, e, ?_⟩
        unfold tSat at h ⊢
        dsimp only at h
        rw [e] at h
        exact h
    unfold tSat lockF nameS at q
    cases e : γ[i]? with
    | none => rw [e] at q; exact q.elim
    | some s =>
      rw [e] at q
      cases s with
      | d x => exact fin og γ E .refl q
      | w m =>
        obtain ⟨E1, _⟩ := E.freeze e
        exact fin _ _ E1 ⟨.refl, fun _ h => h, fun a z => .inl (Og.at_nil_sub z)⟩ q
      | _ => exact q.elim
  obtain ⟨og1, γ1, kvs, E1, e1, k⟩ := start
  obtain ⟨d, ks, hv, nd, hh⟩ := lock_in E1 e1
  rcases hh with ⟨o, hh⟩ | ⟨hh, go⟩
  · refine h1.run pins s σ H D I ⟨c.quiet, G.of rfl rfl, takes_no fun _ _ _ _ z => z, ⟨d, o, ks, hv, hh⟩, B, og1, γ1, E1.quiet, ?_⟩
    unfold tSat noX at k
    unfold tSat
    cases ef : f γ1 with
    | bad => rw [ef] at k; exact k
    | ex x γ2 => rw [ef] at k; exact k.elim
    | ok r γ2 =>
      rw [ef] at k
      cases r with
      | nx => exact fun σ' H' og' l E' => k σ' H' og' l E'.loud
      | bk => exact fun σ' H' og' l E' => k σ' H' og' l E'.loud
      | ct => exact fun σ' H' og' l E' => k σ' H' og' l E'.loud
      | rt r => exact fun v σ' H' og' on l E' q n => k v σ' H' og' on l E'.loud q n
  · refine h2.run pins s σ H D I ⟨d, .dK ks, hh, trivial, fun od => ?_⟩
    obtain ⟨h0, E0, nn, back⟩ := go od
    refine ⟨c.at0 h0, G.of rfl rfl, takes_no fun _ _ _ _ z => z, ⟨d, od, ks, hv, upd_same⟩, B, og1, γ1, E0, ?_⟩
    have hdl : ∀ {og' : Og} {H' : Hp}, Later og1 og' (upd H d (.frz od (.dK ks))) H' → H' d = some (.frz od (.dK ks)) := fun l => l.kp d _ upd_same (fun ⟨j, z⟩ => nd (.inr ⟨j, z⟩)) nt_frz
    have ndl : ∀ {og' : Og} {H' : Hp} {on : List Addr}, Later og1 og' (upd H d (.frz od (.dK ks))) H' → (∀ a ∈ on, a ≠ d) → ¬ Sx (Bx B on) og' d := fun l non z => by
      rcases z with z | z
      · rcases Bx_iff.mp z with z | z
        · exact nd (.inl z)
        · exact non d z rfl
      · rcases l.sub d z with z | z
        · exact nd (.inr z)
        · rw [upd_same] at z; cases z
    unfold tSat noX at k
    unfold tSat
    cases ef : f γ1 with
    | bad => rw [ef] at k; exact k
    | ex x γ2 => rw [ef] at k; exact k.elim
    | ok r γ2 =>
      rw [ef] at k
      have stay : ∀ (P : L2.St → Hp → Prop), (∀ σ' H' og', Later og1 og' H H' → EnvR c H' B og' σ' γ2 → P σ' H') → ∀ σ' H' og', Later og1 og' (upd H d (.frz od (.dK ks))) H' → EnvR (c.at0 h0) H' B og' σ' γ2 → H' d = some (.frz od (.dK ks)) ∧ P σ' (upd H' d (.dK ks)) := fun P k σ' H' og' l E' => by
        obtain ⟨E2, z, l2⟩ := back H' og' B σ' γ2 E' (hdl l) (ndl (on := []) l nofun)
        exact ⟨hdl l, k σ' _ og' (l2 l) E2⟩
      cases r with
      | nx => exact stay _ k
      | bk => exact stay _ k
      | ct => exact stay _ k
      | rt r =>
        intro v σ' H' og' on l E' q hn
        have non : ∀ a ∈ on, a ≠ d := fun a ha z => by
          subst z
          have hd := hdl l
          cases r with
          | w m =>
            obtain ⟨b, _, o, _⟩ := q
            rcases o.mu a ha with ⟨xs, z⟩ | ⟨xs, z⟩ <;> (rw [hd] at z; cases z)
          | d x => rw [q.1] at ha; cases ha
          | _ => exact q
        obtain ⟨E2, z, l2⟩ := back H' og' (Bx B on) σ' γ2 E' (hdl l) (ndl l non)
        exact ⟨hdl l, k v σ' _ og' on (l2 l) E2 (VRK.dz z non q) fun a ha => ⟨(hn a ha).1, nn a (hn a ha).2⟩⟩

/-! ### its keys, values, pairs -/
def iSrcL (i : Nat) (c : Cc) (src : Fn (List D)) : TI := fun σ H R => Lkd i σ H ∧ iSrc c src σ H R
def dictSrc (i : Nat) (sel : D × D → D) : Fn (List D) := fun γ => match dictAt i γ with
  | some kvs => .ok (kvs.map sel) γ
  | none => .bad
theorem RpK.get : ∀ {kvs : List (D × D)} {ks : List (L2.Key × V)} {i : Nat} {q : D × D}, RpK K H S kvs ks → kvs[i]? = some q → ∃ k v, ks[i]? = some (k, v) ∧ q.1 = keyD k ∧ Rp K H S q.2 v
  | [], ks, i, q, _, h => by simp at h
  | (k, d) :: r, _, 0, q, ⟨q', v, rs, e, hk, h1, h2⟩, h => by subst e; cases h; exact ⟨q', v, rfl, hk, h1⟩
  | (k, d) :: r, _, i + 1, q, ⟨q', v, rs, e, hk, h1, h2⟩, h => by subst e; exact RpK.get (kvs := r) (ks := rs) (i := i) h2 h
theorem Rp_key {k : L2.Key} : Rp K H S (keyD k) (kV k) := by cases k <;> exact rfl
theorem RpK.frame' {F : Fr0 H H' S S' T} {kvs : List (D × D)} {ks : List (L2.Key × V)} (h : RpK K H S kvs ks) : RpK K H' S' kvs ks := RpK.frame F _ _ h
def DkP (K : PySem.W.Frag) (d : Addr) (o : Obj) (kvs : List (D × D)) (ks : List (L2.Key × V)) : AP → Hp → Prop := fun S H => H d = some (.frz o (.dK ks)) ∧ ¬ S d ∧ RpK K H S kvs ks
theorem DkP.keep {o : Obj} {kvs : List (D × D)} (p : DkP K d o kvs ks S H) (F : Fr0 H H' S S' T) : DkP K d o kvs ks S' H' := by
  obtain ⟨h1, h2, h3⟩ := p
  exact ⟨F.kp d _ h1 (fun t => h2 (F.mu d t).1) nt_frz, fun z => (F.sub d z).elim h2 fun z => (by rw [h1] at z; cases z), RpK.frame F _ _ h3⟩
theorem dkp_of {i : Nat} {kvs : List (D × D)} {o : Obj} (E : EnvR c H B og σ γ) (e : dictAt i γ = some kvs) (hv : σ[i]? = some (some (V.ref d))) (hd : H d = some (.frz o (.dK ks))) : DkP c.K d o kvs ks (Sx B og) H := by
  unfold dictAt at e
  split at e
  · rename_i kvs' e1
    cases e
    obtain ⟨_, v, e2, a, ls, e3, r, n, rk⟩ := E.sl i _ e1
    have hv2 := E.val e1
    rw [e2, e3, hv] at hv2
    cases hv2
    rcases r with r | ⟨o', r⟩
    · rw [hd] at r; cases r
    · rw [hd] at r; cases r; exact ⟨hd, n, rk⟩
  · cases e
variable {tg : Expr} {i : Nat} {x : Str} {cpos : Pos}
theorem dict_src {sel : D × D → D} {R : It → Hp → Prop} {J : Addr → Obj → List (L2.Key × V) → It} (q : iSrcL i c (dictSrc i sel) σ H R)
    (ok : ∀ d o ks kvs, ItOk c (J d o ks) (kvs.map sel) (DkP c.K d o kvs ks)) : ∃ d o ks, σ[i]? = some (some (V.ref d)) ∧ H d = some (.frz o (.dK ks)) ∧ R (J d o ks) H := by
  obtain ⟨⟨d, o, ks, hv, hd⟩, B, og, γ, E, k⟩ := q
  unfold dictSrc at k
  cases e : dictAt i γ with
  | none => rw [e] at k; exact k.elim
  | some kvs =>
    rw [e] at k
    exact ⟨d, o, ks, hv, hd, k _ H og _ .refl E (ok d o ks kvs) (dkp_of E e hv hd)⟩
theorem itk_ok (d : Addr) (o : Obj) (ks : List (L2.Key × V)) (kvs : List (D × D)) : ItOk c (Itk d o ks) (kvs.map (·.1)) (DkP c.K d o kvs ks) where
  step := fun i x H S p h => by
    rw [List.getElem?_map] at h
    cases e : kvs[i]? with
    | none => rw [e] at h; cases h
    | some q =>
      rw [e] at h
      cases h
      obtain ⟨k, v, e1, e2, r⟩ := RpK.get p.2.2 e
      refine ⟨⟨p.1, (List.getElem?_eq_some_iff.mp e1).1⟩, fun y H' hy => ?_⟩
      obtain ⟨rfl, k', v', e3, rfl⟩ := hy
      rw [e1] at e3
      cases e3
      exact ⟨fun _ _ z => z, by show Rp c.K H' S q.1 _; rw [e2]; exact Rp_key⟩
  stop := fun H S p => ⟨p.1, by rw [List.length_map, ← RpK.len p.2.2]; exact Nat.le_refl _⟩
  keep := fun H H' S S' T p F => p.keep F
theorem itd_ok (d : Addr) (o : Obj) (ks : List (L2.Key × V)) (kvs : List (D × D)) : ItOk c (Itd d o ks) (kvs.map (·.2)) (DkP c.K d o kvs ks) where
  step := fun i x H S p h => by
    rw [List.getElem?_map] at h
    cases e : kvs[i]? with
    | none => rw [e] at h; cases h
    | some q =>
      rw [e] at h
      cases h
      obtain ⟨k, v, e1, e2, r⟩ := RpK.get p.2.2 e
      refine ⟨⟨p.1, (List.getElem?_eq_some_iff.mp e1).1⟩, fun y H' hy => ?_⟩
      obtain ⟨rfl, k', e3⟩ := hy
      rw [e1] at e3
      cases e3
      exact ⟨fun _ _ z => z, r⟩
  stop := fun H S p => ⟨p.1, by rw [List.length_map, ← RpK.len p.2.2]; exact Nat.le_refl _⟩
  keep := fun H H' S S' T p F => p.keep F
def pairD (q : D × D) : D := .tuple [q.1, q.2]
theorem iti_ok (d : Addr) (o : Obj) (ks : List (L2.Key × V)) (kvs : List (D × D)) : ItOk c (Iti d o ks) (kvs.map pairD) (DkP c.K d o kvs ks) where
  step := fun i x H S p h => by
    rw [List.getElem?_map] at h
    cases e : kvs[i]? with
    | none => rw [e] at h; cases h
    | some q =>
      rw [e] at h
      cases h
      obtain ⟨k, v, e1, e2, r⟩ := RpK.get p.2.2 e
      refine ⟨⟨p.1, (List.getElem?_eq_some_iff.mp e1).1⟩, fun y H' hy => ?_⟩
      obtain ⟨t, k', v', e3, rfl, ht, rfl⟩ := hy
      rw [e1] at e3
      cases e3
      refine ⟨same_upd ht, t, [kV k, v], rfl, .inl (.inl upd_same), kV k, [v], rfl, ?_, v, [], rfl, Rp.frame (Fr0.more (same_upd ht)) _ _ r, rfl⟩
      rw [e2]
      exact Rp_key
  stop := fun H S p => ⟨p.1, by rw [List.length_map, ← RpK.len p.2.2]; exact Nat.le_refl _⟩
  keep := fun H H' S S' T p F => p.keep F
theorem pi_dkeys (hN : X.N[i]? = some x) (hv : Vis X.env.scope x) (hd : (x == ("__debug__" : Str)) = false := by decide) (hcd : (x == ("__classdict__" : Str)) = false := by decide) : PI X tg (.Name x p) (iSrcL i c (dictSrc i (·.1))) :=
  PI_imp (pi_keys (pe_var hN hv hd hcd)) fun σ H R q => by
    obtain ⟨d, o, ks, e1, e2, r⟩ := dict_src q itk_ok
    exact ⟨_, e1, d, o, rfl, .inl ⟨ks, e2, r⟩⟩
theorem pi_dvals (hN : X.N[i]? = some x) (hv : Vis X.env.scope x) (hd : (x == ("__debug__" : Str)) = false := by decide) (hcd : (x == ("__classdict__" : Str)) = false := by decide)
    (hbase : attributeBase (.Name x p) "values" X.env (eval (.Name x p) X.env) = eval (.Name x p) X.env := by rfl) (hline : (apos.endLine == cpos.line) = true := by rfl) : PI X tg (.Call (.Attribute (.Name x p) "values" apos) [] [] cpos) (iSrcL i c (dictSrc i (·.2))) :=
  PI_imp (pi_values (pe_var hN hv hd hcd) hbase hline) fun σ H R q => by
    obtain ⟨d, o, ks, e1, e2, r⟩ := dict_src q itd_ok
    exact ⟨_, e1, d, o, ks, rfl, e2, r⟩
theorem pi_ditems {elts : List Expr} {kk : Nat} {tpos : Pos} (hN : X.N[i]? = some x) (hv : Vis X.env.scope x) (hd : (x == ("__debug__" : Str)) = false := by decide) (hcd : (x == ("__classdict__" : Str)) = false := by decide)
    (hbase : attributeBase (.Name x p) "items" X.env (eval (.Name x p) X.env) = eval (.Name x p) X.env := by rfl) (hline : (apos.endLine == cpos.line) = true := by rfl) : PI X (.Tuple elts kk tpos) (.Call (.Attribute (.Name x p) "items" apos) [] [] cpos) (iSrcL i c (dictSrc i pairD)) :=
  PI_imp (pi_items (pe_var hN hv hd hcd) hbase hline) fun σ H R q => by
    obtain ⟨d, o, ks, e1, e2, r⟩ := dict_src q iti_ok
    exact ⟨_, e1, d, o, ks, rfl, e2, r⟩
end
end Eg
end
section
/-! E18: dicts: walked, displayed, written, made in one go -/
namespace Eg
open PySem PySem.Spec L2
open PyProof.Rows hiding St
section
variable {c : Cc} {H H1 H2 H' : Hp} {B S S' T : AP} {og og1 og2 og' : Og} {σ σ1 : St} {γ γ1 : Env} {X : Cx} {e a b : Expr} {pos p apos : Pos} {i : Nat} {x : Str}
theorem Good.blk (G : Good X c) {s : Shared} {H : Hp} {sc : Scope} {env : PySem.Env} {fp : List Addr} : Good (X.blk s H sc env fp) c.quiet := ⟨⟨G.k, G.mg, G.un, G.gd, G.nd⟩, G.calm⟩
theorem takes_quiet : Takes X c.quiet.W := takes_no fun _ _ _ _ z => z
theorem ps_forL {tg l : Expr} {body : List Stmt} {src : Fn (List D)} {t : Tg} {ts : List Nat} {f : Fn Fl} (hp : PassesOwn (model X.prog X.w) X.A X.env X.xe) (G : Good X c) (hi : PI X tg l (iSrcL i c src)) (hg : PG X tg (tgS c ts t)) (hb : PSs X body (tS c f))
    (hs : ∀ x, foldedSetIterable l X.env x = pure x := by intro _; rfl) : PS X (.For tg l body [] pos) (fun D σ H => Lkd i σ H ∧ tS c (forS src t f) D σ H) := by
  exact PS_imp (ps_for hp G.calm hi hg hb hs) fun D σ H q => ⟨q.1, for_sem q.2⟩
theorem pe_lcL {elt tg iter : Expr} {ifs : List Expr} {scope : Scope} {own : List (Str × Nat)} {src : Fn (List D)} {t : Tg} {ts : List Nat} {tt : Fn Bool} {te : Fn D} (G : Good X c) (hi : PI X tg iter (iSrcL i c src)) (ok : BlkOk X.N X.env.scope scope own)
    (hts : ∀ j ∈ ts, j ∈ own.map (·.2))
    (hg : ∀ (s : Shared) (H : Hp) (C : Addr) (cl : List (Str × Addr)) (fp : List Addr), PG (X.blk s H scope (compEnvC scope cl C X.env) fp) tg (tgS c.quiet ts t)) (ht : ∀ (s : Shared) (H : Hp) (C : Addr) (cl : List (Str × Addr)) (fp : List Addr), PTs (X.blk s H scope (compEnvC scope cl C X.env) fp) ifs (tT c.quiet tt))
    (he : ∀ (s : Shared) (H : Hp) (C : Addr) (cl : List (Str × Addr)) (fp : List Addr), PE (X.blk s H scope (compEnvC scope cl C X.env) fp) elt (tD c.quiet te)) (hs : ∀ x, foldedSetIterable iter X.env x = pure x := by intro _; rfl) :
    PE X (.ListComp elt [⟨tg, iter, ifs, 0⟩] scope pos) (fun σ H Q => Lkd i σ H ∧ tE c (lcS (own.map (·.2)) src t tt te) σ H Q) := PE_imp (pe_lc G.calm G.nd hi ok hg ht he hs) fun σ H Q h => ⟨h.1, lc_sem hts h.2⟩

/-! ### owned dicts -/
def getK : Sl → Option (List (D × D))
  | .w (.k kvs) => some kvs
  | .io (.k kvs) => some kvs
  | _ => none
def slotK (γ : Env) (i : Nat) : Option (List (D × D)) := match γ[i]? with
  | some s => getK s
  | none => none
def putK' (s : Sl) (kvs : List (D × D)) : Sl := match s with
  | .w _ => .w (.k kvs)
  | .io _ => .io (.k kvs)
  | s => s
def setK (γ : Env) (i : Nat) (kvs : List (D × D)) : Env := match γ[i]? with
  | some s => γ.set i (putK' s kvs)
  | none => γ
theorem EnvR.ownK (E : EnvR c H B og σ γ) {ds : List (D × D)} (h : slotK γ i = some ds) : ∃ a xs, σ[i]? = some (some (V.ref a)) ∧ H a = some (.dK xs) ∧ RpK c.K H (Sx B og) ds xs ∧ og i = [a] := by
  unfold slotK at h
  cases e : γ[i]? with
  | none => rw [e] at h; cases h
  | some s =>
    rw [e] at h
    have hs := E.sl i s e
    have hv := E.val e
    cases s with
    | w m => cases m with
      | k ds' => cases h; obtain ⟨a, e2, ⟨o1, xs, o2, o3⟩, _⟩ := hs; rw [e2] at hv; exact ⟨a, xs, hv, o2, o3, o1⟩
      | l _ => cases h
      | m _ => cases h
    | io m => cases m with
      | k ds' => cases h; obtain ⟨e2, ⟨o1, xs, o2, o3⟩, _⟩ := hs; rw [e2] at hv; exact ⟨_, xs, hv, o2, o3, o1⟩
      | l _ => cases h
      | m _ => cases h
    | _ => cases h
theorem slotK_lt {ds : List (D × D)} (h : slotK γ i = some ds) : i < γ.length := by
  unfold slotK at h
  by_cases hi : i < γ.length
  · exact hi
  · rw [List.getElem?_eq_none (by omega)] at h; cases h
theorem EnvR.setK {a : Addr} (E : EnvR c H B og σ γ) {ds ds' : List (D × D)} {xs' : List (L2.Key × V)} (h : slotK γ i = some ds) (hv : σ[i]? = some (some (V.ref a))) (ho : og i = [a]) (r : RpK c.K H (Sx B og) ds' xs') :
    EnvR c (upd H a (.dK xs')) B og σ (Eg.setK γ i ds') ∧ Later og og H (upd H a (.dK xs')) := by
  have hi := slotK_lt h
  have e : γ[i]? = some γ[i] := List.getElem?_eq_getElem hi
  have hs := E.sl i _ e
  unfold Eg.setK
  rw [e]
  refine E.write hv hi (by rw [ho]; simp) fun F => ?_
  have vv : σ[i]?.getD none = some (V.ref a) := by rw [hv]; rfl
  rw [vv] at hs
  unfold slotK at h
  rw [e] at h
  have own : Ow c.K (upd H a (.dK xs')) (Sx B og) (.k ds') a (og i) := ⟨ho, xs', upd_same, RpK.frame F _ _ r⟩
  generalize γ[i] = s at h hs
  have h : getK s = some ds := h
  cases s with
  | w m => obtain ⟨a', e2, _, z⟩ := hs; cases e2; exact ⟨a, rfl, own, z⟩
  | io m => obtain ⟨e2, _, z⟩ := hs; have e3 : a = c.adr i := V.ref.inj (Option.some.inj e2); exact ⟨e2, by rw [e3] at own ⊢; exact own, z⟩
  | _ => cases h
/-- a dict with one pair more (or another value) -/
def putD (q : L2.Key) (d : D) (kvs : List (D × D)) : List (D × D) := if (kvs.any fun p => isKey q p.1) = true then kvs.map fun p => if isKey q p.1 then (p.1, d) else p else kvs ++ [(keyD q, d)]
theorem isKey_iff {q q' : L2.Key} : isKey q (keyD q') = decide (q' = q) := by
  unfold isKey
  rw [toKey_key]
theorem RpK.anyK {K : PySem.W.Frag} {q : L2.Key} : ∀ {kvs : List (D × D)} {ks : List (L2.Key × V)}, RpK K H S kvs ks → (ks.any fun kv => decide (kv.1 = q)) = kvs.any fun p => isKey q p.1
  | [], _, h => by cases h; rfl
  | (k, d0) :: r, _, ⟨q', w, rs, e, hk, h1, h2⟩ => by
    subst e
    subst hk
    rw [List.any_cons, List.any_cons, RpK.anyK h2, isKey_iff]
theorem RpK.mapK {K : PySem.W.Frag} {q : L2.Key} {d : D} {v : V} (rv : Rp K H S d v) : ∀ {kvs : List (D × D)} {ks : List (L2.Key × V)}, RpK K H S kvs ks → RpK K H S (kvs.map fun p => if isKey q p.1 then (p.1, d) else p) (ks.map fun kv => if kv.1 = q then (kv.1, v) else kv)
  | [], _, h => by cases h; exact rfl
  | (k, d0) :: r, _, ⟨q', w, rs, e, hk, h1, h2⟩ => by
    subst e
    subst hk
    rw [List.map_cons, List.map_cons, isKey_iff]
    by_cases hq : q' = q
    · rw [if_pos (decide_eq_true hq), if_pos hq]
      exact ⟨q', v, _, rfl, rfl, rv, RpK.mapK rv h2⟩
    · rw [if_neg (by rw [decide_eq_false hq]; exact Bool.false_ne_true), if_neg hq]
      exact ⟨q', w, _, rfl, rfl, h1, RpK.mapK rv h2⟩
theorem RpK.append {K : PySem.W.Frag} : ∀ {kvs ls : List (D × D)} {ks us : List (L2.Key × V)}, RpK K H S kvs ks → RpK K H S ls us → RpK K H S (kvs ++ ls) (ks ++ us)
  | [], _, _, _, h, h' => by cases h; exact h'
  | (k, d0) :: r, _, _, _, ⟨q', w, rs, e, hk, h1, h2⟩, h' => by
    subst e
    exact ⟨q', w, _, rfl, hk, h1, RpK.append h2 h'⟩
theorem RpK.put {K : PySem.W.Frag} {q : L2.Key} {d : D} {v : V} {kvs : List (D × D)} {ks : List (L2.Key × V)} (rv : Rp K H S d v) (r : RpK K H S kvs ks) : RpK K H S (putD q d kvs) (putK ks q v) := by
  unfold putD putK
  rw [r.anyK]
  split
  · exact RpK.mapK rv r
  · exact RpK.append r ⟨q, v, [], rfl, rfl, rv, rfl⟩

/-! ### d[k] = v, d a name -/
def putKey (i : Nat) (d k : D) (γ2 : Env) : RE Fl := match slotK γ2 i, toKey k with
  | some kvs, some q => if kvs.length < sizeLine then .ok .nx (setK γ2 i (putD q d kvs)) else .bad
  | _, _ => .bad
def setKey (i : Nat) (fi fv : Fn D) : Fn Fl := fun γ => (fv γ).bind fun d γ1 => match slotK γ1 i with
  | none => .bad
  | some _ => (fi γ1).bind fun k γ2 => putKey i d k γ2
theorem ps_setKey {fi fv : Fn D} {pn px : Pos} (G : Base X c) (hN : X.N[i]? = some x) (hv : Vis X.env.scope x) (hi : PE X e (tD c fi)) (hval : PE X a (tD c fv)) (hd : (x == ("__debug__" : Str)) = false := by decide) (hcd : (x == ("__classdict__" : Str)) = false := by decide)
    (hs : swapsWith a (some (.Subscript (.Name x pn) e px)) pos.line X.env = pure false := by rfl) : PS X (.Assign [.Subscript (.Name x pn) e px] a pos) (tS c (setKey i fi fv)) :=
  PS_imp (ps_dput (by have := G.un; omega) (pe_var hN hv hd hcd) hi hval hs) fun Dn σ H q => by
    refine tS.thn q fun B og d γ0 γ1 v H1 og1 on E0 l E1 q1 hn k => ?_
    have k := k.shift l
    cases e0 : slotK γ1 i with
    | none => unfold tSat at k; dsimp only at k; rw [e0] at k; exact k.elim
    | some ds0 =>
      obtain ⟨a0, xs0, hv0, ha0, _, ho0⟩ := E1.ownK e0
      refine ⟨_, hv0, B, og1, γ1, E1, ?_⟩
      have k : tSat c B og1 (fun γ1 => (fi γ1).bind fun kd γ2 => putKey i d kd γ2) Dn H1 γ1 := by
        unfold tSat at k ⊢
        dsimp only at k
        rw [e0] at k
        exact k
      refine tSat.thn E1 k fun kd γ2 w H2 og2 on2 l2 E2 q2 hn2 k => ?_
      have k := k.shift l2
      unfold tSat putKey at k
      dsimp only at k
      cases e1 : slotK γ2 i with
      | none => rw [e1] at k; exact k.elim
      | some ds =>
        rw [e1] at k
        obtain ⟨a1, xs, hv1, ha1, rr, ho1⟩ := E2.ownK e1
        rw [hv0] at hv1
        cases hv1
        cases ek : toKey kd with
        | none => rw [ek] at k; exact k.elim
        | some qk =>
          rw [ek] at k
          dsimp only at k
          by_cases hl : ds.length < sizeLine
          · rw [if_pos hl] at k
            have rd : Rp c.K H2 (Sx B og2) d v := Rp.frame (Later.fr E1 l2) _ _ q1.2
            obtain ⟨E3, l3⟩ := E2.setK (ds' := putD qk d ds) (xs' := putK xs qk v) e1 hv0 ho1 (RpK.put rd rr)
            have ew := key_val (Rp.top q2.2) ek
            exact ⟨a0, _, rfl, .inl ⟨xs, qk, ha1, ew, by rw [RpK.len rr]; exact hl, rfl⟩, k σ _ og2 l3 E3⟩
          · rw [if_neg hl] at k; exact k.elim
end
end Eg
end
section
/-! E19: dicts displayed and comprehended; sorted -/
namespace Eg
open PySem PySem.Spec L2
open PyProof.Rows hiding St
section
variable {c : Cc} {H H1 H2 H' : Hp} {B S S' T : AP} {og og1 og2 og' : Og} {σ σ1 : St} {γ γ1 : Env} {X : Cx} {e a b : Expr} {pos p apos : Pos} {i : Nat} {x : Str} {K : PySem.W.Frag}
/-! ### {k: v, ..} -/
def RpP (K : PySem.W.Frag) (H : Hp) (S : AP) : List (D × D) → List (V × V) → Prop
  | [], ps => ps = []
  | (k, d) :: r, ps => ∃ v w t, ps = (v, w) :: t ∧ Rp K H S k v ∧ Rp K H S d w ∧ RpP K H S r t
theorem RpP.frame (F : Fr0 H H' S S' T) : ∀ {r : List (D × D)} {ps : List (V × V)}, RpP K H S r ps → RpP K H' S' r ps
  | [], _, h => h
  | (k, d) :: r, _, ⟨v, w, t, e, h1, h2, h3⟩ => ⟨v, w, t, e, h1.frame F, h2.frame F, RpP.frame F h3⟩
def relP (c : Cc) : Rel (List (D × D)) (List (V × V)) := fun H S _ ds vs on => on = [] ∧ RpP c.K H S ds vs
def prsS : List (Fn D × Fn D) → Fn (List (D × D))
  | [] => fun γ => .ok [] γ
  | (fk, fv) :: r => fun γ => (fk γ).bind fun k γ1 => (fv γ1).bind fun d γ2 => (prsS r γ2).bind fun ds γ3 => .ok ((k, d) :: ds) γ3
def prT (c : Cc) (l : List (Fn D × Fn D)) : List (TE × TE) := l.map fun q => (tD c q.1, tD c q.2)
theorem pairs_sem : ∀ {l : List (Fn D × Fn D)} {σ : St} {H : Hp} {Q : List (V × V) → Hp → Prop}, tG c (relP c) (prsS l) σ H Q → tPairs (prT c l) σ H Q
  | [], σ, H, Q, ⟨B, og, γ, E, k⟩ => k [] H og [] .refl E ⟨rfl, rfl⟩ nofun
  | (fk, fv) :: r, σ, H, Q, q => by
    refine tG.thn (rela := relD c) q fun B og kd γ0 γ1 v H1 og1 on E0 l E1 q1 hn k => ?_
    refine ⟨B, og1, γ1, E1, tGat.thn (rela := relD c) k fun d γ2 w H2 og2 on2 l2 E2 q2 hn2 k2 => ?_⟩
    refine pairs_sem ⟨B, og2, γ2, E2, tGat.thn (rela := relP c) k2 fun ds γ3 ws H3 og3 on3 l3 E3 q3 hn3 k3 => ?_⟩
    have F2 := Later.fr E1 l2
    have F3 := Later.fr E2 l3
    exact k3.fin .refl E3 ⟨rfl, v, w, ws, rfl, Rp.frame F3 _ _ (Rp.frame F2 _ _ q1.2), Rp.frame F3 _ _ q2.2, q3.2⟩ nofun
def keysOf : List (D × D) → Option (List (L2.Key × D))
  | [] => some []
  | (k, d) :: r => match toKey k with
    | none => none
    | some q => (keysOf r).map ((q, d) :: ·)
def mergeD (kvs : List (D × D)) (more : List (L2.Key × D)) : List (D × D) := more.foldl (fun acc q => putD q.1 q.2 acc) kvs
def dispS (l : List (Fn D × Fn D)) : Fn Sl := fun γ => (prsS l γ).bind fun ds γ1 => match keysOf ds with
  | some qs => if qs.length ≤ 15 then .ok (.w (.k (mergeD [] qs))) γ1 else .bad
  | none => .bad
theorem keysOf_rel : ∀ {ds : List (D × D)} {qs : List (L2.Key × D)} {ps : List (V × V)}, keysOf ds = some qs → RpP K H S ds ps → ∃ kvs : List (L2.Key × V), ps = kvs.map (fun kv => (kV kv.1, kv.2)) ∧ kvs.length = qs.length ∧
    ∀ acc accV, RpK K H S acc accV → RpK K H S (mergeD acc qs) (mergeK accV kvs)
  | [], qs, ps, h, r => by
    cases h
    cases (show ps = [] from r)
    exact ⟨[], rfl, rfl, fun _ _ z => z⟩
  | (k, d) :: ds, qs, ps, h, ⟨v, w, t, e, h1, h2, h3⟩ => by
    unfold keysOf at h
    cases ek : toKey k with
    | none => rw [ek] at h; cases h
    | some q =>
      rw [ek] at h
      dsimp only at h
      cases e2 : keysOf ds with
      | none => rw [e2] at h; cases h
      | some qs' =>
        rw [e2] at h
        cases h
        obtain ⟨kvs, e3, e4, e5⟩ := keysOf_rel e2 h3
        have ev := key_val (Rp.top h1) ek
        exact ⟨(q, w) :: kvs, by rw [e, e3, ev]; rfl, congrArg Nat.succ e4, fun acc accV z => e5 _ _ (RpK.put h2 z)⟩
theorem pe_disp' {keys : List (Option Expr)} {values : List Expr} {l : List (Fn D × Fn D)} (h : PPs X pos keys values (prT c l)) (hall : keys.all (·.isSome) = true) (hl : keys.length = values.length) (h0 : keys ≠ []) (h15 : keys.length ≤ 15) : PE X (.Dict keys values pos) (tE c (dispS l)) :=
  PE_imp (pe_disp h hall hl h0 h15) fun σ H Q q pp hp => by
    obtain ⟨B, og, γ, E, q⟩ := q
    have hf : ∀ b ∈ [pp], H b = none := fun b hb => by cases List.mem_singleton.mp hb; exact hp
    have E1 : EnvR c (upd H pp (.dK [])) (Bx B [pp]) og σ γ := E.fresh (same_upd hp) hf fun b hb => by
      cases List.mem_singleton.mp hb
      rw [upd_same]
      exact nofun
    refine pairs_sem ⟨Bx B [pp], og, γ, E1, ?_⟩
    unfold tGat dispS at q
    unfold tGat
    cases e1 : prsS l γ with
    | bad => rw [e1] at q; exact q
    | ex z γ1 =>
      rw [e1] at q
      exact fun cls dx H' r l E' => q cls dx H' r ⟨fun a o e n t => l.kp a o (same_upd hp a o e) n t, fun a n => l.gr a (by
        cases e : H a with
        | none => exact absurd e n
        | some o => rw [same_upd hp a o e]; exact nofun), fun a ⟨_, z⟩ => by cases z⟩ (E'.less fun a z => Bx_iff.mpr (.inl z))
    | ok ds γ1 =>
      rw [e1] at q
      dsimp only [RE.bind] at q
      cases e2 : keysOf ds with
      | none => rw [e2] at q; exact q.elim
      | some qs =>
        rw [e2] at q
        dsimp only at q
        by_cases hq : qs.length ≤ 15
        · rw [if_pos hq] at q
          intro ps H2 og2 on l2 E2 q2 hn2
          obtain ⟨kvs, e3, e4, e5⟩ := keysOf_rel e2 q2.2
          have no : ¬ og.all pp := fun ⟨j, z⟩ => E1.nb j pp z (.inl rfl)
          have hd : H2 pp = some (.dK []) := l2.kp pp _ upd_same no nt_dK
          refine ⟨hd, kvs, e3, by rw [e4]; exact hq, ?_⟩
          have hon := q2.1
          subst hon
          have no2 : ¬ og2.all pp := fun ⟨j, z⟩ => E2.nb j pp z (.inl rfl)
          have nS : ¬ Sx B og2 pp := fun z => by
            rcases z with z | ⟨j, z⟩
            · exact E.bl pp z hp
            · exact no2 ⟨j, z⟩
          have F : Fr0 H2 (upd H2 pp (.dK (mergeK [] kvs))) (Sx (Bx B [pp]) og2) (Sx (Bx B [pp]) og2) (· = pp) := Fr0.upd1 (.inl (.inl rfl)) (.inr ⟨_, hd⟩)
          have rk : RpK c.K (upd H2 pp (.dK (mergeK [] kvs))) (Sx (Bx B [pp]) og2) (mergeD [] qs) (mergeK [] kvs) := RpK.frame F _ _ (e5 [] [] rfl)
          have E3 : EnvR c (upd H2 pp (.dK (mergeK [] kvs))) (Bx B [pp]) og2 σ γ1 := E2.less (fun a z => z) |>.wrB (.inl rfl) (.inr ⟨_, hd⟩) (E.fresh0 hp)
          refine q _ _ og2 [pp] ⟨fun a o e n t => ?_, fun a n => ?_, fun a z => ?_⟩ E3 ⟨⟨pp, rfl, ⟨rfl, _, upd_same, ?_⟩, List.nodup_cons.mpr ⟨nofun, List.nodup_nil⟩⟩, fun b hb => by cases List.mem_singleton.mp hb; exact nS⟩ hf
          · have na : a ≠ pp := fun z => by subst z; rw [hp] at e; cases e
            rw [upd_ne na]
            exact l2.kp a o (by rw [upd_ne na]; exact e) n t
          · by_cases na : a = pp
            · subst na; rw [upd_same]; exact nofun
            · rw [upd_ne na]
              exact l2.gr a (by rw [upd_ne na]; exact n)
          · rcases l2.sub a z with z | z
            · exact .inl z
            · by_cases na : a = pp
              · subst na; exact .inr hp
              · rw [upd_ne na] at z; exact .inr z
          · refine RpK.frame (⟨.refl, nofun, fun a z => .inl ?_⟩ : Fr0 _ _ (Sx (Bx B [pp]) og2) _ (fun _ => False)) _ _ rk
            rcases Bx_iff.mp z with z | z
            · exact z.imp (fun z => Bx_iff.mpr (.inl z)) id
            · exact .inl (Bx_iff.mpr (.inr z))
        · rw [if_neg hq] at q; exact q.elim
def emptyK : Fn Sl := fun γ => .ok (.w (.k [])) γ
theorem pe_dict0 : PE X (.Dict [] [] pos) (tE c emptyK) := PE_imp pe_dnewK fun σ H Q q pp hp => by
  obtain ⟨B, og, γ, E, q⟩ := q
  have hf : ∀ b ∈ [pp], H b = none := fun b hb => by cases List.mem_singleton.mp hb; exact hp
  have hg : ∀ b ∈ [pp], upd H pp (.dK []) b ≠ none := fun b hb => by cases List.mem_singleton.mp hb; rw [upd_same]; exact nofun
  exact q _ _ og [pp] (Later.more (same_upd hp)) (E.fresh (same_upd hp) hf hg) ⟨⟨pp, rfl, ⟨rfl, [], upd_same, rfl⟩, List.nodup_cons.mpr ⟨nofun, List.nodup_nil⟩⟩, fun b hb => E.notS (hf b hb)⟩ hf

/-! ### {k: v for t in src if test} -/
theorem length_putD (q : L2.Key) (d : D) (kvs : List (D × D)) : (putD q d kvs).length ≤ kvs.length + 1 := by
  unfold putD
  split
  · rw [List.length_map]; omega
  · rw [List.length_append, List.length_singleton]; exact Nat.le_refl _
def dcL (vs : List Nat) (t : Tg) (tt : Fn Bool) (tk te : Fn D) : List D → Fn (List (L2.Key × D))
  | [], γ => .ok [] γ
  | d :: ds, γ => if canWipe vs γ then match t d (wipeE vs γ) with
    | none => .bad
    | some γ1 => (noX tt γ1).bind fun b γ2 => if b = true then (noX tk γ2).bind fun k γk => match toKey k with
      | none => .bad
      | some q => (noX te γk).bind fun x γ3 => (dcL vs t tt tk te ds γ3).bind fun xs γ4 => .ok ((q, x) :: xs) γ4
      else dcL vs t tt tk te ds γ2
    else .bad
def dcS (vs : List Nat) (src : Fn (List D)) (t : Tg) (tt : Fn Bool) (tk te : Fn D) : Fn Sl := fun γ => (src γ).bind fun ds γ1 => if canWipe vs γ1 && decide (ds.length ≤ sizeLine) then
    (dcL vs t tt tk te ds γ1).bind fun xs γ2 => if canWipe vs γ2 then .ok (.w (.k (mergeD [] xs))) (restE vs γ1 γ2) else .bad
  else .bad
theorem dc_sem {vs : List Nat} {src : Fn (List D)} {t : Tg} {ts : List Nat} {tt : Fn Bool} {tk te : Fn D} {Q : VK} (hts : ∀ j ∈ ts, j ∈ vs) (h : tE c (dcS vs src t tt tk te) σ H Q) : tDc (iSrc c src) (tgS c.quiet ts t) (tT c.quiet tt) (tD c.quiet tk) (tD c.quiet te) vs σ H Q := by
  obtain ⟨B, og, γ, E, h⟩ := h
  refine ⟨B, og, γ, E, ?_⟩
  unfold tGat dcS at h
  cases es : src γ with
  | bad => rw [es] at h; exact h
  | ex x γ1 => rw [es] at h; exact h
  | ok ds γ1 =>
    rw [es] at h
    intro J H1 og1 P l1 E1 okI p1 D hD
    dsimp only [RE.bind] at h
    by_cases hc : (canWipe vs γ1 && decide (ds.length ≤ sizeLine)) = true
    · rw [if_pos hc] at h
      rw [Bool.and_eq_true] at hc
      have cw1 := hc.1
      have hlen : ds.length ≤ sizeLine := of_decide_eq_true hc.2
      have hdn : ∀ a ∈ [D], H1 a = none := fun a ha => by cases List.mem_singleton.mp ha; exact hD
      have E2 : EnvR c (upd H1 D (.dK [])) (Bx B [D]) og1 σ γ1 := E1.fresh (same_upd hD) hdn fun a ha => by
        cases List.mem_singleton.mp ha
        rw [upd_same]
        exact nofun
      have k00 : tGat c (relE c) B og (fun γ => (dcL vs t tt tk te ds γ).bind fun xs γ2 => if canWipe vs γ2 then RE.ok (Sl.w (.k (mergeD [] xs))) (restE vs γ1 γ2) else .bad) σ H γ1 Q := by
        unfold tGat
        dsimp only [RE.bind]
        exact h
      have k0 := k00.shift l1
      have fr1 : Fr0 H1 (upd H1 D (.dK [])) (Sx B og1) (Sx (Bx B [D]) og1) (fun _ => False) := ⟨.same (same_upd hD), nofun, fun a z => by
        rcases z with z | z
        · exact (Bx_iff.mp z).elim (fun z => .inl (.inl z)) fun z => .inr (hdn a z)
        · exact .inl (.inr z)⟩
      refine ⟨fun i m H => i + m = ds.length ∧ ∃ og γ σx accD accV, EnvR c H (Bx B [D]) og σx γ ∧ wipe σx vs = wipe σ vs ∧ Later og1 og H1 H ∧ P (Sx (Bx B [D]) og) H ∧ H D = some (.dK accV) ∧ RpK c.K H (Sx (Bx B [D]) og) accD accV ∧ accD.length ≤ i ∧
        tGat c (relE c) B og1 (fun γ => (dcL vs t tt tk te (ds.drop i) γ).bind fun xs γ2 => if canWipe vs γ2 then RE.ok (Sl.w (.k (mergeD accD xs))) (restE vs γ1 γ2) else .bad) σ H1 γ Q,
        ⟨ds.length, by omega, og1, γ1, σ, [], [], E2, rfl, Later.more (same_upd hD), okI.keep _ _ _ _ _ p1 fr1, upd_same, rfl, Nat.le_refl _, k0⟩, ?_⟩
      rintro i m H2 ⟨him, og2, γ2, σx, accD, accV, E3, hw, l2, p2, hDl, racc, hacc, k⟩
      by_cases hi : i < ds.length
      · have ei : ds[i]? = some ds[i] := List.getElem?_eq_getElem hi
        obtain ⟨go, yl⟩ := okI.step i ds[i] H2 _ p2 ei
        rw [List.drop_eq_getElem_cons hi] at k
        refine .inr ⟨go, fun H => ∃ og γ σx accD accV, EnvR c H (Bx B [D]) og σx γ ∧ wipe σx vs = wipe σ vs ∧ Later og1 og H1 H ∧ P (Sx (Bx B [D]) og) H ∧ H D = some (.dK accV) ∧ RpK c.K H (Sx (Bx B [D]) og) accD accV ∧ accD.length ≤ i + 1 ∧
          tGat c (relE c) B og1 (fun γ => (dcL vs t tt tk te (ds.drop (i + 1)) γ).bind fun xs γ2 => if canWipe vs γ2 then RE.ok (Sl.w (.k (mergeD accD xs))) (restE vs γ1 γ2) else .bad) σ H1 γ Q, fun H' q => ⟨m - 1, by omega, by omega, q⟩, fun x H3 hy => ?_⟩
        obtain ⟨same, rx⟩ := yl x H3 hy
        unfold tGat dcL at k
        dsimp only at k
        by_cases cw : canWipe vs γ2 = true
        · rw [if_pos cw] at k
          have E4 : EnvR c H3 (Bx B [D]) og2 (wipe σ vs) (wipeE vs γ2) := by
            rw [← hw]
            exact (E3.wiped cw).more same
          refine ⟨Bx B [D], og2, wipeE vs γ2, ds[i], E4.quiet, rx, ?_⟩
          cases et : t ds[i] (wipeE vs γ2) with
          | none => rw [et] at k; exact k
          | some γa =>
            rw [et] at k
            dsimp only at k
            intro σ2 og3 out l3 E5
            refine ⟨wipe_out' out hts, Bx B [D], og3, γa, E5, ?_⟩
            unfold tGat
            unfold noX at k
            cases ett : tt γa with
            | bad => rw [ett] at k; exact k
            | ex z γb => rw [ett] at k; exact k.elim
            | ok b γb =>
              rw [ett] at k
              dsimp only [RE.bind] at k
              intro v H4 og4 on4 l4 E6 q4 n4
              obtain ⟨rfl, rfl⟩ := q4
              have lall : Later og1 og4 H1 H4 := ((l2.trans (Later.more same)).trans l3).trans l4
              have f34 : Fr0 H2 H4 (Sx (Bx B [D]) og2) (Sx (Bx B [D]) og4) og2.all := Later.fr E3 (((Later.more same).trans l3).trans l4)
              have nD : ∀ og' σ' γ' Hx, EnvR c Hx (Bx B [D]) og' σ' γ' → ¬ og'.all D := fun og' σ' γ' Hx Ex ⟨j, hj⟩ => Ex.nb j D hj (.inl rfl)
              have hD4 : H4 D = some (.dK accV) := f34.kp D _ hDl (nD _ _ _ _ E3) nt_dK
              cases v with
              | false =>
                refine ⟨og4, γb, σ2, accD, accV, E6.loud, wipe_out' out hts, lall, okI.keep _ _ _ _ _ p2 f34, hD4, RpK.frame f34 _ _ racc, by omega, k⟩
              | true =>
                simp only [if_true] at k ⊢
                refine ⟨Bx B [D], og4, γb, E6, ?_⟩
                unfold tGat
                cases etk : tk γb with
                | bad => rw [etk] at k; exact k
                | ex z γc => rw [etk] at k; exact k.elim
                | ok kd γk =>
                rw [etk] at k
                dsimp only at k
                cases eky : toKey kd with
                | none => rw [eky] at k; exact k.elim
                | some qk =>
                rw [eky] at k
                dsimp only at k
                intro y0 H5' og5' on5' l5' E7' q5' n5'
                obtain ⟨rfl, ry0⟩ := q5'
                refine ⟨Bx B [D], og5', γk, E7', ?_⟩
                unfold tGat
                cases ete : te γk with
                | bad => rw [ete] at k; exact k
                | ex z γc => rw [ete] at k; exact k.elim
                | ok y γc =>
                  rw [ete] at k
                  dsimp only at k
                  intro u H5 og5 on5 l5'' E7 q5 n5
                  obtain ⟨rfl, ry⟩ := q5
                  have l5 := l5'.trans l5''
                  have f5 : Fr0 H4 H5 (Sx (Bx B [D]) og4) (Sx (Bx B [D]) og5) og4.all := Later.fr E6 l5
                  have hD5 : H5 D = some (.dK accV) := f5.kp D _ hD4 (nD _ _ _ _ (EnvR.loud E6)) nt_dK
                  have racc5 := RpK.frame f5 _ _ (RpK.frame f34 _ _ racc)
                  have ey0 := key_val (Rp.top ry0) eky
                  refine ⟨accV, qk, ey0, hD5, by rw [RpK.len racc5]; omega, ?_⟩
                  have fD : ∀ o, Fr0 H5 (upd H5 D o) (Sx (Bx B [D]) og5) (Sx (Bx B [D]) og5) (fun a => a = D) := fun o => ⟨fun a u e n _ => by rw [upd_ne n]; exact e, fun a z => by subst z; exact ⟨.inl (.inl rfl), .inr ⟨accV, hD5⟩⟩, fun a z => .inl z⟩
                  have hB : Bx B [D] D := .inl rfl
                  have h0D : c.H0 D = none := E1.fresh0 hD
                  have E8 : EnvR c (upd H5 D (.dK (putK accV qk u))) (Bx B [D]) og5 σ2 γc := E7.loud.wrB hB (.inr ⟨accV, hD5⟩) h0D
                  have l6 : Later og1 og5 H1 (upd H5 D (.dK (putK accV qk u))) := ⟨fun a o e n t => by
                    rw [upd_ne fun z => by rw [z, hD] at e; cases e]
                    exact (lall.trans l5).kp a o e n t, fun a n => by
                    by_cases z : a = D
                    · subst z; rw [upd_same]; exact nofun
                    · rw [upd_ne z]; exact (lall.trans l5).gr a n, (lall.trans l5).sub⟩
                  refine ⟨og5, γc, σ2, putD qk y accD, putK accV qk u, E8, wipe_out' out hts, l6, okI.keep _ _ _ _ _ (okI.keep _ _ _ _ _ (okI.keep _ _ _ _ _ p2 f34) f5) (fD _), upd_same, ?_, by have := length_putD qk y accD; omega, ?_⟩
                  · exact RpK.frame (fD _) _ _ (RpK.put ry racc5)
                  · cases el : dcL vs t tt tk te (ds.drop (i + 1)) γc with
                    | bad => rw [el] at k; exact k
                    | ex z γd => rw [el] at k; exact k
                    | ok xs γd =>
                      rw [el] at k
                      exact k
        · rw [if_neg cw] at k; exact k.elim
      · have e : i = ds.length := by omega
        subst e
        refine .inl ⟨okI.stop H2 _ p2, ?_⟩
        rw [List.drop_length] at k
        unfold tGat dcL at k
        dsimp only [RE.bind] at k
        by_cases cw : canWipe vs γ2 = true
        · rw [if_pos cw] at k
          have k : ∀ v H' og' on, Later og1 og' H1 H' → EnvR c H' (Bx B on) og' σ (restE vs γ1 γ2) → relE c H' (Sx B og') σ (.w (.k accD)) v on → (∀ a ∈ on, H1 a = none) → Q v H' := k
          have F : Fr0 H1 H2 (Sx B og1) (Sx (Bx B [D]) og2) og1.all := ⟨l2.kp, fun a ⟨j, z⟩ => ⟨.inr ⟨j, z⟩, E1.mu z⟩, fun a z => by
            rcases z with z | z
            · exact (Bx_iff.mp z).elim (fun z => .inl (.inl z)) fun z => .inr (hdn a z)
            · exact (l2.sub a z).imp .inr id⟩
          have E9 := E1.restored cw1 F E3 hw cw
          refine k (.ref D) H2 og2 [D] l2 E9 ⟨⟨D, rfl, ⟨rfl, accV, hDl, RpK.frame (T := fun _ => False) ⟨.refl, nofun, fun a z => .inl ?_⟩ _ _ racc⟩, List.nodup_cons.mpr ⟨nofun, List.nodup_nil⟩⟩, fun a ha z => ?_⟩ hdn
          · rcases z with z | z | z
            · exact .inl (.inl z)
            · exact .inl (.inr z)
            · exact .inr z
          · cases List.mem_singleton.mp ha
            rcases z with z | ⟨j, z⟩
            · exact E1.bl D z hD
            · exact E3.nb j D z (.inl rfl)
        · rw [if_neg cw] at k; exact k.elim
    · rw [if_neg hc] at h; exact h.elim
theorem pe_dc' {kx vx tg iter : Expr} {ifs : List Expr} {scope : Scope} {own : List (Str × Nat)} {src : Fn (List D)} {t : Tg} {ts : List Nat} {tt : Fn Bool} {tk te : Fn D} (G : Good X c) (hi : PI X tg iter (iSrc c src)) (ok : BlkOk X.N X.env.scope scope own)
    (hts : ∀ j ∈ ts, j ∈ own.map (·.2))
    (hg : ∀ (s : Shared) (H : Hp) (C : Addr) (cl : List (Str × Addr)) (fp : List Addr), PG (X.blk s H scope (compEnvC scope cl C X.env) fp) tg (tgS c.quiet ts t)) (ht : ∀ (s : Shared) (H : Hp) (C : Addr) (cl : List (Str × Addr)) (fp : List Addr), PTs (X.blk s H scope (compEnvC scope cl C X.env) fp) ifs (tT c.quiet tt))
    (hk : ∀ (s : Shared) (H : Hp) (C : Addr) (cl : List (Str × Addr)) (fp : List Addr), PE (X.blk s H scope (compEnvC scope cl C X.env) fp) kx (tD c.quiet tk))
    (he : ∀ (s : Shared) (H : Hp) (C : Addr) (cl : List (Str × Addr)) (fp : List Addr), PE (X.blk s H scope (compEnvC scope cl C X.env) fp) vx (tD c.quiet te)) (hs : ∀ x, foldedSetIterable iter X.env x = pure x := by intro _; rfl) :
    PE X (.DictComp kx vx [⟨tg, iter, ifs, 0⟩] scope pos) (tE c (dcS (own.map (·.2)) src t tt tk te)) := PE_imp (pe_dc G.calm G.nd hi ok hg ht hk he hs) fun σ H Q h => dc_sem hts h
theorem pe_dcL {kx vx tg iter : Expr} {ifs : List Expr} {scope : Scope} {own : List (Str × Nat)} {src : Fn (List D)} {t : Tg} {ts : List Nat} {tt : Fn Bool} {tk te : Fn D} (G : Good X c) (hi : PI X tg iter (iSrcL i c src)) (ok : BlkOk X.N X.env.scope scope own)
    (hts : ∀ j ∈ ts, j ∈ own.map (·.2))
    (hg : ∀ (s : Shared) (H : Hp) (C : Addr) (cl : List (Str × Addr)) (fp : List Addr), PG (X.blk s H scope (compEnvC scope cl C X.env) fp) tg (tgS c.quiet ts t)) (ht : ∀ (s : Shared) (H : Hp) (C : Addr) (cl : List (Str × Addr)) (fp : List Addr), PTs (X.blk s H scope (compEnvC scope cl C X.env) fp) ifs (tT c.quiet tt))
    (hk : ∀ (s : Shared) (H : Hp) (C : Addr) (cl : List (Str × Addr)) (fp : List Addr), PE (X.blk s H scope (compEnvC scope cl C X.env) fp) kx (tD c.quiet tk))
    (he : ∀ (s : Shared) (H : Hp) (C : Addr) (cl : List (Str × Addr)) (fp : List Addr), PE (X.blk s H scope (compEnvC scope cl C X.env) fp) vx (tD c.quiet te)) (hs : ∀ x, foldedSetIterable iter X.env x = pure x := by intro _; rfl) :
    PE X (.DictComp kx vx [⟨tg, iter, ifs, 0⟩] scope pos) (fun σ H Q => Lkd i σ H ∧ tE c (dcS (own.map (·.2)) src t tt tk te) σ H Q) := PE_imp (pe_dc G.calm G.nd hi ok hg ht hk he hs) fun σ H Q h => ⟨h.1, dc_sem hts h.2⟩
end
end Eg
end
section
/-! E20: sorted of ints, index, the list backwards, update -/
namespace Eg
open PySem PySem.Spec L2
open PyProof.Rows hiding St

def insI (n : Int) : List Int → List Int
  | [] => [n]
  | m :: r => if n ≤ m then n :: m :: r else m :: insI n r
def sortI : List Int → List Int
  | [] => []
  | n :: r => insI n (sortI r)
theorem insI_perm (n : Int) : ∀ l : List Int, (insI n l).Perm (n :: l)
  | [] => .refl _
  | m :: r => by
    unfold insI
    split
    · exact .refl _
    · exact ((insI_perm n r).cons m).trans (.swap ..)
theorem sortI_perm : ∀ l : List Int, (sortI l).Perm l
  | [] => .refl _
  | n :: r => (insI_perm n (sortI r)).trans ((sortI_perm r).cons n)
theorem insI_sorted (n : Int) : ∀ l : List Int, l.Pairwise (· ≤ ·) → (insI n l).Pairwise (· ≤ ·)
  | [], _ => List.pairwise_singleton _ _
  | m :: r, h => by
    obtain ⟨h1, h2⟩ := List.pairwise_cons.mp h
    unfold insI
    split
    · rename_i hn
      refine List.pairwise_cons.mpr ⟨fun x hx => ?_, h⟩
      rcases List.mem_cons.mp hx with rfl | hx
      · exact hn
      · have := h1 x hx; omega
    · rename_i hn
      refine List.pairwise_cons.mpr ⟨fun x hx => ?_, insI_sorted n r h2⟩
      rcases List.mem_cons.mp ((insI_perm n r).mem_iff.mp hx) with rfl | hx
      · omega
      · exact h1 x hx
theorem sortI_sorted : ∀ l : List Int, (sortI l).Pairwise (· ≤ ·)
  | [] => .nil
  | n :: r => insI_sorted n _ (sortI_sorted r)
theorem sorted_one : ∀ {l m : List Int}, l.Perm m → l.Pairwise (· ≤ ·) → m.Pairwise (· ≤ ·) → l = m
  | [], m, p, _, _ => (List.nil_perm.mp p).symm
  | x :: l, [], p, _, _ => by have := p.length_eq; simp at this
  | x :: l, y :: m, p, h1, h2 => by
    obtain ⟨a1, a2⟩ := List.pairwise_cons.mp h1
    obtain ⟨b1, b2⟩ := List.pairwise_cons.mp h2
    have hx : x = y := by
      have e1 := p.mem_iff.mp (List.mem_cons_self (a := x) (l := l))
      have e2 := p.mem_iff.mpr (List.mem_cons_self (a := y) (l := m))
      rcases List.mem_cons.mp e1 with e | e1
      · exact e
      · rcases List.mem_cons.mp e2 with e | e2
        · exact e.symm
        · have := a1 y e2; have := b1 x e1; omega
    subst hx
    rw [sorted_one (List.Perm.cons_inv p) a2 b2]
/-- the keys, if they are ints -/
def intKeys : List (D × D) → Option (List Int)
  | [] => some []
  | (.int i, _) :: r => (intKeys r).map (i :: ·)
  | _ => none
def sortedD : List D → R Sl
  | [.list ds] => match intsOf ds with
    | some ns => .ok (.w (.l ((sortI ns).map .int)))
    | none => .bad
  | [.dict kvs] => match intKeys kvs with
    | some ns => if ns.length < 64 then .ok (.w (.l ((sortI ns).map .int))) else .bad
    | none => .bad
  | _ => .bad
section
variable {c : Cc} {H H1 H2 H' : Hp} {B S S' T : AP} {og og1 og2 og' : Og} {σ σ1 : St} {γ γ1 : Env} {X : Cx} {e a b : Expr} {pos p apos : Pos} {i : Nat} {x : Str} {K : PySem.W.Frag}
theorem intKeys_rel : ∀ {kvs : List (D × D)} {ns : List Int} {ks : List (L2.Key × V)}, intKeys kvs = some ns → RpK K H S kvs ks → ks.map (·.1) = ns.map Sum.inl
  | [], ns, ks, h, r => by
    cases h
    cases (show ks = [] from r)
    rfl
  | (k, d) :: kvs, ns, ks, h, ⟨q, v, t, e, hk, h1, h2⟩ => by
    cases k with
    | int i =>
      unfold intKeys at h
      cases e2 : intKeys kvs with
      | none => rw [e2] at h; cases h
      | some ns' =>
        rw [e2] at h
        cases h
        subst e
        cases q with
        | inl j =>
          have hk : PyData.int i = PyData.int j := hk
          cases hk
          rw [List.map_cons, intKeys_rel e2 h2]
          rfl
        | inr j => exact absurd hk nofun
    | _ => cases h
theorem cr_sortedD (hc : X.calm = true) : CallR X (.builtin "sorted") (rPs X.K sortedD) := by
  intro pins s σ H xs us Q I r h
  obtain ⟨S, ds, hr, p⟩ := h
  unfold sortedD at p
  split at p
  · rename_i l
    obtain ⟨v, rfl, a, ys, rfl, ha, r1⟩ := hr.one
    cases e : intsOf l with
    | none => rw [e] at p; exact p.elim
    | some ns =>
      rw [e] at p
      have e1 := intsOf_eq e
      subst e1
      have e2 := RpA.ints r1
      subst e2
      refine cr_sortedI pins s σ H _ us Q I r ⟨a, ns, rfl, .inl (.inl ha), fun ns' q h1 h2 hq => ?_⟩
      rw [sorted_one (h1.trans (sortI_perm ns).symm) h2 (sortI_sorted ns)]
      exact PPost.lst p hq (RpA.of_ints _)
  · rename_i kvs
    obtain ⟨v, rfl, a, ks, rfl, ha, r1⟩ := hr.one
    cases e : intKeys kvs with
    | none => rw [e] at p; exact p.elim
    | some ns =>
      rw [e] at p
      dsimp only at p
      obtain ⟨hl, p⟩ := PPost.ite p
      refine call_sortedDI hc pins s σ H _ us Q I r ⟨a, ks, ns, rfl, ha, intKeys_rel e r1, hl, fun ns' q h1 h2 hq => ?_⟩
      rw [sorted_one (h1.trans (sortI_perm ns).symm) h2 (sortI_sorted ns)]
      exact PPost.lst p hq (RpA.of_ints _)
  · exact p.elim

/-! ### methods of data -/
def methS (T : String) (g : D → List D → R Sl) (fa : Fn AV) (fs : Fn (List D)) : Fn Sl := fun γ => (fa γ).bind fun a γ1 => match getA γ1 a with
  | .ok d0 => if tyD d0 = T then (fs γ1).bind fun args γ2 => match getA γ2 a with
    | .ok d => prim (g d args) γ2
    | _ => .bad
    else .bad
  | _ => .bad
def MtD (K : PySem.W.Frag) (r : V → List V → Hp → VK → Prop) (g : D → List D → R Sl) : Prop := ∀ (d : D) (args : List D) (x : V) (xs : List V) (H : Hp) (S : AP) (Q : VK), RpT K H S d x → RpA K H S args xs → PPost K H S (g d args) Q → r x xs H Q
theorem tyV_of {K : PySem.W.Frag} {d : D} {v : V} (h : RpT K H S d v) (hd : tyD d = "list" ∨ tyD d = "str") : tyV K (tyD d) v H := by
  cases d with
  | none => simp [tyD] at hd
  | bool b => simp [tyD] at hd
  | int i => simp [tyD] at hd
  | dict ds => simp [tyD] at hd
  | str x => cases h; exact rfl
  | list ds => obtain ⟨a, xs, rfl, ha, _⟩ := h; exact .inl ⟨rfl, xs, .inl (.inl ha)⟩
  | tuple ds => simp [tyD] at hd
variable {T id : String} {m : Str} {g : D → List D → R Sl} {r : V → List V → Hp → VK → Prop} {fa : Fn AV} {fs : Fn (List D)} {o : Expr} {es : List Expr} {cpos : Pos}
theorem mtd_core {Q : VK} (hT : T = "list" ∨ T = "str") (hr : MtD c.K r g) (q : tE c (methS T g fa fs) σ H Q) : tBM c.K T r (tO c fa) (tDs c fs) σ H Q := by
  refine tG.thn (rela := relO c) q fun B og a γ0 γ1 v H1 og1 on E0 l E1 q1 hn k => ?_
  cases e : getA γ1 a with
  | ex z => unfold tGat at k; dsimp only at k; rw [e] at k; exact k.elim
  | bad => unfold tGat at k; dsimp only at k; rw [e] at k; exact k.elim
  | ok d0 =>
    by_cases ht : tyD d0 = T
    · subst ht
      refine ⟨tyV_of (getA_top E1 q1.2 e) hT, B, og1, γ1, E1, ?_⟩
      have k : tGat c (relE c) B og1 (fun γ1 => (fs γ1).bind fun args γ2 => match getA γ2 a with
        | .ok d => prim (g d args) γ2
        | _ => .bad) σ H1 γ1 Q := by
        unfold tGat at k ⊢
        dsimp only at k
        rw [e] at k
        dsimp only at k
        rw [if_pos rfl] at k
        exact k
      refine tGat.thn k fun args γ2 ws H2 og2 on2 l2 E2 q2 hn2 k2 => ?_
      have q1' := AVR.later E1 l2 q1.2
      cases e2 : getA γ2 a with
      | ex z => unfold tGat at k2; dsimp only at k2; rw [e2] at k2; exact k2.elim
      | bad => unfold tGat at k2; dsimp only at k2; rw [e2] at k2; exact k2.elim
      | ok d =>
        have k2 : tGat c (relE c) B og2 (prim (g d args)) σ H2 γ2 Q := by
          unfold tGat at k2 ⊢
          dsimp only at k2
          rw [e2] at k2
          exact k2
        exact hr d args v ws H2 _ Q (getA_top E2 q1' e2) q2.2 (prim_fin E2 k2)
    · unfold tGat at k; dsimp only at k; rw [e] at k; dsimp only at k; rw [if_neg ht] at k; exact k.elim
theorem pe_mtD (G : Base X c) (pa : PlainAttrs T) (slot : Slot T m id) (hty : typeOf (.builtin id) = pure (.type "method_descriptor")) (hm : MtR X id r) (hT : T = "list" ∨ T = "str") (hr : MtD c.K r g) (ho : PE X o (tO c fa)) (ha : PA X (e :: es) (tDs c fs))
    (hbase : attributeBase o m X.env (eval o X.env) = eval o X.env := by rfl)
    (hfew : ((backTo cpos (starEach (e :: es) X.env)).all (fun x => !x.1) && (backToKw cpos (keywordEach [] X.env)).all (fun x => x.1.isSome)
      && decide ((e :: es).length + ([] : List Keyword).length + (if ([] : List Keyword).isEmpty then 0 else 1) < 30)) = true := by rfl)
    (hline : (apos.endLine == cpos.line) = true := by rfl) (hs : starEach (e :: es) X.env = (false, eval e X.env) :: starEach es X.env := by rfl) (hplain : (backTo cpos (starEach es X.env)).any (·.1) = false := by rfl) :
    PE X (.Call (.Attribute o m apos) (e :: es) [] cpos) (tE c (methS T g fa fs)) :=
  PE_imp (pe_bm pa slot hty hm ho ha hbase hfew hline hs hplain) fun σ H Q q => by rw [G.k]; exact mtd_core hT hr q
/-- the place of the first equal one -/
def findD (d : D) : List D → Nat → Option Nat
  | [], _ => none
  | z :: r, i => if PyData.eqv z d = true then some i else findD d r (i + 1)
def indexD : D → List D → R Sl
  | .list ds, [d] => if okEq d && okEq (.list ds) then match findD d ds 0 with
    | some j => .ok (.d (.int (j : Nat)))
    | none => .bad
    else .bad
  | _, _ => .bad
def countD : D → List D → R Sl
  | .list ds, [d] => if okEq d && okEq (.list ds) then .ok (.d (.int ((ds.countP fun z => PyData.eqv z d : Nat) : Int))) else .bad
  | _, _ => .bad
theorem findD_spec {d : D} : ∀ {ds : List D} {i j : Nat}, findD d ds i = some j → ∃ z, i ≤ j ∧ ds[j - i]? = some z ∧ PyData.eqv z d = true ∧ ∀ (m : Nat) (z' : D), m < j - i → ds[m]? = some z' → PyData.eqv z' d = false
  | [], i, j, h => by cases h
  | z :: r, i, j, h => by
    unfold findD at h
    by_cases e : PyData.eqv z d = true
    · rw [if_pos e] at h
      cases h
      exact ⟨z, Nat.le_refl _, by simp, e, fun m z' hm => by omega⟩
    · rw [if_neg e] at h
      obtain ⟨z', h1, h2, h3, h4⟩ := findD_spec h
      have e1 : j - i = (j - (i + 1)) + 1 := by omega
      refine ⟨z', by omega, by rw [e1]; exact h2, h3, fun m w hm hw => ?_⟩
      cases m with
      | zero => cases hw; exact Bool.eq_false_iff.mpr e
      | succ m => exact h4 m w (by omega) hw
theorem md_index : MtD K (rIndexD K) indexD := fun d args x xs H S Q hx hr p => by
  cases d with
  | list ds => cases args with
    | nil => exact p.elim
    | cons y ys => cases ys with
      | cons _ _ => exact p.elim
      | nil =>
        obtain ⟨v, u, rfl, h1, h2⟩ := hr
        cases (show u = [] from h2)
        obtain ⟨hl, p⟩ := PPost.ite p
        simp only [okEq, Bool.and_eq_true] at hl
        cases e : findD y ds 0 with
        | none => rw [e] at p; exact p.elim
        | some j =>
          rw [e] at p
          obtain ⟨z, _, h4, h5, h6⟩ := findD_spec e
          rw [Nat.sub_zero] at h4 h6
          have hxl := hx.dp hl.2.1
          obtain ⟨a, xs, rfl, _⟩ := hx
          exact ⟨a, v, y, ds, j, z, rfl, rfl, hxl, Rp.dp _ _ hl.1.1 h1, hl.2.2, hl.1.2, h4, h5, h6, p.flat rfl⟩
  | _ => exact p.elim
def rCountD (K : PySem.W.Frag) : V → List V → Hp → VK → Prop := fun x xs H Q => ∃ (a : Addr) (y : V) (d : PyData) (ds : List PyData), x = V.ref a ∧ xs = [y] ∧ Dp K H (V.ref a) (.list ds) ∧ Dp K H y d ∧ SeqAt.shaped (.list ds) = true ∧ SeqAt.shaped d = true ∧ Q (.int ((ds.countP fun z => PyData.eqv z d : Nat) : Int)) H
theorem mt_countD (hu : X.A.units + 65 < cLine) : MtR X "list.count" (rCountD X.K) := by
  intro pins s σ H x xs v us Q I rx rxs h
  obtain ⟨p, y, d, ds, rfl, rfl, hl, hy, sl, sd, q⟩ := h
  cases rx
  obtain ⟨u, rfl, ru⟩ := rxs.one
  obtain ⟨bs, rd⟩ := Dp.reads I d y u hy ru
  cases hl with
  | lst hs ha =>
    obtain ⟨its, rv, ⟨⟨cls, dd, data, slots⟩, n, ho, hc, hdn, hdt⟩, hlen⟩ := I.list hs
    simp only at hc hdt
    subst hc hdt
    obtain ⟨as, rr⟩ := Dp.readsAll I ds _ its ha rv
    have lay : PyData.canLayAll0 ds = true := SeqAt.canLay_of_shaped sl
    have hmap : its.map (SeqAt.readOf s.heap) = ds := SeqAt.readsAll_map ds its as lay rr
    refine call_meets PySem.F.slot_list_count ⟨_, ho, rfl⟩ PySem.F.entry_list_count (PySem.F.args_list_count_2 _ _)
      (SeqAt.list_countAt p its.toArray n dd slots u fun w => PyData.eqv (SeqAt.readOf s.heap w) d) ⟨ho, SeqAt.items_eqAt (vs := its.toArray) (show ReadsAll s.heap its.toArray.toList ds as from rr) rd lay (SeqAt.canLay_of_shaped sd) (room_in_shaped sd hu), ?_⟩
    refine ⟨.int ((ds.countP fun z => PyData.eqv z d : Nat) : Int), H, I.tok _, ⟨s.toks, ?_⟩, q⟩
    have ec : its.toArray.toList.countP (fun w => PyData.eqv (SeqAt.readOf s.heap w) d) = ds.countP fun z => PyData.eqv z d := by
      rw [← hmap, List.countP_map]
      rfl
    show Value.int ((its.toArray.toList.countP (fun w => PyData.eqv (SeqAt.readOf s.heap w) d) : Nat) : Int) s.toks = _
    rw [ec]
theorem md_count : MtD K (rCountD K) countD := fun d args x xs H S Q hx hr p => by
  cases d with
  | list ds => cases args with
    | nil => exact p.elim
    | cons y ys => cases ys with
      | cons _ _ => exact p.elim
      | nil =>
        obtain ⟨v, u, rfl, h1, h2⟩ := hr
        cases (show u = [] from h2)
        obtain ⟨hl, p⟩ := PPost.ite p
        simp only [okEq, Bool.and_eq_true] at hl
        have hxl := hx.dp hl.2.1
        obtain ⟨a, xs, rfl, _⟩ := hx
        exact ⟨a, v, y, ds, rfl, rfl, hxl, Rp.dp _ _ hl.1.1 h1, hl.2.2, hl.1.2, p.flat rfl⟩
  | _ => exact p.elim

/-! ### xs[::-1] -/
def revD : D → R Sl
  | .list ds => .ok (.w (.l ds.reverse))
  | _ => .bad
theorem pe_m1 {j : Nat} {p2 : Pos} : PE X (.UnaryOp .USub (.Constant (.int 1) j p) p2) (tC (.int (-1))) := PE_imp (pe_un un_neg pe_int) fun σ H Q q => ⟨1, rfl, q⟩
theorem pe_rev {j : Nat} {p2 p3 p4 : Pos} (G : Base X c) (he : PE X e (tO c fa)) :
    PE X (.Subscript e (.Slice none none (some (.UnaryOp .USub (.Constant (.int 1) j p3) p4)) p2) pos) (tE c (op1 revD fa)) := by
  refine ⟨fun pins s σ H Q I q => ?_⟩
  have q := op1_core q
  refine Subscript_ (thn (he.run pins s σ H _ I q) fun v s1 ⟨x, H1, I1, r1, S, d, hx, p⟩ => ?_)
  cases d with
  | list ds =>
    obtain ⟨a, xs, rfl, ha, rr⟩ := hx
    cases r1
    refine wpAny_Slice ?_
    rw [evalPart_none]
    refine wpAny_pure ?_
    refine wpAny_pure ?_
    rw [evalPart_some]
    refine thn ((pe_m1 (X := X)).run pins s1 σ H1 (fun x H2 => x = .int (-1) ∧ H2 = H1) I1 ⟨rfl, rfl⟩) fun u s2 ⟨x2, H2, I2, r2, e2, e3⟩ => ?_
    subst e2 e3
    obtain ⟨t, rfl⟩ := r2
    obtain ⟨its, r, ht, hz⟩ := I2.list (.inl (.inl ha))
    have I4 : Inv X pins σ H2 { s2 with heap := s2.heap.push { cls := .type "slice", data := .fields #[.none, .none, .int (-1) t] } } := I2.kept (t' := s2.toks) fun b ob q => Heap.get?_push_of_some _ q
    obtain ⟨its', r', ht', hz'⟩ := I4.list (.inl (.inl ha))
    have get : wpAny (model X.prog X.w) X.A (getItem (.ref a) (.ref s2.heap.objs.size)) (EP X pins σ Q) X.xe { s2 with heap := s2.heap.push { cls := .type "slice", data := .fields #[.none, .none, .int (-1) t] } } := by
      refine wpAny_getItem_list_slice (s := { s2 with heap := s2.heap.push { cls := .type "slice", data := .fields #[.none, .none, .int (-1) t] } }) ht'.isList (Heap.IsSliceOf.new ..) .none .none (.int (-1) t) (by decide) ?_ (by have := r'.length; rw [List.size_toArray]; omega)
      rw [PySem.W.krv_pick]
      refine ⟨.ref _, _, I4.laid (t' := s2.toks) (o := .lst xs.reverse) (fun b ob q => Heap.get?_push_of_some _ q) (Nat.le_refl _) ?_, rfl, PPost.lst p (I4.hok.fresh (Nat.le_refl _)) rr.reverse⟩
      exact ⟨by rw [List.length_reverse]; exact hz, _, 0, r'.reverse, Heap.get?_push_size _ rfl⟩
    exact tail_any (ops := [.ref a, .ref s2.heap.objs.size]) (T := "list") ht'.isList.typeIs slot_list_getitem.lookup get (by with_unfolding_all rfl)
  | _ => exact p.elim
end
end Eg
end
section
/-! E21: raise -/
namespace Eg
open PySem PySem.Spec L2
open PyProof.Rows hiding St
/-- an own class of exceptions, below ValueError, without own __init__ -/
structure ExF (K : PySem.W.Frag) (mg : Str → Option Value) (x : Str) (C : Addr) : Prop where
  gC : mg x = some (.ref C)
  ex : PySem.W.excIn K C He.veBase "ValueError.__new__" = true
  kp : PySem.W.keepIn K (.ref C) = true
  sub : PySem.W.subIn K (.ref C) (.type "BaseException") = some true
  ty : PySem.W.typeIn K (.ref C) = some (.type "type")
section
variable {c : Cc} {H H1 H2 H' : Hp} {B S S' T : AP} {og og1 og2 og' : Og} {σ σ1 : St} {γ γ1 : Env} {X : Cx} {e a b : Expr} {pos p apos : Pos} {i : Nat} {x : Str} {K : PySem.W.Frag} {C : Addr}
theorem pmk_none (F : ExF X.K X.mg x C) (hg : Gl X x := by rfl) (hdb : (x == ("__debug__" : Str)) = false := by decide) : PMk X (.Call (.Name x p) [] [] pos) (fun σ H Q => Q (.ref C) none H) := by
  intro pins s σ H Q I h
  refine wpAny_Call_Name_kw (ld_glob I hg F.gC ?_ hdb)
  refine PySem.W.callWith_K0 I.kIn F.kp ?_
  show wpAny _ _ (call (.ref C) []) _ _ _
  obtain ⟨bm, N, nm, qn, bs, hdct, sn, sub, ab, col, dd, k0, k1, k2, k3, k5, mN, z1, z2, z3, z4⟩ := exc_obj I.kIn F.ex
  refine wpAny_call_exc_subT PySem.F.excBase_ValueError z4 z1 z2 z3 (fun h' e hm => ?_) (Nat.zero_le _)
  exact mk_of I hm (raises_own F.sub F.ty) h (I.hok.gone hm.new)
def raiseS (e : Xn) : Fn Fl := fun γ => .ex e γ
theorem ps_raise' (G : Good X c) (tk : Takes X c.W) (F : ExF X.K X.mg x C) {pos2 : Pos} (hg : Gl X x := by rfl) (hdb : (x == ("__debug__" : Str)) = false := by decide) : PS X (.Raise (some (.Call (.Name x p) [] [] pos)) none pos2) (tS c (raiseS ⟨x, none⟩)) :=
  PS_imp (ps_raise G.calm tk (pmk_none F hg hdb)) fun D σ H ⟨B, og, γ, E, h⟩ => h _ _ σ H ⟨by rw [← G.mg]; exact F.gC, rfl⟩ ⟨.refl, fun _ z => z, fun _ ⟨_, z⟩ => by cases z⟩ (E.lost (oga := og) (fun _ z => z) .refl (fun _ z => z) E.tb)
end
end Eg
end
section
/-! E22: a lambda without parameters, or with one that has a default; how it is made -/
namespace Eg
open PySem PySem.Spec L2
open PyProof.Rows hiding St

/-- the function object of a lambda; dV: its defaults -/
abbrev lamF (dV : Value) (qual : Str) (params : Arguments) (body : Expr) (scope : Scope) (cl : List (Str × Addr)) (pm cdv ct : Value) : FuncData := { PySem.W.kla_fn "<lambda>" qual params body scope cl pm cdv ct with defaults := dV }
abbrev lamO (dV : Value) (qual : Str) (params : Arguments) (body : Expr) (scope : Scope) (cl : List (Str × Addr)) (pm cdv ct : Value) : Obj := { cls := .type "function", data := .func (lamF dV qual params body scope cl pm cdv ct) }
section
variable {M : Model} {A : Around} {E : Value → Shared → Prop} {s : Shared} {qual : Str} {params : Arguments} {body : Expr} {scope : Scope} {env : PySem.Env} {c P : Addr} {ps : Array Value} {pos : Pos} {fl : Nat} {mg : Str → Option Value} {clos : List (Str × Addr)} {Q : Value → Shared → Prop} {dV : Value}
/-- its code object is new, or stands in the table -/
theorem tail_new (o1 : closureFor scope env = pure clos) (o2 : env.globals = mainGlobals) (o3 : s.heap.Ns mainGlobals mg) (o4 : env.code = .ref c) (o5 : PySem.W.CodeHd s.heap c P) (o6 : s.heap.get? P = some (PySem.W.tabObj ps)) (o7 : TriplesOk ps.toList)
    (o8 : codeAmong pos ps.toList = none) (o9 : mainGlobals ≠ P) (o10 : s.heap.BuiltinsAt mg P)
    (go : ∀ (c' : Addr) (ctv : Value) (h' : Heap) (tk : Tok), Heap.ExtBut P s.heap h' → s.heap.objs.size ≤ c' → c' < h'.objs.size → h'.CodeRec (.ref c') qual → h'.get? P = some (PySem.W.tabObj (ps ++ #[rawInt pos.line, rawInt pos.col, .ref c'])) →
      Q (.ref h'.objs.size) { s with heap := h'.push (lamO dV qual params body scope clos ((mg "__name__").getD .none) (.ref c') ctv), toks := tk }) :
    wpAny M A (makeTail "<lambda>" qual params (.expr body) scope env dV .none none pos fl) Q E s := by
  obtain ⟨bm, ob, b1, b2, _, b3, b4, b5, b6, b7⟩ := o10
  unfold makeTail
  rw [o1, o2]
  refine wpAny_bind (wpAny_pure ?_)
  by_cases hcl : clos.isEmpty = true
  · rw [if_pos hcl]
    refine wpAny_bind (wpAny_pure (wpAny_bind (wpAny_functionCodeX o4 (o5.code o6 o7) (o5.tab o6) o8 fun c' h' tk x1 x2 x3 _ x4 x5 _ => ?_)))
    have g' := o3.extBut x1 o9
    refine wpAny_bind (wpAny_builtinsFor g' b1 b2 (x1 _ _ b3 b4) b5 b6 b7 (wpAny_bind (wpAny_nsGet g' (wpAny_bind (wpAny_pure (wpAny_newObj_type ?_ (by size_fits)))))))
    exact go c' .none h' tk x1 x2 x3 x4 x5.2
  · rw [if_neg hcl]
    refine wpAny_bind (wpAny_newTextTuple ?_)
    have kp : ∀ (ot : Obj) b o, s.heap.get? b = some o → (s.heap.push ot).get? b = some o := fun ot b o e => Heap.get?_push_of_some _ e
    refine wpAny_bind (wpAny_functionCodeX o4 ((o5.keeps (kp _)).code (kp _ _ _ o6) o7) ((o5.keeps (kp _)).tab (kp _ _ _ o6)) o8 fun c' h' tk x1 x2 x3 _ x4 x5 _ => ?_)
    have g' := (o3.push _).extBut x1 o9
    have y1 : Heap.ExtBut P s.heap h' := fun b o nb e => x1 b o nb (kp _ _ _ e)
    refine wpAny_bind (wpAny_builtinsFor g' b1 b2 (y1 _ _ b3 b4) b5 b6 b7 (wpAny_bind (wpAny_nsGet g' (wpAny_bind (wpAny_pure (wpAny_newObj_type ?_ (by size_fits)))))))
    exact go c' _ h' tk y1 (Nat.le_trans (by rw [Heap.size_push]; exact Nat.le_succ _) x2) x3 x4 x5.2
theorem tail_hit {cv : Value} (o1 : closureFor scope env = pure clos) (o2 : env.globals = mainGlobals) (o3 : s.heap.Ns mainGlobals mg) (o4 : env.code = .ref c) (o5 : PySem.W.CodeHd s.heap c P) (o6 : s.heap.get? P = some (PySem.W.tabObj ps)) (o7 : TriplesOk ps.toList)
    (o8 : codeAmong pos ps.toList = some cv) (o10 : s.heap.BuiltinsAt mg P)
    (go : ∀ (ctv : Value) (h' : Heap) (tk : Tok), (∀ b o, s.heap.get? b = some o → h'.get? b = some o) → s.heap.objs.size ≤ h'.objs.size →
      Q (.ref h'.objs.size) { s with heap := h'.push (lamO dV qual params body scope clos ((mg "__name__").getD .none) cv ctv), toks := tk }) :
    wpAny M A (makeTail "<lambda>" qual params (.expr body) scope env dV .none none pos fl) Q E s := by
  obtain ⟨bm, ob, b1, b2, _, b3, b4, b5, b6, b7⟩ := o10
  unfold makeTail
  rw [o1, o2]
  refine wpAny_bind (wpAny_pure ?_)
  by_cases hcl : clos.isEmpty = true
  · rw [if_pos hcl]
    refine wpAny_bind (wpAny_pure (wpAny_bind (wpAny_functionCode_hit o4 (o5.code o6 o7) o8 ?_)))
    refine wpAny_bind (wpAny_builtinsFor o3 b1 b2 b4 b5 b6 b7 (wpAny_bind (wpAny_nsGet o3 (wpAny_bind (wpAny_pure (wpAny_newObj_type ?_ (by size_fits)))))))
    exact go .none s.heap s.toks (fun _ _ e => e) (Nat.le_refl _)
  · rw [if_neg hcl]
    refine wpAny_bind (wpAny_newTextTuple ?_)
    have kp : ∀ (ot : Obj) b o, s.heap.get? b = some o → (s.heap.push ot).get? b = some o := fun ot b o e => Heap.get?_push_of_some _ e
    refine wpAny_bind (wpAny_functionCode_hit o4 ((o5.keeps (kp _)).code (kp _ _ _ o6) o7) o8 ?_)
    refine wpAny_bind (wpAny_builtinsFor (o3.push _) b1 b2 (kp _ _ _ b4) b5 b6 b7 (wpAny_bind (wpAny_nsGet (o3.push _) (wpAny_bind (wpAny_pure (wpAny_newObj_type ?_ (by size_fits)))))))
    exact go _ _ s.toks (kp _) (by rw [Heap.size_push]; exact Nat.le_succ _)
/-- the defaults: none, or a tuple of one int -/
def DvAt (h : Heap) (dV : Value) : List Int → Prop
  | [] => dV = .none
  | n :: _ => ∃ T t, dV = .ref T ∧ h.get? T = some { cls := .type "tuple", data := .seq #[.int n t] }
def DfOf (params : Arguments) (env : PySem.Env) : List Int → Prop
  | [] => defaultsOf params env = ([], [])
  | n :: _ => ∃ k p, defaultsOf params env = ([eval (.Constant (.int n) k p) env], [])
theorem lam_eval {ds : List Int} (hd : DfOf params env ds)
    (go : ∀ (dV : Value) (s0 : Shared), (∀ b o, s.heap.get? b = some o → s0.heap.get? b = some o) → s.heap.objs.size ≤ s0.heap.objs.size → s0.gens = s.gens → s0.os = s.os → s0.drawn = s.drawn → DvAt s0.heap dV ds → (∀ T, dV = .ref T → s.heap.objs.size ≤ T) →
      wpAny M A (makeTail "<lambda>" (env.qual ++ "<lambda>") params (.expr body) scope env dV .none none pos pos.line) Q E s0) :
    wpAny M A (eval (.Lambda params body scope pos) env) Q E s := by
  cases ds with
  | nil =>
    refine PySem.W.kla_eval hd ?_
    rw [makeFunction_eq]
    simp only [List.zip_nil_right, List.filterMap_nil, List.isEmpty_nil, if_true, pure_bind]
    exact go .none s (fun _ _ e => e) (Nat.le_refl _) rfl rfl rfl rfl nofun
  | cons n r =>
    obtain ⟨k, p, hd⟩ := hd
    rw [arm_eval_Lambda, hd]
    show wpAny M A (do let dv ← evalAll [eval (.Constant (.int n) k p) env]; let kdv ← holding dv (evalAllOpt []); makeFunction "<lambda>" (env.qual ++ "<lambda>") params (.expr body) scope env dv kdv [] pos pos.line) Q E s
    refine wpAny_bind (wpAny_evalAll_cons (wpAny_Constant_int (wpAny_evalAll_nil (wpAny_bind (wpAny_holding (wpAny_pure ?_))))))
    rw [makeFunction_eq]
    simp only [List.zip_nil_right, List.filterMap_nil, List.isEmpty_nil, List.isEmpty_cons, Bool.false_eq_true, if_false, if_true, pure_bind]
    refine wpAny_bind (wpAny_newTextTuple ?_)
    refine go _ _ (fun b o e => Heap.get?_push_of_some _ e) (by show s.heap.objs.size ≤ (s.heap.push _).objs.size; rw [Heap.size_push]; exact Nat.le_succ _) rfl rfl rfl ⟨_, _, rfl, Heap.get?_push_size _ rfl⟩ ?_
    intro T hT
    cases hT
    exact Nat.le_refl _
end
theorem DvAt.keeps {h h' : Heap} {dV : Value} {ds : List Int} (d : DvAt h dV ds) (k : ∀ T o, dV = .ref T → h.get? T = some o → h'.get? T = some o) : DvAt h' dV ds := by
  cases ds with
  | nil => exact d
  | cons n r => obtain ⟨T, t, e, q⟩ := d; exact ⟨T, t, e, k T _ e q⟩
section
variable {X : Cx} {pins : List (Addr × Obj)} {σ : St} {H : Hp} {s : Shared} {L : List (Addr × Str)} {c P : Addr} {params : Arguments} {body : Expr} {scope : Scope} {pos : Pos} {E : Value → Shared → Prop} {Q : Value → Shared → Prop} {ds : List Int}
theorem lam_made (I : Inv X pins σ H s) (TB : LamX.TabB X.base X.mg c P) (hcode : X.env.code = .ref c) (hm : (P, X.env.qual ++ "<lambda>") ∈ L) (hu : ∀ p ∈ L, p.1 = P → p.2 = X.env.qual ++ "<lambda>") (hT : LamX.Tabs L H) (hd : DfOf params X.env ds)
    (hfree : ∀ y ∈ scope.names, y.2 = .free → ∃ c, X.env.cells.lookup y.1 = some c)
    (go : ∀ (f c' : Addr) (dV pm ctv : Value) (H1 : Hp) (s' : Shared), Inv X pins σ H1 s' → LamX.ExtN H H1 → (∀ a, H a ≠ none → H1 a ≠ none) → LamX.Tabs L H1 →
      s'.heap.get? f = some (lamO dV (X.env.qual ++ "<lambda>") params body scope (cloFrom X.env.cells scope.names []) pm (.ref c') ctv) → H1 f = none → f ∉ frs X.stack → DvAt s'.heap dV ds → (∀ T, dV = .ref T → H1 T = none ∧ T ∉ frs X.stack) →
      H1 c' = some (LamX.CodeO c' (X.env.qual ++ "<lambda>")) → Q (.ref f) s') :
    wpAny (model X.prog X.w) X.A (eval (.Lambda params body scope pos) X.env) Q E s := by
  obtain ⟨ps, hP, tri, among⟩ := hT _ hm
  have old : s.heap.get? P = some (PySem.W.tabObj ps) := I.hok P _ hP
  have oldT : ∀ T, s.heap.objs.size ≤ T → H T = none := fun T hT => I.hok.fresh hT
  have nofr0 : ∀ f, s.heap.objs.size ≤ f → f ∉ frs X.stack := fun f hf z => by
    rcases List.mem_cons.mp (I.stkSub _ z) with e | e
    · have h1 := I.lt
      rw [← e] at h1
      exact Nat.lt_irrefl _ (Nat.lt_of_lt_of_le h1 hf)
    · exact I.nofs hf e
  refine lam_eval hd fun dV s0 kp sz g os dr dv big => ?_
  have I0 : Inv X pins σ H s0 := by
    obtain ⟨hp, gg, dd, tk, oo⟩ := s0
    have g : gg = s.gens := g
    have os : oo = s.os := os
    have dr : dd = s.drawn := dr
    subst g os dr
    exact I.kept (t' := tk) kp
  have fs0 : ∀ f, s0.heap.objs.size ≤ f → f ∉ frs X.stack := fun f hf => nofr0 f (Nat.le_trans sz hf)
  have tab0 : s0.heap.get? P = some (PySem.W.tabObj ps) := I0.hok P _ hP
  have blt : s0.heap.BuiltinsAt X.mg P := TB.bm.keeps I0.bk
  have ltP : P < s.heap.objs.size := Heap.lt_size old
  cases hc : codeAmong pos ps.toList with
  | some cv =>
    obtain ⟨c', e, hco⟩ := among pos cv hc
    subst e
    refine tail_hit (mg := X.mg) (c := c) (P := P) (ps := ps) (closure_ok hfree) I0.ok.glob (I0.mod.glob.keeps I0.bk) hcode (TB.code.keeps I0.bk) tab0 tri hc blt fun ctv h' tk hx hsz => ?_
    refine go h'.objs.size c' dV ((X.mg "__name__").getD .none) ctv H _ (I0.kept fun b o e => Heap.get?_push_of_some _ (hx b o e)) (LamX.ExtN.refl H) (fun _ z => z) hT (Heap.get?_push_size _ rfl) (I0.hok.fresh hsz) (fs0 _ hsz)
      (dv.keeps fun T o _ e => Heap.get?_push_of_some _ (hx T o e)) (fun T e => ⟨oldT T (big T e), nofr0 T (big T e)⟩) hco
  | none =>
    refine tail_new (mg := X.mg) (c := c) (P := P) (ps := ps) (closure_ok hfree) I0.ok.glob (I0.mod.glob.keeps I0.bk) hcode (TB.code.keeps I0.bk) tab0 tri hc TB.gP blt fun c' ctv h' tk hx hge hlt hrec htb => ?_
    obtain ⟨c2, oc, vs, t, e2, hoc, hdat, hv⟩ := hrec
    cases e2
    have up : s0.heap.objs.size ≤ h'.objs.size := Nat.le_trans hge (Nat.le_of_lt hlt)
    have nC : H c' = none := I0.hok.fresh hge
    have PC : P ≠ c' := fun e => by rw [e, nC] at hP; cases hP
    have I1 := LamX.inv_table (t' := tk) (more := #[rawInt pos.line, rawInt pos.col, .ref c']) (h' := h'.push (lamO dV (X.env.qual ++ "<lambda>") params body scope (cloFrom X.env.cells scope.names []) ((X.mg "__name__").getD .none) (.ref c') ctv)) I0 hP
      (fun b o nb e => Heap.get?_push_of_some _ (hx b o nb e)) (Heap.get?_push_of_some _ htb) hge ⟨oc, vs, t, Heap.get?_push_of_some _ hoc, hdat, hv⟩
    have ext : LamX.ExtN H (upd (upd H P (.tbl (ps ++ #[rawInt pos.line, rawInt pos.col, .ref c']))) c' (LamX.CodeO c' (X.env.qual ++ "<lambda>"))) := fun b o e n => by
      have n1 : b ≠ c' := fun z => by rw [z, nC] at e; cases e
      have n2 : b ≠ P := fun z => by rw [z, hP] at e; cases e; exact n ps rfl
      rw [upd_ne n1, upd_ne n2]
      exact e
    have app : (ps ++ #[rawInt pos.line, rawInt pos.col, .ref c']).toList = ps.toList ++ [rawInt pos.line, rawInt pos.col, .ref c'] := by simp
    refine go h'.objs.size c' dV ((X.mg "__name__").getD .none) ctv _ _ I1 ext (fun a ha => ?_) (fun p hp => ?_) (Heap.get?_push_size _ rfl) ?_ (fs0 _ up) ?_ (fun T e => ?_) upd_same
    · by_cases n1 : a = c'
      · rw [n1, upd_same]; exact nofun
      · rw [upd_ne n1]
        by_cases n2 : a = P
        · rw [n2, upd_same]; exact nofun
        · rw [upd_ne n2]; exact ha
    · by_cases hb : p.1 = P
      · have q2 := hu p hp hb
        rw [q2, hb]
        refine ⟨_, by rw [upd_ne PC, upd_same], by rw [app]; exact PySem.TriplesOk_snoc _ _ _ _ tri, fun p' cv hcv => ?_⟩
        rw [app] at hcv
        rcases LamX.among_app _ tri hcv with z | z
        · obtain ⟨c0, z1, z2⟩ := among p' cv z
          exact ⟨c0, z1, ext _ _ z2 LamX.codeO_ne⟩
        · exact ⟨c', z, upd_same⟩
      · obtain ⟨qs, a1, a2, a3⟩ := hT p hp
        have n1 : p.1 ≠ c' := fun z => by rw [z, nC] at a1; cases a1
        refine ⟨qs, by rw [upd_ne n1, upd_ne hb]; exact a1, a2, fun p' cv hcv => ?_⟩
        obtain ⟨c0, z1, z2⟩ := a3 p' cv hcv
        exact ⟨c0, z1, ext _ _ z2 LamX.codeO_ne⟩
    · have n1 : h'.objs.size ≠ c' := Nat.ne_of_gt hlt
      have n2 : h'.objs.size ≠ P := Nat.ne_of_gt (Nat.lt_of_lt_of_le ltP (Nat.le_trans sz up))
      rw [upd_ne n1, upd_ne n2]
      exact I0.hok.fresh up
    · refine dv.keeps fun T o e q => Heap.get?_push_of_some _ (hx T o (fun z => ?_) q)
      rw [z] at e
      exact Nat.lt_irrefl _ (Nat.lt_of_lt_of_le ltP (big P e))
    · have b1 := big T e
      have n2 : T ≠ P := Nat.ne_of_gt (Nat.lt_of_lt_of_le ltP b1)
      have n1 : T ≠ c' := by
        cases ds with
        | nil => rw [show dV = .none from dv] at e; cases e
        | cons n r =>
          obtain ⟨T', t', e', q⟩ := dv
          rw [e'] at e
          cases e
          exact Nat.ne_of_lt (Nat.lt_of_lt_of_le (Heap.lt_size q) hge)
      rw [upd_ne n1, upd_ne n2]
      exact ⟨oldT T b1, nofr0 T b1⟩
end
end Eg
end
section
/-! E23: how a lambda is called -/
namespace Eg
open PySem PySem.Spec L2
open PyProof.Rows hiding St

/-- the lambda's names: captured ones, globals, a parameter of its own (no name of N) -/
structure LmS (N : List Str) (sc scope : Scope) : Prop where
  kind : scope.kind = .function
  co : scope.isCoroutine = false
  gen : scope.isGenerator = false
  cell : ∀ y ∈ scope.names, y.2 ≠ .cell
  own : ∀ y ∈ scope.names, y.2 = .local → y.1 ∉ N
  free : ∀ y ∈ scope.names, y.2 = .free → sc.names.lookup y.1 = some .cell ∨ sc.names.lookup y.1 = some .free
def lmSB (N : List Str) (sc scope : Scope) : Bool :=
  decide (scope.kind = .function) && (!scope.isCoroutine && (!scope.isGenerator && scope.names.all fun y => !decide (y.2 = .cell) && ((!decide (y.2 = .local) || !decide (y.1 ∈ N)) && (!decide (y.2 = .free) || (decide (sc.names.lookup y.1 = some .cell) || decide (sc.names.lookup y.1 = some .free))))))
theorem lmS_by {N : List Str} {sc scope : Scope} (h : lmSB N sc scope = true) : LmS N sc scope := by
  unfold lmSB at h
  rw [Bool.and_eq_true, Bool.and_eq_true, Bool.and_eq_true] at h
  obtain ⟨h1, h2, h3, h4⟩ := h
  have all := List.all_eq_true.mp h4
  have each : ∀ y ∈ scope.names, y.2 ≠ .cell ∧ (y.2 = .local → y.1 ∉ N) ∧ (y.2 = .free → sc.names.lookup y.1 = some .cell ∨ sc.names.lookup y.1 = some .free) := fun y hy => by
    have q := all y hy
    simp only [Bool.and_eq_true, Bool.or_eq_true, Bool.not_eq_true', decide_eq_true_eq, decide_eq_false_iff_not] at q
    exact ⟨q.1, fun e => q.2.1.resolve_left (fun n => n e), fun e => q.2.2.resolve_left (fun n => n e)⟩
  exact ⟨of_decide_eq_true h1, by simpa using h2, by simpa using h3, fun y hy => (each y hy).1, fun y hy => (each y hy).2.1, fun y hy => (each y hy).2.2⟩
theorem LmS.has {X : Cx} {scope : Scope} (L : LmS X.N X.env.scope scope) (ok : X.Ok) : ∀ y ∈ scope.names, y.2 = .free → ∃ c, X.env.cells.lookup y.1 = some c := fun y hy e => ok.has _ (L.free y hy e)
section
variable {X : Cx} {pins : List (Addr × Obj)} {σ : St} {H HZ : Hp} {s s1 : Shared}
theorem lam_start {A : Around} {outer : List PySem.Env} {E : XK} {scope : Scope} {f c' : Addr} {h₁ : Heap} {tk : Nat} {m : Str → Option Value} (I : Inv X pins σ H s) (L : LmS X.N X.env.scope scope) (e0 : Env0 X.prog X.w X.K X.mg X.base A outer s1 HZ) (hd : A.handled = none)
    (un : Un (frs X.stack) [] H HZ s.heap s1.heap) (hns : h₁.Ns s1.heap.objs.size m) (kp : ∀ b o, s1.heap.get? b = some o → h₁.get? b = some o) :
    Inv (LamX.lamCx X A outer s1 HZ E scope f c') [] σ HZ { s1 with heap := h₁, toks := tk } := by
  have has := L.has I.ok
  have back : ∀ {y c}, (cloFrom X.env.cells scope.names []).lookup y = some c → X.env.cells.lookup y = some c := fun {y c} e => by
    rcases cloFrom_mem (PySem.mem_of_lookup e) with q | ⟨q1, q2⟩
    · cases q
    · obtain ⟨d, hc⟩ := has _ q1 rfl
      have hc : X.env.cells.lookup y = some d := hc
      have : c = d := by rw [q2, hc] <;> rfl
      rw [this]
      exact hc
  have into : ∀ {y}, scope.names.lookup y = some .free → ∃ c, (cloFrom X.env.cells scope.names []).lookup y = some c := fun {y} hl => mem_lookup (cloFrom_has (cells := X.env.cells) (acc := []) (show (y, NameKind.free) ∈ scope.names from PySem.mem_of_lookup hl))
  have keepC : ∀ {c : Addr} {v : Option Value}, H c = none → s.heap.IsCell c v → h₁.IsCell c v := fun {c v} n ⟨o, ho, hd⟩ => by
    obtain ⟨sl, q⟩ := un.any ho n (by simp)
    exact ⟨_, kp _ _ q, hd⟩
  have noEx : ∀ b : Addr, b ∉ (LamX.lamCx X A outer s1 HZ E scope f c').ex := fun b z => absurd (show b ∈ ([] : List Addr) from z) (by simp)
  have okL : (LamX.lamCx X A outer s1 HZ E scope f c').Ok := by
    refine ⟨e0.mod, L.kind, rfl, rfl, Nat.le_refl _, fun y z c e1 e2 => I.ok.inj y z c (back e1) (back e2), fun y hy => ?_, fun y c z _ => ?_, fun _ => hd, Around.frames_deeper e0.frames, .inr ⟨rfl, rfl⟩, fun b z => absurd z (noEx b), e0.bs, e0.bsz, fun b _ _ => noEx b,
      fun b z => absurd z (noEx b), e0.funs, e0.frf⟩
    · have hy : scope.names.lookup y = some .cell ∨ scope.names.lookup y = some .free := hy
      rcases hy with hy | hy
      · exact absurd rfl (L.cell _ (PySem.mem_of_lookup hy))
      · exact into hy
    · cases (show false = true from z)
  refine ⟨okL, rfl, e0.bare, Un.kept kp, ⟨_, hns, fun i y v e1 e2 e3 => ?_⟩, fun y c e => ?_, e0.hok.fresh (Nat.le_refl _), fun y c e => ?_, fun q hq => absurd (show q ∈ ([] : List (Addr × Obj)) ++ [] from hq) (by simp), e0.hok.kept kp, I.len⟩
  · have e3 : Vis scope y := e3
    rcases e3 with k | k | k
    · exact absurd (List.mem_of_getElem? (show X.N[i]? = some y from e1)) (L.own _ (PySem.mem_of_lookup k) rfl)
    · exact absurd rfl (L.cell _ (PySem.mem_of_lookup k))
    · have fr := L.free _ (PySem.mem_of_lookup k) rfl
      obtain ⟨m0, hn, hl⟩ := I.loc
      obtain ⟨w', r, q⟩ := hl i y v e1 e2 (.inr fr)
      obtain ⟨c2, h2⟩ := into k
      refine ⟨w', r, .inr ⟨.inr k, c2, h2, ?_⟩⟩
      have c1 := back h2
      rcases q with ⟨k', _⟩ | ⟨_, c3, e', z⟩
      · have k' : X.env.scope.names.lookup y = some .local := k'
        rcases fr with k2 | k2 <;> (rw [show X.env.scope.names.lookup y = _ from k2] at k'; cases k')
      · rw [c1] at e'
        cases e'
        exact keepC (I.freeC y _ c1) z
  · obtain ⟨w', z⟩ := I.cell y c (back e)
    exact ⟨w', keepC (I.freeC y c (back e)) z⟩
  · obtain ⟨v, o, ho, hd⟩ := I.cell y c (back e)
    exact un.free c o ho (I.freeC y c (back e)) (by simp)
/-- how its parameters are bound when it is called with nothing -/
def BdOf (params : Arguments) (body : Expr) (scope : Scope) (ds : List Int) : Prop := ∀ (dV pm cv ctv : Value) (q : Str) (cl : List (Str × Addr)) (s1 : Shared), DvAt s1.heap dV ds →
  ∃ binds, BindsTo s1 (lamF dV q params body scope cl pm cv ctv) ⟨[], []⟩ binds ∧ ∀ y ∈ binds, scope.names.lookup y.1 = some .local
theorem bdOf_nil {params : Arguments} {body : Expr} {scope : Scope} (h : ∀ (pm cv ctv : Value) (q : Str) (cl : List (Str × Addr)), bindArgs (lamF .none q params body scope cl pm cv ctv) ⟨[], []⟩ = pure []) : BdOf params body scope [] := fun dV pm cv ctv q cl s1 d => by
  cases (show dV = .none from d)
  exact ⟨[], .of_eq (h pm cv ctv q cl), nofun⟩
theorem bdOf_one {params : Arguments} {body : Expr} {scope : Scope} {n : Int} {x : Str} (h : ∀ (T : Addr) (pm cv ctv : Value) (q : Str) (cl : List (Str × Addr)), ∃ k, bindArgs (lamF (.ref T) q params body scope cl pm cv ctv) ⟨[], []⟩ = seqItems? (.ref T) >>= k ∧ ∀ v, k (some #[v]) = pure [(x, v)])
    (hx : scope.names.lookup x = some .local) : BdOf params body scope [n] := fun dV pm cv ctv q cl s1 d => by
  obtain ⟨T, t, rfl, hT⟩ := d
  obtain ⟨k, e1, e2⟩ := h T pm cv ctv q cl
  refine ⟨[(x, .int n t)], fun M A E Q hq => ?_, fun y hy => ?_⟩
  · rw [e1]
    refine wpAny_bind (wpAny_seqItems hT rfl ?_)
    rw [e2]
    exact wpAny_pure hq
  · cases List.mem_singleton.mp hy
    exact hx
theorem lam_act {CXg : CXT} {Ew : XK} {Ng : List Str} {qg : Str} {sg : Scope} {g f c' : Addr} {cdg pm ctv dV : Value} {params : Arguments} {body : Expr} {scope : Scope} {k i : Nat} {a : Str} {pn : List (Addr × Obj)} {xe : Value → Shared → Prop} {W : WX} {tb : XK → TE} {p1 p2 : Pos} {ds : List Int}
    (I : Inv X pins σ H s) (L : LmS X.N X.env.scope scope) (hf : s.heap.get? f = some (lamO dV (X.env.qual ++ "<lambda>") params body scope (cloFrom X.env.cells scope.names []) pm (.ref c') ctv)) (hfn : H f = none) (hfr : f ∉ frs X.stack)
    (hdv : DvAt s.heap dV ds) (hdn : ∀ T, dV = .ref T → H T = none ∧ T ∉ frs X.stack) (hbind : BdOf params body scope ds)
    (tk : Takes ((cxOf CXg X.prog X.w X.K X.mg X.base Ng qg sg g cdg X.A X.stack s H Ew).tr pn xe) W) (hr : Room (k + 1) (X.A.deeper (envOfC qg sg s.heap.objs.size g cdg)))
    (hbody : ∀ (A : Around) (outer : List PySem.Env) (s : Shared) (H : Hp) (E : XK), Room k (A.deeper (LamX.lamEnv X scope s.heap.objs.size f c')) → A.guards = X.A.guards → PE (LamX.lamCx X A outer s H E scope f c') body (tb E))
    (hN : Ng[i]? = some a) (hv : Vis sg a) (hd : (a == ("__debug__" : Str)) = false := by decide) (hcd : (a == ("__classdict__" : Str)) = false := by decide) :
    PE ((cxOf CXg X.prog X.w X.K X.mg X.base Ng qg sg g cdg X.A X.stack s H Ew).tr pn xe) (.Call (.Name a p1) [] [] p2)
      (fun σZ HZ Q => σZ[i]? = some (some (.ref f)) ∧ HZ c' = some (LamX.CodeO c' (X.env.qual ++ "<lambda>")) ∧ tb (fun cls d H' => W cls d σZ H') σ HZ Q) := by
  constructor
  intro pinsZ sZ σZ HZ Q IZ h
  obtain ⟨slot, code, told⟩ := h
  refine wpAny_Call_Name_kw (thn ((pe_var (pos := p1) (i := i) hN hv hd hcd).run pinsZ sZ σZ HZ (fun v H1 => v = .ref f ∧ H1 = HZ) IZ ⟨.ref f, slot, rfl, rfl⟩) ?_)
  rintro u s1 ⟨v, H1, I1, r1, rfl, rfl⟩
  obtain rfl : u = Value.ref f := r1
  have un : Un (frs X.stack) [] H H1 s.heap s1.heap := I1.base
  have stays : ∀ b o, s.heap.get? b = some o → H b = none → b ∉ frs X.stack → s1.heap.get? b = some o := fun b o e n nf => un.keep b o e n nf fun z => nomatch (show b ∈ ([] : List Addr) from z)
  have of1 := stays f _ hf hfn hfr
  have dv1 : DvAt s1.heap dV ds := hdv.keeps fun T o e q => stays T o q (hdn T e).1 (hdn T e).2
  refine PySem.W.callWith_F0 ⟨_, _, _, _, of1⟩ ?_
  obtain ⟨⟨oc, vs, t, hoc, hdc, hvc⟩, _, _⟩ := I1.hok c' _ code
  obtain ⟨binds, hb, hl⟩ := hbind dV pm (.ref c') ctv (X.env.qual ++ "<lambda>") (cloFrom X.env.cells scope.names []) s1 dv1
  have rc : codeAny (model X.prog X.w) (X.A.deeper (envOfC qg sg s.heap.objs.size g cdg)) (.call (.ref f) ⟨[], []⟩) (CR (L2.CX X.prog X.w) (envOfC qg sg s.heap.objs.size g cdg :: X.stack) X.prog X.w H1 s1 Q (fun cls d H' => W cls d σZ H')) s1 := by
    refine PySem.W.kla_callFunE hr.depth of1 rfl L.co L.gen rfl ⟨c', oc, vs, t, rfl, hoc, hdc, hvc⟩ (hb _ _ _ _ ?_)
    refine wpAny_newFunctionEnv L.cell hl (fun h₁ hns hsb => ⟨I1.nolimit.fresh _ hsb, ?_⟩) L.kind
    show codeAny _ _ (.expr body (LamX.lamEnv X scope s1.heap.objs.size f c')) _ _
    have kp : ∀ b o, s1.heap.get? b = some o → h₁.get? b = some o := fun b o e => hsb.extBut b o (Nat.ne_of_lt (Heap.lt_size e)) (Heap.get?_push_of_some _ e)
    have J := lam_start (E := fun cls d H' => W cls d σZ H') (scope := scope) (f := f) (c' := c') (tk := s1.toks + binds.length) I L I1.env0 hr.hd un hns kp
    refine PySem.W.kla_codeExpr (wpAny_mono ((hbody _ _ s1 H1 _ (hr.deeper _) rfl).run [] _ _ H1 Q J told) (fun v s' hq => ?_) fun e s' hq => hq)
    obtain ⟨w', H', J', rv, q⟩ := hq
    exact ⟨w', H', J'.os, J'.bare, J'.base, J'.hok, rv, q⟩
  refine wpAny_call (codeAny_mono rc ?_)
  intro r s' hq
  match r, hq with
  | .error e, hq => exact tk e s' (XE.of_call I1 (fun _ _ _ z => z) hq)
  | .ok (.ret u), hq => exact I1.after hq
  | .ok .next, hq => exact False.elim hq
  | .ok .brk, hq => exact False.elim hq
  | .ok .cont, hq => exact False.elim hq
end
end Eg
end
section
/-! E24: thunks: a lambda handed to a def of one parameter -/
namespace Eg
open PySem PySem.Spec L2
open PyProof.Rows hiding St

/-! ### data without lists and dicts -/
mutual
def noL : D → Bool
  | .list _ => false
  | .dict _ => false
  | .tuple ds => noLs ds
  | _ => true
def noLs : List D → Bool
  | [] => true
  | d :: ds => noL d && noLs ds
end
section
variable {K : PySem.W.Frag} {H H' : Hp} {S S' : AP}
mutual
theorem Rp.any : ∀ (d : D) (v : V), noL d = true → Rp K H S d v → Rp K H S' d v
  | .none, _, _, h => h
  | .bool _, _, _, h => h
  | .int _, _, _, h => h
  | .str _, _, _, h => h
  | .list _, _, n, _ => nomatch n
  | .dict _, _, n, _ => nomatch n
  | .tuple ds, _, n, ⟨a, xs, e, l, r⟩ => ⟨a, xs, e, l, RpA.any ds xs n r⟩
theorem RpA.any : ∀ (ds : List D) (vs : List V), noLs ds = true → RpA K H S ds vs → RpA K H S' ds vs
  | [], _, _, h => h
  | d :: ds, _, n, ⟨v, r, e, h1, h2⟩ => by
    have n := Bool.and_eq_true_iff.mp (show (noL d && noLs ds) = true from n)
    exact ⟨v, r, e, Rp.any d v n.1 h1, RpA.any ds r n.2 h2⟩
end
end

/-- what a thunk gives -/
def thR (r : RE Sl) : R D := match r with
  | .ok (.d x) _ => if noL x = true then .ok x else .bad
  | .ex e _ => .ex e
  | _ => .bad
/-- the thunk in slot i is called -/
def thC (i : Nat) : Fn Sl := fun γ => match γ[i]? with
  | some (.th (.ok d)) => .ok (.d d) γ
  | some (.th (.ex e)) => .ex e γ
  | _ => .bad
/-- what is owned is hidden -/
def hide1 : Sl → Sl
  | .d x => .d x
  | _ => .no
def hideE (γ : Env) : Env := γ.map hide1
/-- the names in l are read alone from now on -/
def frzE : List Nat → Env → Env
  | [], γ => γ
  | i :: l, γ => frzE l (match γ[i]? with
    | some (.w m) => γ.set i (.d m.data)
    | _ => γ)
def Act (X : Cx) (c : Cc) (i : Nat) (a : Str) : Prop := ∀ (pn : List (Addr × Obj)) (xe : Value → Shared → Prop) (W : WX) (p1 p2 : Pos), Takes (X.tr pn xe) W → PE (X.tr pn xe) (.Call (.Name a p1) [] [] p2) (tE { c with W := W } (thC i))
section
variable {c : Cc} {H H1 H2 H' : Hp} {B S S' T : AP} {og og1 og2 og' : Og} {σ σ1 : St} {γ γ1 : Env} {X : Cx} {i : Nat}
theorem EnvR.freezes : ∀ (l : List Nat) {og : Og} {γ : Env}, EnvR c H B og σ γ → ∃ og1, EnvR c H B og1 σ (frzE l γ) ∧ Later og og1 H H
  | [], og, γ, E => ⟨og, E, .refl⟩
  | i :: l, og, γ, E => by
    cases e : γ[i]? with
    | none =>
      obtain ⟨o, E1, l1⟩ := EnvR.freezes l E
      refine ⟨o, ?_, l1⟩
      unfold frzE
      rw [e]
      exact E1
    | some s =>
      cases s with
      | w m =>
        obtain ⟨E0, _⟩ := E.freeze e
        obtain ⟨o, E1, l1⟩ := EnvR.freezes l E0
        refine ⟨o, ?_, Later.trans ⟨.refl, fun _ h => h, fun a z => .inl (Og.at_nil_sub z)⟩ l1⟩
        unfold frzE
        rw [e]
        exact E1
      | _ =>
        obtain ⟨o, E1, l1⟩ := EnvR.freezes l E
        refine ⟨o, ?_, l1⟩
        unfold frzE
        rw [e]
        exact E1
/-- nothing that was tracked has changed -/
theorem EnvR.ext {on : List Addr} (E : EnvR c H B og σ γ) (k : Kp (fun _ => False) H H') (g : ∀ a, H a ≠ none → H' a ≠ none) (tb : LamX.Tabs c.tabs H') (n : ∀ a ∈ on, H a = none) (n' : ∀ a ∈ on, H' a ≠ none) : EnvR c H' (Bx B on) og σ γ := by
  have F : Fr0 H H' (Sx B og) (Sx (Bx B on) og) (fun _ => False) := ⟨k, nofun, fun a z => by
    rcases z with z | z
    · exact (Bx_iff.mp z).imp .inl (n a)
    · exact .inl (.inr z)⟩
  refine ⟨tb, E.len, E.out, E.nd, E.dj, fun i a z b => ?_, fun a b => ?_, fun a o e n t => k a o (E.ent a o e n t) (fun z => z) t, fun a h => g a (E.grow a h), fun j t e => (E.sl j t e).frame F fun _ _ z => z⟩
  · rcases Bx_iff.mp b with b | b
    · exact E.nb i a z b
    · exact (E.mu z).ne (n a b)
  · rcases Bx_iff.mp b with b | b
    · exact g a (E.bl a b)
    · exact n' a b
/-- the context of the lambda's body -/
def lamC (c : Cc) (H : Hp) (E : XK) : Cc := { c with H0 := H, iox := fun _ _ => False, W := fun cls d _ H' => E cls d H' }
theorem EnvR.lam (E : EnvR c H1 B og σ γ) (k : Kp (fun _ => False) H1 H) (g : ∀ a, H1 a ≠ none → H a ≠ none) (tb : LamX.Tabs c.tabs H) {Ew : XK} : EnvR (lamC c H Ew) H (Sx B og) (fun _ => []) σ (hideE γ) := by
  have F : Fr0 H1 H (Sx B og) (Sx (Sx B og) fun _ => []) (fun _ => False) := ⟨k, nofun, fun a z => by
    rcases z with z | ⟨_, z⟩
    · exact .inl z
    · cases z⟩
  refine ⟨tb, by rw [E.len]; unfold hideE; rw [List.length_map], fun _ _ => rfl, fun _ => List.nodup_nil, nofun, nofun, fun a z => g a (E.tracked z), .refl, fun _ z => z, fun j s e => ?_⟩
  unfold hideE at e
  rw [List.getElem?_map] at e
  cases q : γ[j]? with
  | none => rw [q] at e; cases e
  | some s' =>
    rw [q] at e
    have hs := E.sl j s' q
    cases s' with
    | d x => cases e; obtain ⟨_, v, e2, r⟩ := hs; exact ⟨rfl, v, e2, r.frame F⟩
    | _ => cases e; exact rfl
/-- a def of one parameter, at a thunk -/
def runT (more : Nat) (body : Fn Fl) (r : R D) : R Sl := match body (.th r :: List.replicate more .no) with
  | .ok (.rt s) _ => .ok s
  | .ok .nx _ => .ok (.d .none)
  | .ex e _ => .ex e
  | _ => .bad
/-- g(lambda: body); frz: the owned names that the body reads -/
def thkS (mg : R D → R Sl) (frz : List Nat) (ft : Fn Sl) : Fn Sl := fun γ => match mg (thR (ft (hideE (frzE frz γ)))) with
  | .ok s => .ok s (frzE frz γ)
  | .ex e => .ex e (frzE frz γ)
  | .bad => .bad
/-- what the lambda's call does, told by the mirror of its body -/
theorem act_core {f c' : Addr} {q : Str} {σZ : St} {HZ : Hp} {Q : VK} {W : WX} {cG : Cc} {ft : Fn Sl} (hK : cG.K = c.K) (hm : cG.mg = c.mg) (h0 : cG.H0 = H1) (hio : ∀ a, ¬ cG.ios a) (hL : cG.tabs = c.tabs)
    (hth : ∀ v r, cG.th v r → v = .ref f ∧ r = thR (ft (hideE γ))) (E : EnvR c H1 B og σ γ) (hco : H1 c' = some (LamX.CodeO c' q)) (z : tE { cG with W := W } (thC 0) σZ HZ Q) :
    σZ[0]? = some (some (V.ref f)) ∧ HZ c' = some (LamX.CodeO c' q) ∧ tE (lamC c HZ fun cls d H' => W cls d σZ H') ft σ HZ Q := by
  obtain ⟨Bz, ogz, γz, Ez, k⟩ := z
  have kp : Kp (fun _ => False) H1 HZ := by
    have := Ez.ent
    have h0' : ({ cG with W := W } : Cc).H0 = H1 := h0
    rw [h0'] at this
    exact this.mono fun a z => hio a z
  have gr : ∀ a, H1 a ≠ none → HZ a ≠ none := by
    have := Ez.grow
    have h0' : ({ cG with W := W } : Cc).H0 = H1 := h0
    rw [h0'] at this
    exact this
  have tb : LamX.Tabs c.tabs HZ := by
    have := Ez.tb
    have hL' : ({ cG with W := W } : Cc).tabs = c.tabs := hL
    rw [hL'] at this
    exact this
  have EL := E.lam kp gr tb (Ew := fun cls d H' => W cls d σZ H')
  unfold tGat thC at k
  cases e0 : γz[0]? with
  | none => rw [e0] at k; exact k.elim
  | some s0 =>
    rw [e0] at k
    have hv := Ez.val e0
    have hs := Ez.sl 0 s0 e0
    cases s0 with
    | th r =>
      obtain ⟨_, v, e1, e2⟩ := hs
      rw [e1] at hv
      obtain ⟨ev, er⟩ := hth v r e2
      subst ev
      refine ⟨hv, kp _ _ hco (fun z => z) (fun ps e => by unfold LamX.CodeO at e; cases e), Sx B og, fun _ => [], hideE γ, EL, ?_⟩
      unfold tGat
      unfold thR at er
      cases r with
      | bad => exact k.elim
      | ok d =>
        cases eft : ft (hideE γ) with
        | bad => rw [eft] at er; cases er
        | ex x g1 => rw [eft] at er; cases er
        | ok r1 g1 =>
          rw [eft] at er
          cases r1 with
          | d x =>
            dsimp only at er
            by_cases hn : noL x = true
            · rw [if_pos hn] at er
              cases er
              intro v' H' og' on l E' q hno
              have kz : Kp (fun _ => False) HZ H' := l.kp.mono fun a ⟨_, y⟩ => by cases y
              have q1 := q.1.2
              refine k v' H' ogz [] ⟨kz.mono fun _ y => y.elim, l.gr, fun _ y => .inl y⟩ (Ez.ext (on := []) kz l.gr (by rw [show ({ cG with W := W } : Cc).tabs = c.tabs from hL]; exact E'.tb) nofun nofun) ⟨⟨rfl, ?_⟩, nofun⟩ nofun
              show Rp cG.K H' _ _ v'
              rw [hK]
              exact Rp.any _ v' hn q1
            · rw [if_neg hn] at er; cases er
          | _ => cases er
      | ex x =>
        cases eft : ft (hideE γ) with
        | bad => rw [eft] at er; cases er
        | ok r1 g1 =>
          rw [eft] at er
          cases r1 with
          | d y => dsimp only at er; split at er <;> cases er
          | _ => cases er
        | ex y g1 =>
          rw [eft] at er
          cases er
          intro cls dx H' r _ E'
          refine k cls dx H' ⟨by show cG.mg _ = _; rw [hm]; exact r.1, r.2⟩ ⟨(E'.ent.mono fun a ⟨_, y⟩ => y.elim), E'.grow, fun a ⟨_, y⟩ => by cases y⟩ (Ez.lost (oga := fun _ => []) (fun a ⟨_, y⟩ => by cases y) (E'.ent.mono fun a ⟨_, y⟩ => y.elim) E'.grow ?_)
          rw [show ({ cG with W := W } : Cc).tabs = c.tabs from hL]
          exact E'.tb
    | _ => exact k.elim
variable {x a : Str} {g : Addr} {k : Nat} {pg : Arguments} {bg : List Stmt} {sg : Scope} {dV kV doc pm cdv ct oc : Value} {an od : Option Addr} {osl : Array (Option Value)} {Ng : List Str} {params : Arguments} {body : Expr} {scope : Scope} {p lpos pos : Pos} {fb : Fn Fl} {ft : Fn Sl} {ds : List Int} {cc P : Addr} {frz : List Nat}
theorem pe_thunk (G : Good X c) (tk : Takes X c.W) (hm : X.mg x = some (.ref g)) (hk : PySem.W.keepIn X.K (.ref g) = true)
    (lk : X.K.lookup g = some ⟨oc, od, .func (PySem.W.fnOf x x pg bg sg dV kV doc pm an cdv ct), osl⟩) (hcg : PySem.W.codeIn X.K cdv x = true) (hb : Binds X.K (PySem.W.fnOf x x pg bg sg dV kV doc pm an cdv ct) [a] []) (Sg : FnScope Ng [a] sg)
    (TB : LamX.TabB X.base X.mg cc P) (hcode : X.env.code = .ref cc) (hmT : (P, X.env.qual ++ "<lambda>") ∈ c.tabs) (hu : ∀ q ∈ c.tabs, q.1 = P → q.2 = X.env.qual ++ "<lambda>") (hr : Room (k + 2) X.A) (Lm : LmS X.N X.env.scope scope) (hd : DfOf params X.env ds) (hbd : BdOf params body scope ds)
    (hgb : ∀ (A : Around) (outer : List PySem.Env) (s : Shared) (H : Hp) (E : XK) (cG : Cc), cG.tabs = c.tabs → Good (cxOf (L2.CX X.prog X.w) X.prog X.w X.K X.mg X.base Ng x sg g cdv A outer s H E) cG → Room (k + 1) (A.deeper (envOfC x sg s.heap.objs.size g cdv)) →
      Takes (cxOf (L2.CX X.prog X.w) X.prog X.w X.K X.mg X.base Ng x sg g cdv A outer s H E) cG.W → Act (cxOf (L2.CX X.prog X.w) X.prog X.w X.K X.mg X.base Ng x sg g cdv A outer s H E) cG 0 a →
      PSs (cxOf (L2.CX X.prog X.w) X.prog X.w X.K X.mg X.base Ng x sg g cdv A outer s H E) bg (tS cG fb))
    (hbody : ∀ (A : Around) (outer : List PySem.Env) (s : Shared) (H : Hp) (E : XK) (f c' : Addr) (cL : Cc), cL.K = c.K → cL.mg = c.mg → cL.tabs = c.tabs → Good (LamX.lamCx X A outer s H E scope f c') cL → Room k (A.deeper (LamX.lamEnv X scope s.heap.objs.size f c')) →
      Takes (LamX.lamCx X A outer s H E scope f c') cL.W → PE (LamX.lamCx X A outer s H E scope f c') body (tE cL ft))
    (hNg : Ng[0]? = some a := by rfl) (hva : Vis sg a := by exact Or.inl rfl) (hg : Gl X x := by rfl) (hdb : (x == ("__debug__" : Str)) = false := by decide) (hda : (a == ("__debug__" : Str)) = false := by decide) (hca : (a == ("__classdict__" : Str)) = false := by decide) :
    PE X (.Call (.Name x p) [.Lambda params body scope lpos] [] pos) (tE c (thkS (runT (Ng.length - 1) fb) frz ft)) := by
  constructor
  intro pins s σ H Q I q
  obtain ⟨B, og, γ, E, q⟩ := q
  obtain ⟨og1, E1, l1⟩ := E.freezes frz
  unfold tGat thkS at q
  generalize frzE frz γ = γ1 at q E1
  refine wpAny_Call_Name_kw (ld_glob I hg hm ?_ hdb)
  refine PySem.W.callWith_K (h₀ := X.base) I.ok.mod.kin hk ?_ (by rfl) (by rfl)
  show wpAny _ _ (spliced ((false, eval (.Lambda params body scope lpos) X.env) :: backTo pos (starEach [] X.env))) _ _ s
  refine Calls.spliced_cons (lam_made I TB hcode hmT hu E1.tb hd (Lm.has I.ok) ?_)
  intro f c' dVl pml ctv H1 s' I1 eN gr T1 hf hfn hfr hdv hdn hco
  refine Calls.spliced_nil ⟨I1.kIn, ?_⟩
  have kp1 : Kp (fun _ => False) H H1 := fun b o e _ t => eN b o e t
  have E2 : EnvR c H1 B og1 σ γ1 := E1.ext (on := []) kp1 gr T1 nofun nofun
  have l2 : Later og og1 H H1 := l1.trans ⟨kp1.mono fun _ z => z.elim, gr, fun _ z => .inl z⟩
  have start : ∀ {th : V → R D → Prop}, th (.ref f) (thR (ft (hideE γ1))) → EnvR (⟨c.K, c.mg, H1, adrOf [.ref f], fun _ _ => False, fun cls d _ H' => c.W cls d σ H', th, c.tabs⟩ : Cc) H1 (Sx B og1) (fun _ => []) (L2.start Ng [.ref f]) (.th (thR (ft (hideE γ1))) :: List.replicate (Ng.length - 1) .no) := fun {th} ht => by
    refine ⟨T1, ?_, fun _ _ => rfl, fun _ => List.nodup_nil, nofun, nofun, fun a z => E2.tracked z, .refl, fun _ z => z, fun j t e => ?_⟩
    · unfold L2.start
      simp
    · cases j with
      | zero => cases e; exact ⟨rfl, _, rfl, ht⟩
      | succ j =>
        rw [List.getElem?_cons_succ, List.getElem?_replicate] at e
        split at e
        · cases e; exact rfl
        · cases e
  have fin : ∀ {r : Sl} {v : V} {H' : Hp} {og' : Og} {on : List Addr} {σ' : St} {γ' : Env} {th : V → R D → Prop},
      (∀ v H' og' on, Later og og' H H' → EnvR c H' (Bx B on) og' σ γ1 → relE c H' (Sx B og') σ r v on → (∀ a ∈ on, H a = none) → Q v H') →
      EnvR (⟨c.K, c.mg, H1, adrOf [.ref f], fun _ _ => False, fun cls d _ H' => c.W cls d σ H', th, c.tabs⟩ : Cc) H' (Bx (Sx B og1) on) og' σ' γ' → VRK c.K H' (Sx (Sx B og1) og') r v on → (∀ a ∈ on, ¬ Sx (Sx B og1) og' a ∧ H1 a = none) → Q v H' :=
    fun {r v H' og' on σ' γ' th} k E' vr hn => by
      have kp : Kp (fun _ => False) H1 H' := Kp.mono (T := _) E'.ent fun a ⟨_, y⟩ => y
      have sub : ∀ a, Sx B og1 a → Sx (Sx B og1) og' a := fun a z => .inl z
      refine k v H' og1 on (l2.trans ⟨kp.mono fun _ z => z.elim, E'.grow, fun _ z => .inl z⟩) (E2.ext kp E'.grow E'.tb (fun a ha => (hn a ha).2) fun a ha => VRK.there vr ha) ⟨VRK.frame ⟨.refl, nofun, fun a z => .inl (sub a z)⟩ vr, fun a ha z => (hn a ha).1 (sub a z)⟩ fun a ha => ?_
      have := (hn a ha).2
      cases e : H a with
      | none => rfl
      | some o => exact absurd this (gr a (by rw [e]; exact nofun))
  have rc : codeAny (model X.prog X.w) X.A (.call (.ref g) ⟨[.ref f], []⟩) (CR (L2.CX X.prog X.w) X.stack X.prog X.w H1 s' Q (fun cls d H' => c.W cls d σ H')) s' := by
    refine run_body (N := Ng) (ps := [a]) (us := [.ref f]) (vs := [.ref f]) lk hcg Sg hr I1.env0 (hb s' [.ref f] I1.kIn rfl) (.cons rfl .nil) rfl fun hr' => ?_
    refine ⟨_, hgb X.A X.stack s' H1 _ ⟨c.K, c.mg, H1, adrOf [.ref f], fun _ _ => False, fun cls d _ H' => c.W cls d σ H', fun v r => v = .ref f ∧ r = thR (ft (hideE γ1)), c.tabs⟩ rfl (Good.start Sg G.k.symm G.mg.symm G.gd hr') hr' (L2.takes_of rfl rfl rfl rfl) ?_, ?_⟩
    · intro pn xe W p1 p2 tkW
      have act := lam_act (tb := fun E σ H Q => tE (lamC c H E) ft σ H Q) (ds := ds) I1 Lm hf hfn hfr hdv hdn hbd tkW hr' (fun A outer s H E hr2 gds => ⟨fun pins s2 σ2 H2 Q2 I2 q2 => (hbody A outer s H E f c' (lamC c H2 E) rfl rfl rfl
          ⟨⟨G.k, G.mg, by have := hr2.un; show (A.deeper (LamX.lamEnv X scope s.heap.objs.size f c')).units + 120 < cLine; omega, by show A.guards = some []; rw [gds]; exact G.gd, G.nd⟩, rfl⟩ hr2 (L2.takes_of rfl rfl rfl rfl)).run pins s2 σ2 H2 Q2 I2 q2⟩) hNg hva hda hca (p1 := p1) (p2 := p2)
      exact PE_imp act fun σZ HZ Qz z => act_core (c := c) (f := f) (ft := ft) (cG := ⟨c.K, c.mg, H1, adrOf [.ref f], fun _ _ => False, fun cls d _ H' => c.W cls d σ H', fun v r => v = .ref f ∧ r = thR (ft (hideE γ1)), c.tabs⟩) rfl rfl rfl (fun a ⟨_, y⟩ => y) rfl (fun v r h => h) E2 hco z
    · refine ⟨Sx B og1, fun _ => [], _, start ⟨rfl, rfl⟩, ?_⟩
      unfold runT at q
      unfold tSat
      generalize fb (.th (thR (ft (hideE γ1))) :: List.replicate (Ng.length - 1) .no) = z at q ⊢
      cases z with
      | bad => exact q.elim
      | ex e γ' =>
        intro cls dx σ' H' r _ E'
        have kp2 : Kp (fun _ => False) H H' := fun b o e n t => (Kp.mono (T := _) E'.ent fun a ⟨_, y⟩ => y : Kp (fun _ => False) H1 H') b o (kp1 b o e (fun z => z) t) (fun z => z) t
        have gr2 : ∀ b, H b ≠ none → H' b ≠ none := fun b n => E'.grow b (gr b n)
        exact q cls dx H' r ⟨kp2.mono fun _ z => z.elim, gr2, fun a ⟨_, y⟩ => by cases y⟩ (E1.lost (oga := og1) (fun _ z => z) (kp2.mono fun _ z => z.elim) gr2 E'.tb)
      | ok fl γ' =>
        cases fl with
        | bk => exact (show False from q).elim
        | ct => exact (show False from q).elim
        | nx => exact fun σ' H' og' l E' => fin (on := []) q E' ⟨rfl, rfl⟩ nofun
        | rt r => exact fun v σ' H' og' on l E' vr hn => fin q E' vr hn
  refine wpAny_call (codeAny_mono rc ?_)
  intro r s2 hq
  match r, hq with
  | .error e, hq => exact tk e s2 (XE.of_call I1 (fun _ _ _ z => z) hq)
  | .ok (.ret u), hq => exact I1.after hq
  | .ok .next, hq => exact False.elim hq
  | .ok .brk, hq => exact False.elim hq
  | .ok .cont, hq => exact False.elim hq
end
end Eg
end
section
/-! E25: try, except .. as -/
namespace Eg
open PySem PySem.Spec L2
open PyProof.Rows hiding St

def dropTh1 : Sl → Sl
  | .th _ => .no
  | s => s
def dropTh (γ : Env) : Env := γ.map dropTh1
/-- the class test of an except clause -/
abbrev Tst := Xn → Option Bool
def backS (i : Nat) (r : RE Fl) : RE Fl := match r with
  | .ok fl γ2 => .ok fl ((dropTh γ2).set i .no)
  | _ => .bad
def tryS (i : Nat) (tst : Tst) (fb fs : Fn Fl) : Fn Fl := fun γ => match fb γ with
  | .ok fl γ' => .ok fl γ'
  | .ex e γ' => match tst e with
    | some true => if i < γ'.length then backS i (fs ((dropTh (lose γ')).set i (.th (.ex e)))) else .bad
    | some false => .ex e γ'
    | none => .bad
  | .bad => .bad
section
variable {c : Cc} {H H1 H2 H' : Hp} {B S S' T : AP} {og og1 og2 og' : Og} {σ σ1 : St} {γ γ1 : Env} {X : Cx} {i : Nat}
theorem EnvR.noTh {th' : V → R D → Prop} {W' : WX} (E : EnvR c H B og σ γ) : EnvR { c with th := th', W := W' } H B og σ (dropTh γ) := by
  refine ⟨E.tb, by rw [E.len]; unfold dropTh; rw [List.length_map], fun j hj => E.out j (by unfold dropTh at hj; rw [List.length_map] at hj; exact hj), E.nd, E.dj, E.nb, E.bl, E.ent, E.grow, fun j s e => ?_⟩
  unfold dropTh at e
  rw [List.getElem?_map] at e
  cases q : γ[j]? with
  | none => rw [q] at e; cases e
  | some s' =>
    rw [q] at e
    have hs := E.sl j s' q
    cases s' with
    | th r => cases e; exact hs.1
    | no => cases e; exact hs
    | d x => cases e; exact hs
    | w m => cases e; exact hs
    | io m => cases e; exact hs
    | scr ns => cases e; exact hs
theorem EnvR.putTh (E : EnvR c H B og σ γ) {v : V} {r : R D} (hi : i < γ.length) (h : c.th v r) : EnvR c H B (og.at i []) (σ.set i (some v)) (γ.set i (.th r)) :=
  E.put (B := B) hi (fun _ z => z) .refl (fun _ z => z) List.nodup_nil nofun (fun _ _ _ => .inl rfl) id fun _ => ⟨rfl, v, rfl, h⟩
theorem EnvR.putNo (E : EnvR c H B og σ γ) (hi : i < γ.length) : EnvR c H B (og.at i []) (σ.set i none) (γ.set i .no) :=
  E.put (B := B) hi (fun _ z => z) .refl (fun _ z => z) List.nodup_nil nofun (fun _ _ _ => .inl rfl) id fun _ => rfl
theorem Later.at_nil' {og og' : Og} {H H' : Hp} (l : Later og og' H H') {i : Nat} : Later og (og'.at i []) H H' := ⟨l.kp, l.gr, fun a z => l.sub a (Og.at_nil_sub z)⟩
variable {x n : Str} {cv : Value} {body suite : List Stmt} {b₀ : Stmt} {np pos pos' : Pos} {tst : Tst} {fb fs : Fn Fl}
/-- what the suite's context must say of the exception at a -/
structure SuC (c cS : Cc) (a : Addr) (e : Xn) : Prop where
  K : cS.K = c.K
  mg : cS.mg = c.mg
  tabs : cS.tabs = c.tabs
  th : ∀ v r, cS.th v r → v = .ref a ∧ r = .ex e
theorem ps_tryAs (G : Good X c) (tk : Takes X c.W) (hs : X.stack = X.env :: X.outer) (hf : X.env.frame = some X.env.locals) (hi : X.N[i]? = some n) (hln : X.env.kindOf n = some .local) (hc : Names X x cv)
    (ht : ∀ e b cls, tst e = some b → c.mg e.cls = some cls → PySem.W.exmOne X.K cls cv = some b)
    (hb : ∀ (W : WX) (pn : List (Addr × Obj)) (xe : Value → Shared → Prop), Takes (X.tr pn xe) W → PassesOwn (model X.prog X.w) X.A X.env xe → PSs (X.tr pn xe) body (tS { c with W := W } fb))
    (hsu : ∀ (a : Addr) (oe : Obj) (cls : Value) (d : Option Addr) (pn : List (Addr × Obj)) (e : Xn) (cS : Cc), Zc cls d oe → (∃ vs, oe.data = .fields vs) → c.mg e.cls = some cls → (e.arg = none → d = none) → SuC c cS a e → PSs (X.suite a ((a, oe) :: pn)) (b₀ :: suite) (tS cS fs)) :
    PS X (.Try body [.ExceptHandler (some (.Name x np)) (some n) (b₀ :: suite) pos'] [] [] pos) (tS c (tryS i tst fb fs)) := by
  refine PS_imp (ps_try_as hs hf G.nd hi hln hc tk (tb := fun W => tS { c with W := W } fb)
    (ts := fun a cls d D σ H => ∃ e cS, c.mg e.cls = some cls ∧ (e.arg = none → d = none) ∧ SuC c cS a e ∧ tS cS fs D σ H) hb fun a oe cls d pn hz hd => ?_) fun D σ H q => ?_
  · refine ⟨fun pins s σ H D I ⟨e, cS, h1, h2, h3, h4⟩ => (hsu a oe cls d pn e cS hz hd h1 h2 h3).run pins s σ H D I h4⟩
  · obtain ⟨B, og, γ, E, q⟩ := q
    refine ⟨B, og, γ, E.wish, ?_⟩
    unfold tSat tryS at q
    unfold tSat
    cases e1 : fb γ with
    | bad => rw [e1] at q; exact q
    | ok fl γ' =>
      rw [e1] at q
      cases fl with
      | nx => exact fun σ' H' og' l E' => q σ' H' og' l (E'.wish (W := c.W))
      | bk => exact fun σ' H' og' l E' => q σ' H' og' l (E'.wish (W := c.W))
      | ct => exact fun σ' H' og' l E' => q σ' H' og' l (E'.wish (W := c.W))
      | rt r => exact fun v σ' H' og' on l E' vr hn => q v σ' H' og' on l (E'.wish (W := c.W)) vr hn
    | ex e γ' =>
      rw [e1] at q
      intro cls dx σ' H' r l0 E'
      have hmg : c.mg e.cls = some cls := r.1
      dsimp only at q
      cases e2 : tst e with
      | none => rw [e2] at q; exact q.elim
      | some b =>
        rw [e2] at q
        refine ⟨b, ht e b cls e2 hmg, fun hb a ha => ?_, fun hb => ?_⟩
        · subst hb
          dsimp only at q
          have r2 := r.2
          refine ⟨e, { c with th := fun v r => v = .ref a ∧ r = .ex e, W := fun _ _ _ _ => False }, hmg, fun h => ?_, ⟨rfl, rfl, rfl, fun v r h => h⟩, ?_⟩
          · rw [h] at r2
            exact r2
          · by_cases hil : i < γ'.length
            case neg => rw [if_neg hil] at q; exact q.elim
            rw [if_pos hil] at q
            have hil2 : i < (dropTh (lose γ')).length := by unfold dropTh lose; rw [List.length_map, List.length_map]; exact hil
            have E1 := EnvR.noTh (th' := fun v r => v = V.ref a ∧ r = R.ex e) (W' := fun _ _ _ _ => False) E'
            have E2 := EnvR.putTh (c := { c with th := fun v r => v = V.ref a ∧ r = R.ex e, W := fun _ _ _ _ => False }) (v := .ref a) (r := .ex e) E1 hil2 ⟨rfl, rfl⟩
            have l1 : Later og (Og.at (fun _ => []) i []) H H' := l0.at_nil'
            refine ⟨B, _, _, E2, ?_⟩
            unfold tSat
            unfold backS at q
            cases e3 : fs ((dropTh (lose γ')).set i (.th (.ex e))) with
            | bad => rw [e3] at q; exact q.elim
            | ex z γ2 => rw [e3] at q; exact q.elim
            | ok fl γ2 =>
              rw [e3] at q
              have back : ∀ {B1 : AP} {σ2 : St} {H2 : Hp} {og2 : Og}, EnvR { c with th := fun v r => v = V.ref a ∧ r = R.ex e, W := fun _ _ _ _ => False } H2 B1 og2 σ2 γ2 → EnvR c H2 B1 (og2.at i []) (σ2.set i none) ((dropTh γ2).set i .no) := fun {B1 σ2 H2 og2} E3 => by
                have E4 : EnvR c H2 B1 og2 σ2 (dropTh γ2) := EnvR.noTh (c := { c with th := fun v r => v = V.ref a ∧ r = R.ex e, W := fun _ _ _ _ => False }) (th' := c.th) (W' := c.W) E3
                by_cases h : i < (dropTh γ2).length
                · exact E4.putNo h
                · have o : og2 i = [] := E4.out i (by omega)
                  have o2 : og2.at i [] = og2 := by rw [← o]; exact Og.at_self
                  have h1 : (dropTh γ2).set i .no = dropTh γ2 := List.set_eq_of_length_le (by omega)
                  have h2 : σ2.set i none = σ2 := List.set_eq_of_length_le (by rw [E4.len]; omega)
                  rw [o2, h1, h2]
                  exact E4
              cases fl with
              | nx => exact fun σ2 H2 og2 l2 E3 => q _ H2 _ (l1.trans l2).at_nil' (back E3)
              | bk => exact fun σ2 H2 og2 l2 E3 => q _ H2 _ (l1.trans l2).at_nil' (back E3)
              | ct => exact fun σ2 H2 og2 l2 E3 => q _ H2 _ (l1.trans l2).at_nil' (back E3)
              | rt r =>
                intro v σ2 H2 og2 on l2 E3 vr hn
                have sub : ∀ a, Sx B (og2.at i []) a → Sx B og2 a := fun a z => z.imp id Og.at_nil_sub
                exact q v _ H2 _ on (l1.trans l2).at_nil' (back E3) (VRK.frame (c := c) ⟨.refl, nofun, fun a z => .inl (sub a z)⟩ vr) fun a ha => ⟨fun z => (hn a ha).1 (sub a z), (hn a ha).2⟩
        · subst hb
          exact q cls dx σ' H' r l0 (E'.wish (W := c.W))
end
end Eg
end
section
/-! E26: in a try, in an except suite -/
namespace Eg
open PySem PySem.Spec L2
open PyProof.Rows hiding St
section
variable {c cS : Cc} {H H1 H2 H' : Hp} {B S S' T : AP} {og og1 og2 og' : Og} {σ σ1 : St} {γ γ1 : Env} {X : Cx} {i : Nat} {a : Addr} {oe : Obj} {cls : Value} {d : Option Addr} {pn : List (Addr × Obj)} {e : Xn}
theorem Good.tr (G : Good X c) {pn : List (Addr × Obj)} {xe : Value → Shared → Prop} {W : WX} : Good (X.tr pn xe) { c with W := W } := ⟨⟨G.k, G.mg, G.un, G.gd, G.nd⟩, G.calm⟩
theorem Base.suite (G : Base X c) (s : SuC c cS a e) {pn : List (Addr × Obj)} : Base (X.suite a pn) cS := ⟨G.k.trans s.K.symm, G.mg.trans s.mg.symm, G.un, G.gd, G.nd⟩
theorem Act.tr {x : Str} (h : Act X c i x) {pn : List (Addr × Obj)} {xe : Value → Shared → Prop} {W : WX} : Act (X.tr pn xe) { c with W := W } i x := fun pn xe W p1 p2 tk => h pn xe W p1 p2 tk
/-- the thunk is called -/
theorem pe_act' {x : Str} {p1 p2 : Pos} (h : Act X c i x) {pn : List (Addr × Obj)} {xe : Value → Shared → Prop} {W : WX} (tk : Takes (X.tr pn xe) W) : PE (X.tr pn xe) (.Call (.Name x p1) [] [] p2) (tE { c with W := W } (thC i)) := h pn xe W p1 p2 tk
/-- isinstance(the error, C) -/
def isE (i : Nat) (tst : Tst) : Fn Sl := fun γ => match γ[i]? with
  | some (.th (.ex e)) => match tst e with
    | some b => .ok (.d (.bool b)) γ
    | none => .bad
  | _ => .bad
theorem pe_isE {n x : Str} {C : Value} {tst : Tst} {p p1 p2 pos : Pos} {u : V} (hz : Zc cls d oe) (hf : ∃ vs, oe.data = .fields vs) (hmg : c.mg e.cls = some cls) (hd : e.arg = none → d = none) (su : SuC c cS a e)
    (ht : ∀ e b cls, tst e = some b → c.mg e.cls = some cls → e.arg = none ∧ ∃ D, cls = .ref D ∧ ExcC X.K D ∧ PySem.W.kitOne X.K (.ref D) C = some b)
    (hN : X.N[i]? = some n) (hv : Vis X.env.scope n) (hm : X.mg "isinstance" = none) (hC : PE (X.suite a ((a, oe) :: pn)) (.Name x p2) (tC u)) (hu : RelV u C) (huC : ∀ w, RelV u w → w = C) (hg : Gl X "isinstance" := by rfl)
    (hdb : (n == ("__debug__" : Str)) = false := by decide) (hcd : (n == ("__classdict__" : Str)) = false := by decide)
    (hs : starEach [.Name n p1, .Name x p2] X.env = (false, eval (.Name n p1) X.env) :: starEach [.Name x p2] X.env := by rfl) (hpl : (backTo pos (starEach [.Name x p2] X.env)).any (·.1) = false := by rfl) :
    PE (X.suite a ((a, oe) :: pn)) (.Call (.Name "isinstance" p) [.Name n p1, .Name x p2] [] pos) (tE cS (isE i tst)) := by
  constructor
  intro pins s σ H Q I q
  obtain ⟨B, og, γ, E, q⟩ := q
  unfold tGat isE at q
  cases e0 : γ[i]? with
  | none => rw [e0] at q; exact q.elim
  | some sl =>
    rw [e0] at q
    have hval := E.val e0
    have hsl := E.sl i sl e0
    cases sl with
    | th r =>
      obtain ⟨_, v, e1, e2⟩ := hsl
      rw [e1] at hval
      obtain ⟨ev, er⟩ := su.th v r e2
      subst ev er
      dsimp only at q
      cases e3 : tst e with
      | none => rw [e3] at q; exact q.elim
      | some b =>
        rw [e3] at q
        obtain ⟨ea, Dc, ec, hx, hk⟩ := ht e b cls e3 hmg
        subst ec
        have ed := hd ea
        subst ed
        have pe := pe_callB (X := X.suite a ((a, oe) :: pn)) (call_isE hx hz hf) hg hm PyProof.Rows.boot_isinstance (pa_cons (pe_var (i := i) hN hv hdb hcd) (pa_cons hC pa_nil) hs) (p := p) (pos := pos) (he := hs) (hpl := hpl)
        exact pe.run pins s σ H Q I ⟨_, hval, u, C, b, rfl, huC, hk, q (.bl b) H og [] .refl E ⟨⟨rfl, rfl⟩, nofun⟩ nofun⟩
    | _ => exact q.elim
end
end Eg
end
section
/-! E27: the law's end -/
namespace Eg
open PySem PySem.Spec L2
open PyProof.Rows hiding St

section
variable {P : Program} {w : World} {K : PySem.W.Frag} {mg mb : Str → Option Value} {k : Nat} {fa a : Addr} {cs : List (Addr × Addr)} {fd : FuncData} {x : Str} {sp : Sp} {s : Shared} {vs : List Value} {ns : List Int}
/-- what is tracked at the law's start: the script (if it is no object of the module), the tables of code objects -/
structure Start (K : PySem.W.Frag) (s : Shared) (cs : List (Addr × Addr)) (a : Addr) (vs : List Value) (ns : List Int) (H : Hp) : Prop where
  tab : ∀ q ∈ cs, H q.2 = some (.tbl #[])
  seq : SqL K H a (ns.map V.int)
  only : ∀ b u, H b = some u → (b = a ∧ K.lookup a = none ∧ u = .frz { cls := .type "list", data := .seq vs.toArray } (.lst (ns.map V.int))) ∨ (b ∈ cs.map (·.2) ∧ u = .tbl #[])
theorem start_heap (KX : K.In s.heap) (hT : ∀ q ∈ cs, s.heap.get? q.2 = some { cls := .none, data := .fields #[] }) (ha : s.heap.get? a = some { cls := .type "list", data := .seq vs.toArray }) (hi : IntsAre vs ns) (hl : ns.length ≤ sizeLine) : ∃ H, Start K s cs a vs ns H := by
  have na : a ∉ cs.map (·.2) := fun z => by
    obtain ⟨q, hq, e⟩ := List.mem_map.mp z
    have t := hT q hq
    rw [e, ha] at t
    have t' : Data.seq vs.toArray _ = Data.fields #[] := congrArg Obj.data (Option.some.inj t)
    cases t'
  have mem : ∀ q ∈ cs, q.2 ∈ cs.map (·.2) := fun q hq => List.mem_map.mpr ⟨q, hq, rfl⟩
  have vals := vals_ints hi
  by_cases hk : K.lookup a = none
  · refine ⟨fun b => if b = a then some (.frz { cls := .type "list", data := .seq vs.toArray } (.lst (ns.map V.int))) else if b ∈ cs.map (·.2) then some (.tbl #[]) else none, fun q hq => ?_, .inl (.inr ⟨_, if_pos rfl⟩), fun b u e => ?_⟩
    · have n : q.2 ≠ a := fun z => na (z ▸ mem q hq)
      show (if q.2 = a then _ else _) = _
      rw [if_neg n, if_pos (mem q hq)]
    · by_cases e1 : b = a
      · rw [if_pos e1] at e
        cases e
        exact .inl ⟨e1, hk, rfl⟩
      · rw [if_neg e1] at e
        by_cases e2 : b ∈ cs.map (·.2)
        · rw [if_pos e2] at e
          cases e
          exact .inr ⟨e2, rfl⟩
        · rw [if_neg e2] at e; cases e
  · obtain ⟨o, ho⟩ := Option.ne_none_iff_exists'.mp hk
    have eo := KX a o ho
    rw [ha] at eo
    cases eo
    refine ⟨fun b => if b ∈ cs.map (·.2) then some (.tbl #[]) else none, fun q hq => if_pos (mem q hq), .inr ⟨_, vs.toArray, _, ho, rfl, rfl, rfl, ?_, by simpa using vals⟩, fun b u e => ?_⟩
    · rw [List.size_toArray, hi.length]
      exact hl
    · by_cases e2 : b ∈ cs.map (·.2)
      · rw [if_pos e2] at e
        cases e
        exact .inr ⟨e2, rfl⟩
      · rw [if_neg e2] at e; cases e
theorem law_callG (KX : K.In s.heap) (hns : s.heap.Ns mainGlobals mg) (hbn : s.heap.Ns builtinsNs mb) (hbb : ∀ x : Str, x ≠ "__name__" → mb x = bootBuiltins x) (hlim : s.heap.NoLimit) (hg : s.gens = #[])
    (hT : ∀ q ∈ cs, s.heap.get? q.2 = some { cls := .none, data := .fields #[] }) (nT : ∀ q ∈ cs, K.lookup q.2 = none) (hC : ∀ q ∈ cs, PySem.W.CodeHd s.heap q.1 q.2)
    (hbm : ∃ (bm : Addr) (ob : Obj), mg "__builtins__" = some (.ref bm) ∧ bm ≠ builtinsNs ∧ s.heap.get? bm = some ob ∧ ob.cls = .type "module" ∧ ob.dict = some builtinsNs ∧ ob.data = .plain)
    (ha : s.heap.get? a = some { cls := .type "list", data := .seq vs.toArray }) (hi : IntsAre vs ns) (hl : ns.length ≤ sizeLine) (room : Room k callerA)
    (F : ∀ base : Heap, K.In base → base.Ns mainGlobals mg → (∀ q ∈ cs, LamX.TabB base mg q.1 q.2) → FnG P w K mg base k fa fd [x] sp) (hbind : ∀ (s : Shared) (u : Value), BindsTo s fd ⟨[u], []⟩ [(x, u)])
    (hsp : ∀ H : Hp, (∀ q ∈ cs, H q.2 = some (.tbl #[])) → SqL K H a (ns.map V.int) → sp [.ref a] H (fun v _ => v = .bl true) fun _ _ _ => False) :
    codeAny (model P w) callerA (.call (.ref fa) ⟨[.ref a], []⟩) (fun r s' => r = .ok (.ret (.bool true)) ∧ OldK s.heap s'.heap ∧ s'.os = s.os ∧ AllBare s'.gens) s := by
  obtain ⟨H, st⟩ := start_heap (cs := cs) (a := a) KX hT ha hi hl
  have vals := vals_ints hi
  have tabAt : ∀ b, b ∈ cs.map (·.2) → s.heap.get? b = some { cls := .none, data := .fields #[] } := fun b z => by
    obtain ⟨q, hq, e⟩ := List.mem_map.mp z
    rw [← e]
    exact hT q hq
  have ok : HOk P w H s.heap := fun b u z => by
    rcases st.only b u z with ⟨rfl, _, rfl⟩ | ⟨z2, rfl⟩
    · exact ⟨ha, by rw [List.length_map]; exact hl, vs, _, vals, ha⟩
    · exact tabAt b z2
  -- what has neither a sequence nor an empty record is not tracked
  have free : ∀ b o, s.heap.get? b = some o → (∀ xs n, o.data ≠ .seq xs n) → o.data ≠ .fields #[] → H b = none := fun b o e n1 n2 => by
    cases q : H b with
    | none => rfl
    | some u =>
      rcases st.only b u q with ⟨rfl, _, _⟩ | ⟨z, _⟩
      · rw [ha] at e; cases e; exact (n1 _ _ rfl).elim
      · rw [tabAt b z] at e; cases e; exact (n2 rfl).elim
  have freeD : ∀ b o es ep, s.heap.get? b = some o → o.data = .dict es ep → H b = none := fun b o es ep e d => free b o e (fun _ _ z => by rw [d] at z; cases z) fun z => by rw [d] at z; cases z
  have ns0 : ∀ {b : Addr} {m : Str → Option Value}, s.heap.Ns b m → (hidT s.heap H).Ns b m := fun {b m} ⟨o, es, ep, e, d, r⟩ => ⟨o, es, ep, hidT_get e (freeD b o es ep e d), d, r⟩
  have in0 : K.In (hidT s.heap H) := fun b o e => hidT_get (KX b o e) (by
    cases q : H b with
    | none => rfl
    | some u =>
      exfalso
      rcases st.only b u q with ⟨rfl, n, _⟩ | ⟨z, _⟩
      · rw [n] at e; cases e
      · obtain ⟨q2, hq2, e2⟩ := List.mem_map.mp z
        rw [← e2, nT q2 hq2] at e
        cases e)
  have mod : L2.Mod K mg (hidT s.heap H) := ⟨in0, ns0 hns, ⟨mb, ns0 hbn, hbb⟩, hlim.elim fun mc h => ⟨mc, ns0 h.1, h.2⟩⟩
  have tabs : ∀ q ∈ cs, LamX.TabB (hidT s.heap H) mg q.1 q.2 := fun q hq => by
    have tq := hT q hq
    refine ⟨?_, ?_, fun z => ?_⟩
    · obtain ⟨o, us, file, tf, flags, tg, inF, text, tt, e1, r1, r2, r3, rest⟩ := hC q hq
      exact ⟨o, us, file, tf, flags, tg, inF, text, tt, hidT_get e1 (free _ o e1 (fun _ _ z => by rw [r2] at z; cases z) fun z => by rw [r2] at z; cases z; simp at r3), r1, r2, r3, rest⟩
    · obtain ⟨bm, ob, b1, b2, b3, b4, b5, b6⟩ := hbm
      refine ⟨bm, ob, b1, b2, fun e => ?_, fun e => ?_, hidT_get b3 (free _ ob b3 (fun _ _ z => by rw [b6] at z; cases z) fun z => by rw [b6] at z; cases z), b4, b5, b6⟩
      · obtain ⟨o, es, ep, e2, hd, _⟩ := hns
        rw [e, e2] at b3
        cases b3
        rw [hd] at b6
        cases b6
      · rw [e, tq] at b3
        cases b3
        cases b6
    · obtain ⟨o, es, ep, e2, hd, _⟩ := hns
      rw [z, tq] at e2
      cases e2
      cases hd
  have e0 : Env0 P w K mg (hidT s.heap H) callerA [] s H := ⟨rfl, mod, fun _ _ e => of_hidT e, Nat.le_of_eq (hidT_size _ _), trivial, fun b z => absurd (show b ∈ ([] : List Addr) from z) (by simp), ok, .of_eq hg⟩
  have go := (F _ in0 (ns0 hns) tabs).run callerA [] s H ⟨[.ref a], []⟩ [.ref a] [.ref a] (fun v _ => v = .bl true) (fun _ _ _ => False) room rfl e0 (hbind s (.ref a)) (.cons rfl .nil) (hsp H st.tab st.seq)
  refine codeAny_mono go fun r s' h => ?_
  match r, h with
  | .error e, h =>
    obtain ⟨_, _, _, _, _, _, _, _, _, _, _, _, z⟩ := h
    exact z.elim
  | .ok .next, h => exact False.elim h
  | .ok .brk, h => exact False.elim h
  | .ok .cont, h => exact False.elim h
  | .ok (.ret u), h =>
    obtain ⟨v, H', os, bare, un, ok', rv, q⟩ := h
    have q : v = .bl true := q
    subst q
    obtain rfl : u = Value.bool true := rv
    have grown : ∀ q ∈ cs, ∃ more : Array Value, s'.heap.get? q.2 = some { cls := .none, data := .fields more } := fun q hq => by
      obtain ⟨more, z⟩ := un.tbls q.2 #[] (st.tab q hq)
      exact ⟨_, ok' q.2 _ z⟩
    have rest : ∀ b o, b ∉ cs.map (·.2) → s.heap.get? b = some o → s'.heap.get? b = some o := fun b o nb e => by
      cases hq : H b with
      | none => exact un.keep b o e hq (fun z => nomatch (show b ∈ ([] : List Addr) from z)) (by simp)
      | some u =>
        rcases st.only b u hq with ⟨rfl, _, rfl⟩ | ⟨z, _⟩
        · obtain ⟨e1, _⟩ := ok b _ hq
          obtain ⟨e2, _⟩ := ok' b _ (un.frzs b _ _ hq)
          rw [e] at e1
          cases e1
          exact e2
        · exact absurd z nb
    refine ⟨rfl, ⟨fun b o e => ?_, fun b o e => ?_⟩, os, bare⟩
    all_goals by_cases hb : b ∈ cs.map (·.2)
    · obtain ⟨q, hq, eq⟩ := List.mem_map.mp hb
      obtain ⟨more, hm⟩ := grown q hq
      rw [← eq] at e ⊢
      rw [hT q hq] at e
      cases e
      exact .inr (.inl ⟨((hC q hq).tab (hT q hq)).isCodeTable, rfl, #[], more, rfl, by rw [Array.empty_append]; exact hm⟩)
    · exact .inl (rest b o hb e)
    · obtain ⟨q, hq, eq⟩ := List.mem_map.mp hb
      obtain ⟨more, hm⟩ := grown q hq
      rw [← eq]
      exact ⟨_, hm⟩
    · exact ⟨o, rest b o hb e⟩
/-- the law's promise, from its mirror at the script -/
theorem spM_law {L : List (Addr × Str)} {H : Hp} {mf : Mf} (hL : ∀ q ∈ L, H q.1 = some (.tbl #[])) (hS : SqL K H a (ns.map V.int)) (h : ∃ outs, mf [.scr ns] = .ok (.d (.bool true), outs)) : spM K mg L 1 mf [.ref a] H (fun v _ => v = .bl true) fun _ _ _ => False := by
  obtain ⟨outs, h⟩ := h
  refine ⟨rfl, fun _ => False, fun _ => [], fun _ _ => False, [.scr ns], ⟨fun q hq => LamX.TabS.nil (hL q hq), rfl, fun _ _ => rfl, fun _ => List.nodup_nil, nofun, nofun, fun _ z => z.elim, .refl, fun _ z => z, fun j t e => ?_⟩, ?_⟩
  · cases j with
    | zero => cases e; exact ⟨rfl, a, rfl, SqX.of hS fun ⟨_, z⟩ => by cases z⟩
    | succ j => cases e
  · rw [h]
    intro v H' og' on l E q hn
    exact q.2
/-- a law over a head by facts -/
theorem walkG {l : PySem.W.OpenLaw} {n : Nat} {q : Program} {loose : List Str} {XP : (Str → Option Value) → Heap → Prop} {YP : World → Heap → Prop} {d : DefRec} (hn : l.most = some n) (hn2 : n ≤ sizeLine) (hdf : d.params.defaults = []) (room : Room k callerA)
    (F : ∀ (w : World) (mg : Str → Option Value) (fa : Addr) (h : Heap), YP w h → h.Ns mainGlobals mg → mg d.name = some (.ref fa) →
      ∃ (K : PySem.W.Frag) (fd : FuncData) (cs : List (Addr × Addr)) (L : List (Addr × Str)) (mf : Mf), K.In h ∧ (∀ q ∈ cs, h.get? q.2 = some { cls := .none, data := .fields #[] }) ∧ (∀ q ∈ cs, K.lookup q.2 = none) ∧ (∀ q ∈ cs, PySem.W.CodeHd h q.1 q.2) ∧
        (∀ (s : Shared) (u : Value), BindsTo s fd ⟨[u], []⟩ [(x, u)]) ∧ (∀ q ∈ L, ∃ p ∈ cs, q.1 = p.2) ∧ (∀ ns : List Int, ns.length ≤ n → ∃ outs, mf [.scr ns] = .ok (.d (.bool true), outs)) ∧
        ∀ base : Heap, K.In base → base.Ns mainGlobals mg → (∀ q ∈ cs, LamX.TabB base mg q.1 q.2) → FnG l.prog w K mg base k fa fd [x] (spM K mg L 1 mf)) :
    PySem.W.WalkO q loose XP YP l.row.toRowW d [] (fun f vs => PySem.call f vs) := by
  refine Att.attach_callB hn hdf ?_
  intro w s₀ s₁ mg mb fa o pm cd doc a vs ns G Y ho hd hcd hmg hobj hints hlen hbits hg
  obtain ⟨K, fd, cs, L, mf, KX, hT, nT, hC, hb, hL, hm, hF⟩ := F w mg fa _ Y G.T.g hmg
  refine law_callG KX G.T.g G.T.b G.T.builtins G.T.nolimit hg hT nT hC G.T.bmain hobj hints (Nat.le_trans hlen hn2) room hF hb fun H hH hS => ?_
  refine spM_law (fun q hq => ?_) hS (hm ns hlen)
  obtain ⟨p, hp, e⟩ := hL q hq
  rw [e]
  exact hH p hp
end
end Eg
end
section
/-! E28: a, b = (x, y) -/
namespace Eg
open PySem PySem.Spec L2
open PyProof.Rows hiding St

section
variable {X : Cx} {c : Cc} {H : Hp} {σ : St} {D : Ends} {i j : Nat} {fa fb : Fn Sl} {x y : Str} {a b : Expr} {px py pt pos : Pos}
theorem Bx_comm {B : AP} {as bs : List Addr} : Bx (Bx B as) bs = Bx (Bx B bs) as := by
  funext a
  refine propext ⟨fun z => ?_, fun z => ?_⟩
  all_goals
    rcases Bx_iff.mp z with z | z
    · rcases Bx_iff.mp z with z | z
      · exact Bx_iff.mpr (.inl (Bx_iff.mpr (.inl z)))
      · exact Bx_iff.mpr (.inr z)
    · exact Bx_iff.mpr (.inl (Bx_iff.mpr (.inr z)))
theorem Og.at_or {og : Og} {i : Nat} {on : List Addr} {k : Nat} {a : Addr} (z : a ∈ og.at i on k) : a ∈ on ∨ a ∈ og k := by
  unfold Og.at at z
  split at z
  · exact .inl z
  · exact .inr z
theorem setE_ok {i : Nat} {r : Sl} {γ γ' : Env} {fl : Fl} (h : setE i r γ = .ok fl γ') : i < γ.length ∧ γ' = γ.set i r ∧ fl = .nx := by
  unfold setE at h
  cases es : γ[i]? with
  | none => rw [es] at h; cases h
  | some s =>
    rw [es] at h
    dsimp only at h
    split at h
    · cases h; exact ⟨(List.getElem?_eq_some_iff.mp es).1, rfl, rfl⟩
    · cases h
def parS (i j : Nat) (fa fb : Fn Sl) : Fn Fl := fun γ => (fa γ).bind fun r1 γ1 => (fb γ1).bind fun r2 γ2 => (setE i r1 γ2).bind fun _ γ3 => setE j r2 γ3
theorem par_core (h : tS c (parS i j fa fb) D σ H) : tPar i j (tCons (tE c fa) (tCons (tE c fb) tNil)) D σ H := by
  obtain ⟨B, og, γ, E, h⟩ := h
  refine ⟨B, og, γ, E, ?_⟩
  unfold tSat parS at h
  unfold tGat
  cases ea : fa γ with
  | bad => rw [ea] at h; exact h
  | ex e γ1 => rw [ea] at h; exact fun cls dx H' r l E' => h cls dx σ H' r l E'
  | ok r1 γ1 =>
    rw [ea] at h
    dsimp only [RE.bind] at h
    intro v1 H1 og1 on1 l1 E1 q1 hn1
    refine ⟨Bx B on1, og1, γ1, E1, ?_⟩
    unfold tGat
    cases eb : fb γ1 with
    | bad => rw [eb] at h; exact h
    | ex e γ2 => rw [eb] at h; exact fun cls dx H' r l E' => h cls dx σ H' r (l1.trans l) E'.drop
    | ok r2 γ2 =>
      rw [eb] at h
      dsimp only at h
      intro v2 H2 og2 on2 l2 E2 q2 hn2
      refine ⟨v1, v2, rfl, ?_⟩
      cases e1 : setE i r1 γ2 with
      | bad => rw [e1] at h; exact h.elim
      | ex e γ3 => unfold setE at e1; split at e1 <;> (try split at e1) <;> cases e1
      | ok f3 γ3 =>
        rw [e1] at h
        dsimp only at h
        obtain ⟨hi, rfl, _⟩ := setE_ok e1
        cases e2 : setE j r2 (γ2.set i r1) with
        | bad => rw [e2] at h; exact h.elim
        | ex e γ4 => unfold setE at e2; split at e2 <;> (try split at e2) <;> cases e2
        | ok f4 γ4 =>
          rw [e2] at h
          obtain ⟨hj, rfl, rfl⟩ := setE_ok e2
          dsimp only at h
          have nS1 : ∀ a ∈ on1, ¬ Sx (Bx B on2) og2 a := fun a ha z => by
            rcases z with z | ⟨k, z⟩
            · rcases Bx_iff.mp z with z | z
              · exact q1.2 a ha (.inl z)
              · exact q2.2 a z (.inl (Bx_iff.mpr (.inr ha)))
            · exact E2.nb k a z (Bx_iff.mpr (.inl (Bx_iff.mpr (.inr ha))))
          have F1 : ∀ on : List Addr, Fr0 H1 H2 (Bx (Sx B og1) on) (Bx (Sx (Bx B on2) og2) on) og1.all := fun on => ⟨l2.kp, fun a ⟨k, z⟩ => ⟨Bx_iff.mpr (.inl (.inr ⟨k, z⟩)), E1.mu z⟩, fun a z => by
            rcases Bx_iff.mp z with z | z
            · rcases z with z | z
              · rcases Bx_iff.mp z with z | z
                · exact .inl (Bx_iff.mpr (.inl (.inl z)))
                · exact .inr (hn2 a z)
              · rcases l2.sub a z with z | z
                · exact .inl (Bx_iff.mpr (.inl (.inr z)))
                · exact .inr z
            · exact .inl (Bx_iff.mpr (.inr z))⟩
          have Q1 : VRK c.K H2 (Sx (Bx B on2) og2) r1 v1 on1 := by
            have q := q1.1
            cases r1 with
            | d d => exact ⟨q.1, q.2.frame (F1 [])⟩
            | w m =>
              obtain ⟨a, e, o, n⟩ := q
              exact ⟨a, e, o.frame (F1 on1) fun a ha z => q1.2 a ha (.inr z), n⟩
            | _ => exact q.elim
          have E3 := EnvR.take (B := Bx B on2) hi nS1 (fun a ha => E.fresh0 (hn1 a ha)) (by rw [Bx_comm]; exact E2) Q1
          have sub : ∀ a, Sx B (og2.at i on1) a → Sx (Bx B on1) og2 a := fun a z => by
            rcases z with z | ⟨k, z⟩
            · exact .inl (Bx_iff.mpr (.inl z))
            · rcases Og.at_or z with z | z
              · exact .inl (Bx_iff.mpr (.inr z))
              · exact .inr ⟨k, z⟩
          have F2 : ∀ on : List Addr, Fr0 H2 H2 (Bx (Sx (Bx B on1) og2) on) (Bx (Sx B (og2.at i on1)) on) (fun _ => False) := fun on => ⟨.refl, nofun, fun a z => .inl (Bx_iff.mpr ((Bx_iff.mp z).imp (sub a) id))⟩
          have Q2 : VRK c.K H2 (Sx B (og2.at i on1)) r2 v2 on2 := by
            have q := q2.1
            cases r2 with
            | d d => exact ⟨q.1, q.2.frame (F2 [])⟩
            | w m =>
              obtain ⟨a, e, o, n⟩ := q
              exact ⟨a, e, o.frame (F2 on2) fun _ _ z => z, n⟩
            | _ => exact q.elim
          have E4 := EnvR.take (B := B) hj (fun a ha z => q2.2 a ha (sub a z)) (fun a ha => E1.fresh0 (hn2 a ha)) E3 Q2
          have l := l1.trans l2
          have none0 : ∀ a, H1 a = none → H a = none := fun a z => by
            cases e : H a with
            | none => rfl
            | some o => exact absurd z (l1.gr a (by rw [e]; exact nofun))
          refine h _ H2 _ ⟨l.kp, l.gr, fun a ⟨k, z⟩ => ?_⟩ E4
          rcases Og.at_or z with z | z
          · exact .inr (none0 a (hn2 a z))
          · rcases Og.at_or z with z | z
            · exact .inr (hn1 a z)
            · exact l.sub a ⟨k, z⟩
theorem ps_par' {kt k2 pt2} (G : Good X c) (hi : X.N[i]? = some x) (hj : X.N[j]? = some y) (hij : i ≠ j)
    (hx : X.env.scope.names.lookup x = some .local) (hy : X.env.scope.names.lookup y = some .local) (ha : PE X a (tE c fa)) (hb : PE X b (tE c fb))
    (hw : swappedStores [.Tuple [.Name x px, .Name y py] kt pt] (.Tuple [a, b] k2 pt2) X.env = pure (some [x, y]))
    (hs : swapsWithSole [.Tuple [.Name x px, .Name y py] kt pt] (.Tuple [a, b] k2 pt2) pos.line X.env = pure false := by rfl)
    (hst : starEach [a, b] X.env = (false, eval a X.env) :: starEach [b] X.env := by rfl) (hst2 : starEach [b] X.env = (false, eval b X.env) :: starEach [] X.env := by rfl) :
    PS X (.Assign [.Tuple [.Name x px, .Name y py] kt pt] (.Tuple [a, b] k2 pt2) pos) (tS c (parS i j fa fb)) :=
  PS_imp (ps_par G.calm G.nd hi hj hij hx hy (pa_cons ha (pa_cons hb pa_nil hst2) hst) hw hs) fun D σ H h => par_core h
end
end Eg
end
section
/-! E29: d.update(e), y = {.. for ..}, no tests, module ints -/
namespace Eg
open PySem PySem.Spec L2
open PyProof.Rows hiding St

section
variable {c : Cc} {H H1 H2 H' : Hp} {B S S' T : AP} {og og1 og2 og' : Og} {σ σ1 : St} {γ γ1 : Env} {X : Cx} {e a b : Expr} {pos p apos cpos : Pos} {i : Nat} {x : Str}
/-! ### no tests, one test -/
def yesB : Fn Bool := fun γ => .ok true γ
theorem pts_nil' : PTs X [] (tT c yesB) := ⟨fun pins s σ H Q I q => (pts_nil (X := X)).run pins s σ H Q I (by
  obtain ⟨B, og, γ, E, k⟩ := q
  exact k true H og [] .refl E ⟨rfl, rfl⟩ nofun)⟩
theorem pts_one' {t : Fn Bool} (h : PT X e (tT c t)) : PTs X [e] (tT c t) := pts_one h
/-- a module's int -/
theorem pd_gint {n : Int} (hg : Gl X x) (hm : ∃ t, X.mg x = some (.int n t)) (hd : (x == ("__debug__" : Str)) = false := by decide) : PE X (.Name x pos) (tD c (pureD (.int n))) := by
  obtain ⟨t, hm⟩ := hm
  exact pd_glob (v := .int n) hg hm ⟨t, rfl⟩ (fun _ _ => rfl) hd

/-! ### d.update(e) -/
def rUpd : V → List V → Hp → VK → Prop := fun x vs H Q => ∃ (a b : Addr) (ks ls : List (L2.Key × V)), x = .ref a ∧ vs = [.ref b] ∧ H a = some (.dK ks) ∧ Rd H b (.dK ls) ∧ a ≠ b ∧ ks.length + ls.length ≤ sizeLine ∧ Q .non (upd H a (.dK (mergeK ks ls)))
theorem mergeK_len : ∀ (ls ks : List (L2.Key × V)), (mergeK ks ls).length ≤ ks.length + ls.length
  | [], ks => by show ks.length ≤ _; simp
  | q :: ls, ks => by
    have h1 := mergeK_len ls (putK ks q.1 q.2)
    have h2 := length_putK ks q.1 q.2
    show (mergeK (putK ks q.1 q.2) ls).length ≤ _
    rw [List.length_cons]
    omega
theorem mt_upd : MtR X "dict.update" rUpd := by
  intro pins s σ H x xs v us Q I rx rs q
  obtain ⟨a, b, ks, ls, rfl, rfl, ha, hb, hne, hl, q⟩ := q
  cases rx
  obtain ⟨u, rfl, ru⟩ := vals1 rs
  cases ru
  obtain ⟨z, hd, vs, rel, dd⟩ := dk_of I.hok ha
  obtain ⟨z2, hd2, ws, rel2, dd2⟩ := dk_rd I.hok hb
  refine call_meetsIn PySem.F.slot_dict_update dd.typeIs PySem.F.entry_dict_update (PySem.F.args_dict_update_2 _ _) (meets_dict_update (mixKind X.prog X.w) a b hne hd2) ⟨vs, ws, dd, dd2, by rw [← rel.length, ← rel2.length]; exact hl, fun h' dd' _ hs => ?_⟩
  have he : ∃ q, h'.get? a = some q := let ⟨q, _, _, hq, _⟩ := dd'; ⟨q, hq⟩
  exact ⟨.non, _, d_write (t' := s.toks) I (by rw [ha]; exact True.intro) hs he (dk_new (Nat.le_trans (mergeK_len ls ks) hl) hd (KV.merge rel2 rel) dd'), rfl, q⟩
/-- the pairs of ls put into kvs -/
def mergeP (kvs ls : List (D × D)) : List (D × D) := ls.foldl (fun acc p => match toKey p.1 with
  | some q => putD q p.2 acc
  | none => acc) kvs
theorem RpK.merge {K : PySem.W.Frag} : ∀ {ls kvs : List (D × D)} {us ks : List (L2.Key × V)}, RpK K H S ls us → RpK K H S kvs ks → RpK K H S (mergeP kvs ls) (mergeK ks us)
  | [], _, _, _, h, h' => by cases h; exact h'
  | (k, d) :: r, kvs, us, ks, h, h' => by
    obtain ⟨q, v, rs, e, hk, h1, h2⟩ := h
    subst e hk
    have e2 : mergeK ks ((q, v) :: rs) = mergeK (putK ks q v) rs := rfl
    rw [e2]
    have : mergeP kvs ((keyD q, d) :: r) = mergeP (putD q d kvs) r := by
      unfold mergeP
      rw [List.foldl_cons]
      show List.foldl _ (match toKey (keyD q) with
        | some q => putD q d kvs
        | none => kvs) r = _
      rw [toKey_key]
    rw [this]
    exact RpK.merge h2 (RpK.put h1 h')
def updK (i : Nat) (d : D) : Fn Sl := fun γ1 => match slotK γ1 i with
  | none => .bad
  | some kvs => match d with
    | .dict ls => if kvs.length + ls.length ≤ sizeLine then .ok (.d .none) (setK γ1 i (mergeP kvs ls)) else .bad
    | _ => .bad
def updS (i : Nat) (fe : Fn D) : Fn Sl := fun γ => match slotK γ i with
  | none => .bad
  | some _ => (fe γ).bind (updK i)
theorem pe_upd {fe : Fn D} (G : Base X c) (hN : X.N[i]? = some x) (hv : Vis X.env.scope x) (he : PE X e (tD c fe))
    (hd : (x == ("__debug__" : Str)) = false := by decide) (hcd : (x == ("__classdict__" : Str)) = false := by decide)
    (hbase : attributeBase (.Name x p) "update" X.env (eval (.Name x p) X.env) = eval (.Name x p) X.env := by rfl)
    (hfew : ((backTo cpos (starEach [e] X.env)).all (fun x => !x.1) && (backToKw cpos (keywordEach [] X.env)).all (fun x => x.1.isSome)
      && decide (([e] : List Expr).length + ([] : List Keyword).length + (if ([] : List Keyword).isEmpty then 0 else 1) < 30)) = true := by rfl)
    (hline : (apos.endLine == cpos.line) = true := by rfl) (hs : starEach [e] X.env = (false, eval e X.env) :: starEach [] X.env := by rfl) (hplain : (backTo cpos (starEach [] X.env)).any (·.1) = false := by rfl) :
    PE X (.Call (.Attribute (.Name x p) "update" apos) [e] [] cpos) (tE c (updS i fe)) :=
  PE_imp (pe_bm PySem.F.plainAttrs_dict PySem.F.slot_dict_update PySem.F.type_dict_update mt_upd (pe_var hN hv hd hcd) (pa_cons he pa_nil hs) hbase hfew hline hs hplain) fun σ H Q q => by
    rw [G.k]
    obtain ⟨B, og, γ, E, q⟩ := q
    unfold tGat updS at q
    cases e0 : slotK γ i with
    | none => rw [e0] at q; exact q.elim
    | some ds0 =>
      rw [e0] at q
      dsimp only at q
      obtain ⟨a0, xs0, hv0, ha0, _, ho0⟩ := E.ownK e0
      refine ⟨_, hv0, .inr (.inr (.inl ⟨rfl, .inl ⟨_, ha0⟩⟩)), B, og, γ, E, ?_⟩
      refine tGat.thn (rel := relE c) (Q := Q) (k := updK i) q fun d γ1 v H1 og1 on l E1 q1 hn k => ?_
      unfold tGat updK at k
      cases e1 : slotK γ1 i with
      | none => rw [e1] at k; exact k.elim
      | some ds =>
        rw [e1] at k
        obtain ⟨a1, xs, hv1, ha1, rr, ho1⟩ := E1.ownK e1
        rw [hv0] at hv1
        cases hv1
        cases d with
        | dict ls =>
          dsimp only at k
          by_cases hl : ds.length + ls.length ≤ sizeLine
          · rw [if_pos hl] at k
            obtain ⟨b, us, rfl, hb, nb, rb⟩ := q1.2
            have hne : a0 ≠ b := fun z => nb (by subst z; exact .inr ⟨i, by rw [ho1]; simp⟩)
            obtain ⟨E2, l2⟩ := E1.setK (ds' := mergeP ds ls) (xs' := mergeK xs us) e1 hv0 ho1 (RpK.merge rb rr)
            exact ⟨a0, b, xs, us, rfl, rfl, ha1, hb, hne, by rw [RpK.len rr, RpK.len rb]; exact hl, k .non _ og1 [] l2 E2 ⟨⟨rfl, rfl⟩, nofun⟩ nofun⟩
          · rw [if_neg hl] at k; exact k.elim
        | _ => exact k.elim

/-! ### y = {k: v for ..}, y local: stored within the comprehension -/
theorem ps_setDcK {y : Str} {py : Pos} {kx vx tg iter : Expr} {ifs : List Expr} {scope : Scope} {own : List (Str × Nat)} {pos spos : Pos} {wi : TI} {g : TG} {tt : TT} {tk tv : TE} (hc : X.calm = true) (hN : X.N.Nodup) (hy : X.N[i]? = some y) (hyl : X.env.scope.names.lookup y = some .local)
    (hsw : swapsWith (.DictComp kx vx [⟨tg, iter, ifs, 0⟩] scope pos) (some (.Name y py)) spos.line X.env = pure true) (hi : PI X tg iter wi) (ok : BlkOk X.N X.env.scope scope own)
    (hg : ∀ (s : Shared) (H : Hp) (C : Addr) (cl : List (Str × Addr)) (fp : List Addr), PG (X.blk s H scope (compEnvC scope cl C X.env) fp) tg g) (ht : ∀ (s : Shared) (H : Hp) (C : Addr) (cl : List (Str × Addr)) (fp : List Addr), PTs (X.blk s H scope (compEnvC scope cl C X.env) fp) ifs tt)
    (hk : ∀ (s : Shared) (H : Hp) (C : Addr) (cl : List (Str × Addr)) (fp : List Addr), PE (X.blk s H scope (compEnvC scope cl C X.env) fp) kx tk)
    (he : ∀ (s : Shared) (H : Hp) (C : Addr) (cl : List (Str × Addr)) (fp : List Addr), PE (X.blk s H scope (compEnvC scope cl C X.env) fp) vx tv) (hs : ∀ x, foldedSetIterable iter X.env x = pure x := by intro _; rfl) :
    PS X (.Assign [.Name y py] (.DictComp kx vx [⟨tg, iter, ifs, 0⟩] scope pos) spos) (tAsg (tDc wi g tt tk tv (own.map (·.2))) (gName i)) := by
  refine ⟨fun pins s σ H D I h => ?_⟩
  rw [exec_Assign_Name_used _ _ _ _ hsw]
  refine wpAny_bind (wpAny_standAt (wpAny_bind ?_))
  show wpAny _ X.A (do let _ ← comprehension (.DictComp kx vx [⟨tg, iter, ifs, 0⟩] scope pos) scope X.env (firstIterPos [⟨tg, iter, ifs, 0⟩] pos) newDict false (eval iter X.env) (some (assign (.Name y py) X.env))) _ _ s
  have h : tDc wi g tt tk tv (own.map (·.2)) σ H (fun x H1 => gName i x σ H1 D.nx) := h
  refine wpAny_bind (thn (dc_core (Qf := fun _ s' => SP X pins D .next s') hc hN I hi ok hg ht hk he hs h fun L C s' m H' I' q hn f => ?_) fun _ s' hq => wpAny_pure (wpAny_pure hq))
  show wpAny _ _ (assign (.Name y py) X.env (.ref L)) _ _ _
  refine wpAny_assign_Name (store_ok2 (v := V.ref L) I' hN hy (.inl hyl) rfl (fun s2 I2 ⟨a, sb, ha⟩ => ?_) (.inr hyl))
  obtain ⟨f0, f1, f2, f3, f4, f5⟩ := f
  have haC : C ≠ a := by
    rcases ha with z | z
    · rw [z]; exact f1
    · exact fun e => f4 y a z e.symm
  refine ⟨m, hn.sameBut sb haC, fun h3 sb3 => ?_⟩
  exact ⟨_, H', I2.turned (t' := s2.toks) (fun b o hb e => (sb3.2 b hb).trans e) f0 f1 f3 f4 f5, q⟩
theorem swd_true {kx vx : Expr} {gs : List Comprehension} {scope : Scope} {pos py : Pos} {y : Str} {l : Nat} {env : PySem.Env} (hk : env.scope.kind = .function) (hy : env.scope.names.lookup y = some .local) (hl : (py.line == pos.line) = true)
    (ha : (scope.names.any fun (n, k) => n == y && (k == .local || k == .cell)) = false) : swapsWith (.DictComp kx vx gs scope pos) (some (.Name y py)) l env = pure true := by
  have ky : env.kindOf y = some .local := hy
  have hb : env.blockKind = .function := by unfold PySem.Env.blockKind; rw [hk]; rfl
  unfold swapsWith
  simp only [hb, ky, ha, Expr.pos, hl]
  rfl
theorem ps_setDc' {y : Str} {py : Pos} {kx vx tg iter : Expr} {ifs : List Expr} {scope : Scope} {own : List (Str × Nat)} {pos spos : Pos} {src : Fn (List D)} {t : Tg} {ts : List Nat} {tt : Fn Bool} {tk te : Fn D} (G : Good X c) (hy : X.N[i]? = some y) (hyl : X.env.scope.names.lookup y = some .local)
    (hsw : swapsWith (.DictComp kx vx [⟨tg, iter, ifs, 0⟩] scope pos) (some (.Name y py)) spos.line X.env = pure true) (hi : PI X tg iter (iSrc c src)) (ok : BlkOk X.N X.env.scope scope own)
    (hts : ∀ j ∈ ts, j ∈ own.map (·.2))
    (hg : ∀ (s : Shared) (H : Hp) (C : Addr) (cl : List (Str × Addr)) (fp : List Addr), PG (X.blk s H scope (compEnvC scope cl C X.env) fp) tg (tgS c.quiet ts t)) (ht : ∀ (s : Shared) (H : Hp) (C : Addr) (cl : List (Str × Addr)) (fp : List Addr), PTs (X.blk s H scope (compEnvC scope cl C X.env) fp) ifs (tT c.quiet tt))
    (hk : ∀ (s : Shared) (H : Hp) (C : Addr) (cl : List (Str × Addr)) (fp : List Addr), PE (X.blk s H scope (compEnvC scope cl C X.env) fp) kx (tD c.quiet tk))
    (he : ∀ (s : Shared) (H : Hp) (C : Addr) (cl : List (Str × Addr)) (fp : List Addr), PE (X.blk s H scope (compEnvC scope cl C X.env) fp) vx (tD c.quiet te)) (hs : ∀ x, foldedSetIterable iter X.env x = pure x := by intro _; rfl) :
    PS X (.Assign [.Name y py] (.DictComp kx vx [⟨tg, iter, ifs, 0⟩] scope pos) spos) (tS c (setS i (dcS (own.map (·.2)) src t tt tk te))) := PS_imp (ps_setDcK G.calm G.nd hy hyl hsw hi ok hg ht hk he hs) fun D σ H h => dc_sem hts (set_core h)
theorem ps_setDcL {y : Str} {j : Nat} {py : Pos} {kx vx tg iter : Expr} {ifs : List Expr} {scope : Scope} {own : List (Str × Nat)} {pos spos : Pos} {src : Fn (List D)} {t : Tg} {ts : List Nat} {tt : Fn Bool} {tk te : Fn D} (G : Good X c) (hy : X.N[i]? = some y) (hyl : X.env.scope.names.lookup y = some .local)
    (hsw : swapsWith (.DictComp kx vx [⟨tg, iter, ifs, 0⟩] scope pos) (some (.Name y py)) spos.line X.env = pure true) (hi : PI X tg iter (iSrcL j c src)) (ok : BlkOk X.N X.env.scope scope own)
    (hts : ∀ j ∈ ts, j ∈ own.map (·.2))
    (hg : ∀ (s : Shared) (H : Hp) (C : Addr) (cl : List (Str × Addr)) (fp : List Addr), PG (X.blk s H scope (compEnvC scope cl C X.env) fp) tg (tgS c.quiet ts t)) (ht : ∀ (s : Shared) (H : Hp) (C : Addr) (cl : List (Str × Addr)) (fp : List Addr), PTs (X.blk s H scope (compEnvC scope cl C X.env) fp) ifs (tT c.quiet tt))
    (hk : ∀ (s : Shared) (H : Hp) (C : Addr) (cl : List (Str × Addr)) (fp : List Addr), PE (X.blk s H scope (compEnvC scope cl C X.env) fp) kx (tD c.quiet tk))
    (he : ∀ (s : Shared) (H : Hp) (C : Addr) (cl : List (Str × Addr)) (fp : List Addr), PE (X.blk s H scope (compEnvC scope cl C X.env) fp) vx (tD c.quiet te)) (hs : ∀ x, foldedSetIterable iter X.env x = pure x := by intro _; rfl) :
    PS X (.Assign [.Name y py] (.DictComp kx vx [⟨tg, iter, ifs, 0⟩] scope pos) spos) (fun D σ H => Lkd j σ H ∧ tS c (setS i (dcS (own.map (·.2)) src t tt tk te)) D σ H) := PS_imp (ps_setDcK G.calm G.nd hy hyl hsw hi ok hg ht hk he hs) fun D σ H h => ⟨h.1, dc_sem hts (set_core h.2)⟩
end
end Eg
end
section
/-! E30: defs by name, built-ins' names -/
namespace Eg
open PySem PySem.Spec L2
open PyProof.Rows hiding St

theorem bt_len : bootBuiltins "len" = some (.builtin "len") := by decide +kernel
theorem bt_abs : bootBuiltins "abs" = some (.builtin "abs") := by decide +kernel
theorem bt_all : bootBuiltins "all" = some (.builtin "all") := by decide +kernel
theorem bt_any : bootBuiltins "any" = some (.builtin "any") := by decide +kernel
theorem bt_sum : bootBuiltins "sum" = some (.builtin "sum") := by decide +kernel
theorem bt_max : bootBuiltins "max" = some (.builtin "max") := by decide +kernel
theorem bt_min : bootBuiltins "min" = some (.builtin "min") := by decide +kernel
theorem bt_repr : bootBuiltins "repr" = some (.builtin "repr") := by decide +kernel
theorem bt_sorted : bootBuiltins "sorted" = some (.builtin "sorted") := by decide +kernel
theorem bt_int : bootBuiltins "int" = some (.type "int") := by decide +kernel
theorem bt_bool : bootBuiltins "bool" = some (.type "bool") := by decide +kernel
theorem bt_str : bootBuiltins "str" = some (.type "str") := by decide +kernel
theorem bt_list : bootBuiltins "list" = some (.type "list") := by decide +kernel
theorem bt_tuple : bootBuiltins "tuple" = some (.type "tuple") := by decide +kernel
theorem bt_dict : bootBuiltins "dict" = some (.type "dict") := by decide +kernel

section
variable {X : Cx} {c : Cc} {P : Program} {w : World} {K : PySem.W.Frag} {mg : Str → Option Value} {base : Heap} {L : List (Addr × Str)} {k n : Nat} {x : Str} {mf : Mf} {fs : Fn (List AV)} {e : Expr} {es : List Expr} {p pos : Pos}
theorem Base.u64 (B : Base X c) : X.A.units + 64 < cLine := by have := B.un; omega
theorem Base.u65 (B : Base X c) : X.A.units + 65 < cLine := by have := B.un; omega
theorem Base.u100 (B : Base X c) : X.A.units + 100 < cLine := by have := B.un; omega
/-- the def called x does mf -/
def Okf (P : Program) (w : World) (K : PySem.W.Frag) (mg : Str → Option Value) (base : Heap) (L : List (Addr × Str)) (k : Nat) (x : Str) (n : Nat) (mf : Mf) : Prop :=
  mg x = some (.ref (He.ga K x)) ∧ PySem.W.keepIn K (.ref (He.ga K x)) = true ∧ ∃ fd ps, Binds K fd ps [] ∧ FnG P w K mg base k (He.ga K x) fd ps (spM K mg L n mf)
theorem okf_of {params : Arguments} {body : List Stmt} {scope : Scope} {fd : FuncData} {ps : List Str} (F : FunD K x x params body scope [] [] (He.ga K x) fd) (hm : mg x = some (.ref (He.ga K x)))
    (h : ∀ (kV doc pm : Value) (an : Option Addr) (cdv ct : Value) (us : List Value), us.length = ps.length → bindArgs (PySem.W.fnOf x x params body scope .none kV doc pm an cdv ct) ⟨us, []⟩ = pure (ps.zip us))
    (hn : ps.length = n) (G : FnG P w K mg base k (He.ga K x) fd ps (spM K mg L ps.length mf)) : Okf P w K mg base L k x n mf :=
  ⟨hm, F.kp, fd, ps, F.bindsN h, by rw [← hn]; exact G⟩
theorem pe_callO (G : Base X c) (tk : Takes X c.W) (hL : c.tabs = L) (O : Okf X.prog X.w X.K X.mg X.base L k x n mf) (hr : Room k X.A) (ha : PA X (e :: es) (tOs c fs))
    (hg : Gl X x := by rfl) (hdb : (x == ("__debug__" : Str)) = false := by decide) (he : starEach (e :: es) X.env = (false, eval e X.env) :: starEach es X.env := by rfl) (hpl : (backTo pos (starEach es X.env)).any (·.1) = false := by rfl) :
    PE X (.Call (.Name x p) (e :: es) [] pos) (tE c (callS n mf [] fs)) := by
  obtain ⟨hm, kp, fd, ps, hb, F⟩ := O
  subst hL
  have F2 : FnG X.prog X.w X.K X.mg X.base k (He.ga X.K x) fd ps (spM c.K c.mg c.tabs n mf) := by rw [← G.k, ← G.mg]; exact F
  exact pe_callF (dvs := []) G tk F2 hr hm kp hb .nil (fun _ _ => rfl) ha hg hdb he hpl
theorem pe_callO0 (G : Base X c) (tk : Takes X c.W) (hL : c.tabs = L) (O : Okf X.prog X.w X.K X.mg X.base L k x n mf) (hr : Room k X.A)
    (hg : Gl X x := by rfl) (hdb : (x == ("__debug__" : Str)) = false := by decide) :
    PE X (.Call (.Name x p) [] [] pos) (tE c (callS n mf [] fun γ => .ok [] γ)) := by
  obtain ⟨hm, kp, fd, ps, hb, F⟩ := O
  subst hL
  have F2 : FnG X.prog X.w X.K X.mg X.base k (He.ga X.K x) fd ps (spM c.K c.mg c.tabs n mf) := by rw [← G.k, ← G.mg]; exact F
  exact pe_callF0 (dvs := []) G tk F2 hr hm kp hb .nil (fun _ _ => rfl) hg hdb
end
end Eg
end
section
/-! E31: thunks by name; the tests of except clauses by tables -/
namespace Eg
open PySem PySem.Spec L2
open PyProof.Rows hiding St

section
variable {X : Cx} {c cS : Cc} {P : Program} {w : World} {K : PySem.W.Frag} {mg : Str → Option Value} {base : Heap} {L : List (Addr × Str)} {k m : Nat} {x a : Str} {fb : Fn Fl} {ft : Fn Sl} {p lpos pos : Pos} {Ng : List Str}
/-! ### tests by tables -/
theorem lookup_memS {α : Type} {x : Str} {b : α} : ∀ {l : List (Str × α)}, l.lookup x = some b → (x, b) ∈ l
  | [], h => by cases h
  | (y, u) :: r, h => by
    rw [List.lookup_cons] at h
    cases q : (x == y) with
    | true =>
      rw [q] at h
      cases h
      rw [beq_iff_eq.mp q]
      exact List.mem_cons_self
    | false =>
      rw [q] at h
      exact List.mem_cons_of_mem _ (lookup_memS h)
def tstB (tab : List (Str × Bool)) : Tst := fun e => tab.lookup e.cls
def tstI (tab : List (Str × Bool)) : Tst := fun e => match e.arg with
  | none => tab.lookup e.cls
  | some _ => none
def excB (K : PySem.W.Frag) (D : Addr) : Bool :=
  decide (PySem.W.findIn K (.ref D) "__getattribute__" = some (some (.builtin "BaseException.__getattribute__"))) && (decide (PySem.W.findIn K (.ref D) "__getattr__" = some none) && (decide (PySem.W.subIn K (.ref D) (.type "BaseException") = some true) && (PySem.W.hasDictIn K D &&
  (decide (PySem.W.findIn K (.ref D) "__class__" = some (some (.builtin "object.__class__"))) && (decide (PySem.W.specialIn K (.builtin "object.__class__") "__get__" = some (some (.builtin "getset_descriptor.__get__"))) && (decide (PySem.W.takesIn K (.builtin "object.__class__") = some true) && decide (PySem.W.mroIn K D (.type "object") = some true)))))))
theorem excB_ok {D : Addr} (h : excB K D = true) : ExcC K D := by
  unfold excB at h
  simp only [Bool.and_eq_true, decide_eq_true_eq] at h
  obtain ⟨h1, h2, h3, h4, h5, h6, h7, h8⟩ := h
  exact ⟨h1, h2, h3, h4, h5, h6, h7, h8⟩
/-- each class of the table is, or is not, below C -/
def exB (K : PySem.W.Frag) (C : Str) (tab : List (Str × Bool)) : Bool := tab.all fun q => decide (PySem.W.exmOne K (.ref (He.ga K q.1)) (.ref (He.ga K C)) = some q.2)
def kiB (K : PySem.W.Frag) (C : Str) (tab : List (Str × Bool)) : Bool := tab.all fun q => excB K (He.ga K q.1) && decide (PySem.W.kitOne K (.ref (He.ga K q.1)) (.ref (He.ga K C)) = some q.2)
theorem te_of {C : Str} {tab : List (Str × Bool)} (hm : ∀ q ∈ tab, mg q.1 = some (.ref (He.ga K q.1))) (h : exB K C tab = true) : ∀ e b cls, tstB tab e = some b → mg e.cls = some cls → PySem.W.exmOne K cls (.ref (He.ga K C)) = some b := by
  intro e b cls h1 h2
  have hq := lookup_memS h1
  have h3 := hm _ hq
  rw [h2] at h3
  cases h3
  exact of_decide_eq_true (List.all_eq_true.mp h _ hq)
theorem ie_of {C : Str} {tab : List (Str × Bool)} (hm : ∀ q ∈ tab, mg q.1 = some (.ref (He.ga K q.1))) (h : kiB K C tab = true) : ∀ e b cls, tstI tab e = some b → mg e.cls = some cls → e.arg = none ∧ ∃ D, cls = .ref D ∧ ExcC K D ∧ PySem.W.kitOne K (.ref D) (.ref (He.ga K C)) = some b := by
  intro e b cls h1 h2
  unfold tstI at h1
  split at h1
  · rename_i ea
    have hq := lookup_memS h1
    have h3 := hm _ hq
    rw [h2] at h3
    cases h3
    obtain ⟨h4, h5⟩ := Bool.and_eq_true_iff.mp (List.all_eq_true.mp h _ hq)
    exact ⟨ea, _, rfl, excB_ok h4, of_decide_eq_true h5⟩
  · cases h1
theorem pe_isE' {i : Nat} {C n : Str} {tab : List (Str × Bool)} {p p1 p2 pos : Pos} {e : Xn} {ae : Addr} {oe : Obj} {cls : Value} {d : Option Addr} {pn : List (Addr × Obj)} (hK : X.K = c.K) (hM : X.mg = c.mg) (hz : Zc cls d oe) (hf : ∃ vs, oe.data = .fields vs) (hmg : c.mg e.cls = some cls) (hd : e.arg = none → d = none) (su : SuC c cS ae e)
    (ht : ∀ e b cls, tstI tab e = some b → X.mg e.cls = some cls → e.arg = none ∧ ∃ D, cls = .ref D ∧ ExcC X.K D ∧ PySem.W.kitOne X.K (.ref D) (.ref (He.ga X.K C)) = some b) (hC : X.mg C = some (.ref (He.ga X.K C)))
    (hN : X.N[i]? = some n) (hv : Vis X.env.scope n) (hm : X.mg "isinstance" = none) (hgC : Gl (X.suite ae ((ae, oe) :: pn)) C := by rfl) (hg : Gl X "isinstance" := by rfl)
    (hdb : (n == ("__debug__" : Str)) = false := by decide) (hcd : (n == ("__classdict__" : Str)) = false := by decide) (hdc : (C == ("__debug__" : Str)) = false := by decide)
    (hs : starEach [.Name n p1, .Name C p2] X.env = (false, eval (.Name n p1) X.env) :: starEach [.Name C p2] X.env := by rfl) (hpl : (backTo pos (starEach [.Name C p2] X.env)).any (·.1) = false := by rfl) :
    PE (X.suite ae ((ae, oe) :: pn)) (.Call (.Name "isinstance" p) [.Name n p1, .Name C p2] [] pos) (tE cS (isE i (tstI tab))) :=
  pe_isE (u := .ref (He.ga X.K C)) hz hf hmg hd su (fun e b cls h1 h2 => ht e b cls h1 (by rw [hM]; exact h2)) hN hv hm
    (pe_glob (X := X.suite ae ((ae, oe) :: pn)) hgC (show X.mg C = some (.ref (He.ga X.K C)) from hC) (show RelV (.ref (He.ga X.K C)) (.ref (He.ga X.K C)) from rfl) hdc) rfl (fun w z => z) hg hdb hcd hs hpl

theorem md_indexB (B : Base X c) : MtD c.K (rIndexD X.K) indexD := by rw [B.k]; exact md_index
theorem md_countB (B : Base X c) : MtD c.K (rCountD X.K) countD := by rw [B.k]; exact md_count

/-! ### thunks -/
/-- the def called x, of one parameter a, at thunks; its body's mirror fb; m slots more -/
def Okt (P : Program) (w : World) (K : PySem.W.Frag) (mg : Str → Option Value) (base : Heap) (L : List (Addr × Str)) (k : Nat) (x a : Str) (m : Nat) (fb : Fn Fl) : Prop :=
  mg x = some (.ref (He.ga K x)) ∧ PySem.W.keepIn K (.ref (He.ga K x)) = true ∧ ∃ (Ng : List Str) (pg : Arguments) (bg : List Stmt) (sg : Scope) (oc : Value) (od : Option Addr) (dV kV doc pm : Value) (an : Option Addr) (cdv ct : Value) (osl : Array (Option Value)),
    Ng.length - 1 = m ∧ Ng[0]? = some a ∧ Vis sg a ∧ K.lookup (He.ga K x) = some ⟨oc, od, .func (PySem.W.fnOf x x pg bg sg dV kV doc pm an cdv ct), osl⟩ ∧ PySem.W.codeIn K cdv x = true ∧ Binds K (PySem.W.fnOf x x pg bg sg dV kV doc pm an cdv ct) [a] [] ∧ FnScope Ng [a] sg ∧
    ∀ (A : Around) (outer : List PySem.Env) (s : Shared) (H : Hp) (E : XK) (cG : Cc), cG.tabs = L → Good (cxOf (L2.CX P w) P w K mg base Ng x sg (He.ga K x) cdv A outer s H E) cG → Room (k + 1) (A.deeper (envOfC x sg s.heap.objs.size (He.ga K x) cdv)) →
      Takes (cxOf (L2.CX P w) P w K mg base Ng x sg (He.ga K x) cdv A outer s H E) cG.W → Act (cxOf (L2.CX P w) P w K mg base Ng x sg (He.ga K x) cdv A outer s H E) cG 0 a →
      PSs (cxOf (L2.CX P w) P w K mg base Ng x sg (He.ga K x) cdv A outer s H E) bg (tS cG fb)
theorem okt_of {params : Arguments} {body : List Stmt} {scope : Scope} {fd : FuncData} (F : FunD K x x params body scope [] [] (He.ga K x) fd) (hm : mg x = some (.ref (He.ga K x))) (hn : Ng.length - 1 = m) (h0 : Ng[0]? = some a) (hv : Vis scope a) (S : FnScope Ng [a] scope)
    (hb : ∀ (kV doc pm : Value) (an : Option Addr) (cdv ct : Value) (us : List Value), us.length = 1 → bindArgs (PySem.W.fnOf x x params body scope .none kV doc pm an cdv ct) ⟨us, []⟩ = pure (([a] : List Str).zip us))
    (h : ∀ (cdv : Value) (A : Around) (outer : List PySem.Env) (s : Shared) (H : Hp) (E : XK) (cG : Cc), cG.tabs = L → Good (cxOf (L2.CX P w) P w K mg base Ng x scope (He.ga K x) cdv A outer s H E) cG → Room (k + 1) (A.deeper (envOfC x scope s.heap.objs.size (He.ga K x) cdv)) →
      Takes (cxOf (L2.CX P w) P w K mg base Ng x scope (He.ga K x) cdv A outer s H E) cG.W → Act (cxOf (L2.CX P w) P w K mg base Ng x scope (He.ga K x) cdv A outer s H E) cG 0 a →
      PSs (cxOf (L2.CX P w) P w K mg base Ng x scope (He.ga K x) cdv A outer s H E) body (tS cG fb)) : Okt P w K mg base L k x a m fb := by
  have hbi := FunD.bindsN (ps := [a]) F hb
  have kp := F.kp
  obtain ⟨oc, od, dV, kV, doc, pm, an, cdv, ct, osl, rfl, lk, hcd, _, _⟩ := F.ex
  exact ⟨hm, kp, Ng, params, body, scope, oc, od, dV, kV, doc, pm, an, cdv, ct, osl, hn, h0, hv, lk, hcd, hbi, S, h cdv⟩
/-- the table of the def f -/
structure Tb (K : PySem.W.Frag) (mg : Str → Option Value) (base : Heap) (L : List (Addr × Str)) (f : Str) : Prop where
  tb : LamX.TabB base mg (He.cT K (f, none)).1 (He.cT K (f, none)).2
  mem : ((He.cT K (f, none)).2, f ++ ".<locals>." ++ "<lambda>") ∈ L
  un : ∀ q ∈ L, q.1 = (He.cT K (f, none)).2 → q.2 = f ++ ".<locals>." ++ "<lambda>"
theorem dfOf0 {params : Arguments} {env : PySem.Env} (h : defaultsOf params env = ([], [])) : DfOf params env [] := h
theorem dfOf1 {params : Arguments} {env : PySem.Env} {n : Int} {j : Nat} {p : Pos} (h : defaultsOf params env = ([eval (.Constant (.int n) j p) env], [])) : DfOf params env [n] := ⟨j, p, h⟩
theorem pe_thunkO {params : Arguments} {body : Expr} {scope : Scope} {ds : List Int} {f : Str} {cc : Addr} {frz : List Nat} (G : Good X c) (tk : Takes X c.W) (hL : c.tabs = L) (U : Okt X.prog X.w X.K X.mg X.base L k x a m fb) (tb : Tb X.K X.mg X.base L f) (hcc : He.codeOf X.K (f, none) = cc) (hcode : X.env.code = .ref cc) (hq : X.env.qual = f ++ ".<locals>.")
    (hr : Room (k + 2) X.A) (Lm : LmS X.N X.env.scope scope) (hd : DfOf params X.env ds) (hbd : BdOf params body scope ds)
    (hbody : ∀ (A : Around) (outer : List PySem.Env) (s : Shared) (H : Hp) (E : XK) (f c' : Addr) (cL : Cc), cL.K = c.K → cL.mg = c.mg → cL.tabs = c.tabs → Good (LamX.lamCx X A outer s H E scope f c') cL → Room k (A.deeper (LamX.lamEnv X scope s.heap.objs.size f c')) →
      Takes (LamX.lamCx X A outer s H E scope f c') cL.W → PE (LamX.lamCx X A outer s H E scope f c') body (tE cL ft))
    (hg : Gl X x := by rfl) (hdb : (x == ("__debug__" : Str)) = false := by decide) (hda : (a == ("__debug__" : Str)) = false := by decide) (hca : (a == ("__classdict__" : Str)) = false := by decide) :
    PE X (.Call (.Name x p) [.Lambda params body scope lpos] [] pos) (tE c (thkS (runT m fb) frz ft)) := by
  obtain ⟨hm, kp, Ng, pg, bg, sg, oc, od, dV, kV, doc, pm, an, cdv, ct, osl, hn, h0, hv, lk, hcd, hb, S, h⟩ := U
  subst hn
  have e1 : (He.cT X.K (f, none)).1 = cc := hcc
  have tb1 := tb.tb
  rw [e1] at tb1
  refine pe_thunk G tk hm kp lk hcd hb S tb1 hcode ?_ ?_ hr Lm hd hbd ?_ hbody h0 hv hg hdb hda hca
  · rw [hL, hq]; exact tb.mem
  · rw [hL, hq]; exact tb.un
  · exact fun A outer s H E cG hT => h A outer s H E cG (hT.trans hL)
end
end Eg
namespace Eg
open PySem PySem.Spec L2
open PyProof.Rows hiding St
theorem fnG_len {P : Program} {w : World} {K : PySem.W.Frag} {mg : Str → Option Value} {base : Heap} {k n : Nat} {f : Addr} {fd : FuncData} {ps : List Str} {L : List (Addr × Str)} {mf : Mf} (hn : ps.length = n) (G : FnG P w K mg base k f fd ps (spM K mg L ps.length mf)) : FnG P w K mg base k f fd ps (spM K mg L n mf) := hn ▸ G
theorem nodup_inj {α β : Type} {f : α → β} : ∀ {l : List α}, (l.map f).Nodup → ∀ {a b : α}, a ∈ l → b ∈ l → f a = f b → a = b
  | [], _, a, _, h, _, _ => by cases h
  | x :: l, hn, a, b, ha, hb, e => by
    rw [List.map_cons, List.nodup_cons] at hn
    rcases List.mem_cons.mp ha with h1 | ha <;> rcases List.mem_cons.mp hb with h2 | hb
    · rw [h1, h2]
    · rw [h1] at e; exact absurd (List.mem_map.mpr ⟨b, hb, e.symm⟩) hn.1
    · rw [h2] at e; exact absurd (List.mem_map.mpr ⟨a, ha, e⟩) hn.1
    · exact nodup_inj hn.2 ha hb e
end Eg
end
section
/-! E32: mirrors evaluated by simp -/
namespace Eg
open PySem PySem.Spec L2
open PyProof.Rows hiding St

section
variable {α β δ : Type} {γ γ1 : Eg.Env} {i j n : Nat} {k : Nat}
/-- a continuation, as an instance: simp does not look into it -/
class Kt (α : Type) where
  k : α
def RE.bi (x : RE α) [f : Kt (α → Eg.Env → RE β)] : RE β := x.bind f.k
@[simp ↓] theorem RE.bind_bi {x : RE α} {f : α → Eg.Env → RE β} : x.bind f = x.bi (f := ⟨f⟩) := rfl
@[simp] theorem RE.bi_ok {a : α} {f : α → Eg.Env → RE β} : (RE.ok a γ).bi (f := ⟨f⟩) = f a γ := rfl
@[simp] theorem RE.bi_ex {e : Xn} {f : α → Eg.Env → RE β} : (RE.ex e γ : RE α).bi (f := ⟨f⟩) = .ex e γ := rfl
@[simp] theorem RE.bi_bad {f : α → Eg.Env → RE β} : (RE.bad : RE α).bi (f := ⟨f⟩) = .bad := rfl
@[simp] theorem RE.bi_ite {c : Prop} [Decidable c] {a b : RE α} {f : α → Eg.Env → RE β} : (if c then a else b).bi (f := ⟨f⟩) = if c then a.bi (f := ⟨f⟩) else b.bi (f := ⟨f⟩) := by split <;> rfl
/-- R.bind, not unfolded -/
def R.bnd (x : R α) (f : α → R β) : R β := x.bind f
theorem R.bnd_ok (a : α) (f : α → R β) : (R.ok a).bnd f = f a := rfl
theorem R.bnd_ex (e : Xn) (f : α → R β) : (R.ex e : R α).bnd f = .ex e := rfl
theorem R.bnd_bad (f : α → R β) : (R.bad : R α).bnd f = .bad := rfl
def R.bi (x : R α) [f : Kt (α → R β)] : R β := x.bind f.k
@[simp ↓] theorem R.bnd_bi {x : R α} {f : α → R β} : x.bnd f = x.bi (f := ⟨f⟩) := rfl
@[simp] theorem R.bi_ok {a : α} {f : α → R β} : (R.ok a).bi (f := ⟨f⟩) = f a := rfl
@[simp] theorem R.bi_ex {e : Xn} {f : α → R β} : (R.ex e : R α).bi (f := ⟨f⟩) = .ex e := rfl
@[simp] theorem R.bi_bad {f : α → R β} : (R.bad : R α).bi (f := ⟨f⟩) = .bad := rfl
@[simp] theorem R.bi_ite {c : Prop} [Decidable c] {a b : R α} {f : α → R β} : (if c then a else b).bi (f := ⟨f⟩) = if c then a.bi (f := ⟨f⟩) else b.bi (f := ⟨f⟩) := by split <;> rfl
theorem R.bnd_ite {c : Prop} [Decidable c] {a b : R α} {f : α → R β} : (if c then a else b).bnd f = if c then a.bnd f else b.bnd f := by split <;> rfl
/-! expressions -/
@[simp] theorem ev_deS {f : Fn Sl} : deS f γ = (f γ).bind fun s γ' => match s with
  | .d x => .ok x γ'
  | .w m => .ok m.data γ'
  | _ => .bad := rfl
@[simp] theorem ev_opD {f : Fn D} : opD f γ = (f γ).bind fun x γ' => .ok (.d x) γ' := rfl
@[simp] theorem ev_enS {f : Fn D} : enS f γ = (f γ).bind fun x γ' => .ok (.d x) γ' := rfl
@[simp] theorem ev_opN : opN i γ = match γ[i]? with
  | some (.d x) => .ok (.d x) γ
  | some (.w _) => .ok (.pk i) γ
  | some (.io _) => .ok (.pk i) γ
  | some (.scr _) => .ok (.pk i) γ
  | _ => .bad := rfl
@[simp] theorem ev_nameS : nameS i γ = match γ[i]? with
  | some (.d x) => .ok (.d x) γ
  | some (.w m) => .ok (.d m.data) (γ.set i (.d m.data))
  | _ => .bad := rfl
@[simp] theorem ev_pureD {x : D} : pureD x γ = .ok x γ := rfl
@[simp] theorem ev_prim {s : Sl} : prim (.ok s) γ = .ok s γ := rfl
@[simp] theorem ev_primb : prim .bad γ = .bad := rfl
@[simp] theorem prim_ite {c : Prop} [Decidable c] {a b : R Sl} : prim (if c then a else b) γ = if c then prim a γ else prim b γ := by split <;> rfl
@[simp] theorem getA_d {x : D} : getA γ (.d x) = .ok x := rfl
@[simp] theorem getA_pk : getA γ (.pk i) = match γ[i]? with
    | some (.w (.l ds)) => .ok (.list ds)
    | some (.w (.k ds)) => .ok (.dict ds)
    | some (.io (.l ds)) => .ok (.list ds)
    | some (.io (.k ds)) => .ok (.dict ds)
    | _ => .bad := rfl
@[simp] theorem ev_op2 {g : D → D → R Sl} {fa fb : Fn AV} : op2 g fa fb γ = (fa γ).bind fun x γ1 => (fb γ1).bind fun y γ2 => prim ((getA γ2 x).bnd fun d => (getA γ2 y).bnd (g d)) γ2 := rfl
@[simp] theorem ev_op1 {g : D → R Sl} {fa : Fn AV} : op1 g fa γ = (fa γ).bind fun x γ1 => prim ((getA γ1 x).bnd g) γ1 := rfl
@[simp] theorem ev_boolS {f : Fn Sl} : boolS f γ = (f γ).bind fun s γ1 => match s with
  | .d (.bool b) => .ok b γ1
  | _ => .bad := rfl
@[simp] theorem ev_truS {f : Fn AV} : truS f γ = (f γ).bind fun x γ1 => match getA γ1 x with
  | .ok d => match truD d with
    | some b => .ok b γ1
    | none => .bad
  | _ => .bad := rfl
@[simp] theorem ev_andT {f g : Fn Bool} : andT f g γ = (f γ).bind fun b γ1 => if b = true then g γ1 else .ok false γ1 := rfl
@[simp] theorem ev_orT {f g : Fn Bool} : orT f g γ = (f γ).bind fun b γ1 => if b = true then .ok true γ1 else g γ1 := rfl
@[simp] theorem ev_notT {f : Fn Bool} : notT f γ = (f γ).bind fun b γ1 => .ok (!b) γ1 := rfl
@[simp] theorem ev_andV {f g : Fn Sl} : andV f g γ = (boolS f γ).bind fun b γ1 => if b = true then g γ1 else .ok (.d (.bool false)) γ1 := rfl
@[simp] theorem ev_orV {f g : Fn Sl} : orV f g γ = (boolS f γ).bind fun b γ1 => if b = true then .ok (.d (.bool true)) γ1 else g γ1 := rfl
@[simp] theorem ev_notV {f : Fn Sl} : notV f γ = (boolS f γ).bind fun b γ1 => .ok (.d (.bool (!b))) γ1 := rfl
@[simp] theorem ev_ifV {t : Fn Bool} {f g : Fn Sl} : ifV t f g γ = (t γ).bind fun b γ1 => if b = true then f γ1 else g γ1 := rfl
@[simp] theorem ev_nilF : (nilF : Fn (List α)) γ = .ok [] γ := rfl
@[simp] theorem ev_consF {f : Fn α} {fr : Fn (List α)} : consF f fr γ = (f γ).bind fun x γ1 => (fr γ1).bind fun xs γ2 => .ok (x :: xs) γ2 := rfl
@[simp] theorem ev_tupF {f : Fn (List D)} : tupF f γ = (f γ).bind fun ds γ1 => if ds.length ≤ sizeLine then .ok (.d (.tuple ds)) γ1 else .bad := rfl
@[simp] theorem ev_lstF {f : Fn (List D)} : lstF f γ = (f γ).bind fun ds γ1 => if ds.length ≤ sizeLine then .ok (.w (.l ds)) γ1 else .bad := rfl
@[simp] theorem getAs_nil : getAs γ [] = .ok [] := rfl
@[simp] theorem getAs_cons {a : AV} {as : List AV} : getAs γ (a :: as) = (getA γ a).bnd fun d => (getAs γ as).bnd fun ds => .ok (d :: ds) := rfl
@[simp] theorem ev_callP {g : List D → R Sl} {fs : Fn (List AV)} : callP g fs γ = (fs γ).bind fun as γ1 => prim ((getAs γ1 as).bnd g) γ1 := rfl
@[simp] theorem ev_chS {g g' : D → D → R Sl} {fa fb fc : Fn AV} : chS g g' fa fb fc γ = (fa γ).bind fun x γ1 => (fb γ1).bind fun y γ2 =>
  match (getA γ2 x).bnd fun d => (getA γ2 y).bnd (g d) with
  | .ok (.d (.bool true)) => (fc γ2).bind fun z γ3 => prim ((getA γ3 y).bnd fun d => (getA γ3 z).bnd (g' d)) γ3
  | .ok (.d (.bool false)) => .ok (.d (.bool false)) γ2
  | _ => .bad := rfl
@[simp] theorem ev_slS {fa : Fn AV} {flo fhi : Fn (Option Int)} : slS fa flo fhi γ = (fa γ).bind fun x γ1 => (flo γ1).bind fun lo γ2 => (fhi γ2).bind fun hi γ3 => prim ((getA γ3 x).bnd fun d => slD d lo hi) γ3 := rfl
@[simp] theorem ev_noI : noI γ = .ok none γ := rfl
@[simp] theorem ev_someI {f : Fn D} : someI f γ = (f γ).bind fun d γ1 => match d with
  | .int i => .ok (some i) γ1
  | _ => .bad := rfl
@[simp] theorem ev_methS {T : String} {g : D → List D → R Sl} {fa : Fn AV} {fs : Fn (List D)} : methS T g fa fs γ = (fa γ).bind fun a γ1 => match getA γ1 a with
  | .ok d => if tyD d = T then (fs γ1).bind fun args γ2 => match getA γ2 a with
    | .ok d => prim (g d args) γ2
    | _ => .bad
    else .bad
  | _ => .bad := rfl
/-! statements -/
/-- what comes behind a statement -/
def seqK (r : RE Fl) (g : Fn Fl) : RE Fl := r.bind fun fl γ1 => match fl with
  | .nx => g γ1
  | x => .ok x γ1
@[simp] theorem ev_seqS {f g : Fn Fl} : seqS f g γ = seqK (f γ) g := rfl
def seqI (r : RE Fl) [g : Kt (Fn Fl)] : RE Fl := seqK r g.k
@[simp ↓] theorem seqK_I {r : RE Fl} {g : Fn Fl} : seqK r g = seqI r (g := ⟨g⟩) := rfl
@[simp] theorem seqI_nx {g : Fn Fl} : seqI (.ok .nx γ) (g := ⟨g⟩) = g γ := rfl
@[simp] theorem seqI_rt {g : Fn Fl} {r : Sl} : seqI (.ok (.rt r) γ) (g := ⟨g⟩) = .ok (.rt r) γ := rfl
@[simp] theorem seqI_bk {g : Fn Fl} : seqI (.ok .bk γ) (g := ⟨g⟩) = .ok .bk γ := rfl
@[simp] theorem seqI_ct {g : Fn Fl} : seqI (.ok .ct γ) (g := ⟨g⟩) = .ok .ct γ := rfl
@[simp] theorem seqI_ex {g : Fn Fl} {e : Xn} : seqI (.ex e γ) (g := ⟨g⟩) = .ex e γ := rfl
@[simp] theorem seqI_bad {g : Fn Fl} : seqI .bad (g := ⟨g⟩) = .bad := rfl
@[simp] theorem seqI_ite {g : Fn Fl} {c : Prop} [Decidable c] {a b : RE Fl} : seqI (if c then a else b) (g := ⟨g⟩) = if c then seqI a (g := ⟨g⟩) else seqI b (g := ⟨g⟩) := by split <;> rfl
theorem seqK_nx {g : Fn Fl} : seqK (.ok .nx γ) g = g γ := rfl
theorem seqK_rt {g : Fn Fl} {r : Sl} : seqK (.ok (.rt r) γ) g = .ok (.rt r) γ := rfl
theorem seqK_bk {g : Fn Fl} : seqK (.ok .bk γ) g = .ok .bk γ := rfl
theorem seqK_ct {g : Fn Fl} : seqK (.ok .ct γ) g = .ok .ct γ := rfl
theorem seqK_ex {g : Fn Fl} {e : Xn} : seqK (.ex e γ) g = .ex e γ := rfl
theorem seqK_ite {g : Fn Fl} {c : Prop} [Decidable c] {a b : RE Fl} : seqK (if c then a else b) g = if c then seqK a g else seqK b g := by split <;> rfl
theorem bind_ite {c : Prop} [Decidable c] {a b : RE α} {f : α → Eg.Env → RE β} : (if c then a else b).bind f = if c then a.bind f else b.bind f := by split <;> rfl
@[simp] theorem ev_skipS : skipS γ = .ok .nx γ := rfl
@[simp] theorem ev_retS {f : Fn Sl} : retS f γ = (f γ).bind fun r γ1 => .ok (.rt r) γ1 := rfl
@[simp] theorem ev_retN : retN i γ = match γ[i]? with
  | some (.d x) => .ok (.rt (.d x)) γ
  | some (.w m) => .ok (.rt (.w m)) (γ.set i .no)
  | _ => .bad := rfl
@[simp] theorem ev_dropS {f : Fn Sl} : dropS f γ = (f γ).bind fun _ γ1 => .ok .nx γ1 := rfl
@[simp] theorem ev_setE {r : Sl} : setE i r γ = match γ[i]? with
  | some s => if canSet s then .ok .nx (γ.set i r) else .bad
  | none => .bad := rfl
@[simp] theorem canSet_no : canSet .no = true := rfl
@[simp] theorem canSet_d {x : D} : canSet (.d x) = true := rfl
@[simp] theorem canSet_w {x : Md} : canSet (.w x) = true := rfl
@[simp] theorem ev_setS {f : Fn Sl} : setS i f γ = (f γ).bind fun r γ1 => setE i r γ1 := rfl
@[simp] theorem ev_ifS {t : Fn Bool} {f g : Fn Fl} : ifS t f g γ = (t γ).bind fun b γ1 => if b = true then f γ1 else g γ1 := rfl
@[simp] theorem ev_asgS {f : Fn D} {t : Tg} : asgS f t γ = (f γ).bind fun d γ1 => match t d γ1 with
  | some γ2 => .ok .nx γ2
  | none => .bad := rfl
@[simp] theorem ev_tgN {d : D} : tgN i d γ = match γ[i]? with
  | some s => if canSet s then some (γ.set i (.d d)) else none
  | none => none := rfl
@[simp] theorem ev_tgT {u : Tgs} {ds : List D} : tgT n u (.tuple ds) γ = if ds.length = n then u ds γ else none := rfl
@[simp] theorem ev_tgCons {t : Tg} {u : Tgs} {d : D} {r : List D} : tgCons t u (d :: r) γ = (t d γ).bind fun γ1 => u r γ1 := rfl
@[simp] theorem ev_tgNil : tgNil [] γ = some γ := rfl
@[simp] theorem ev_raiseS {e : Xn} : raiseS e γ = .ex e γ := rfl
@[simp] theorem ev_parS {fa fb : Fn Sl} : parS i j fa fb γ = (fa γ).bind fun r1 γ1 => (fb γ1).bind fun r2 γ2 => (setE i r1 γ2).bind fun _ γ3 => setE j r2 γ3 := rfl
@[simp] theorem ev_forS {src : Fn (List D)} {t : Tg} {f : Fn Fl} : forS src t f γ = (src γ).bind fun ds γ1 => forL t f ds γ1 := rfl
@[simp] theorem ev_rngSrc {g : List D → Option (List D)} {fs : Fn (List D)} : rngSrc g fs γ = (fs γ).bind fun ds γ1 => match g ds with
  | some r => .ok r γ1
  | none => .bad := rfl
@[simp] theorem ev_seqSrc {f : Fn D} : seqSrc f γ = (f γ).bind fun d γ1 => match seqD d with
  | some ds => .ok ds γ1
  | none => .bad := rfl
@[simp] theorem seqD_list {ds : List D} : seqD (.list ds) = some ds := rfl
@[simp] theorem seqD_tuple {ds : List D} : seqD (.tuple ds) = some ds := rfl
/-! changed lists -/
@[simp] theorem ev_slotL : slotL γ i = match γ[i]? with
  | some s => getL s
  | none => none := rfl
@[simp] theorem getL_w {ds : List D} : getL (.w (.l ds)) = some ds := rfl
@[simp] theorem getL_io {ds : List D} : getL (.io (.l ds)) = some ds := rfl
@[simp] theorem ev_setL {ds : List D} : setL γ i ds = match γ[i]? with
  | some s => γ.set i (putL s ds)
  | none => γ := rfl
@[simp] theorem putL_w {m : Md} {ds : List D} : putL (.w m) ds = .w (.l ds) := rfl
@[simp] theorem putL_io {m : Md} {ds : List D} : putL (.io m) ds = .io (.l ds) := rfl
@[simp] theorem ev_setIx {fi fv : Fn D} : setIx i fi fv γ = (fv γ).bind fun d γ1 => match slotL γ1 i with
  | none => .bad
  | some _ => (fi γ1).bind fun k γ2 => putIx i d k γ2 := rfl
@[simp] theorem ev_putIx {d k : D} : putIx i d k γ = match slotL γ i with
  | none => .bad
  | some ds => match k with
    | .int k => match ixN ds.length k with
      | some j => .ok .nx (setL γ i (ds.set j d))
      | none => .bad
    | _ => .bad := rfl
@[simp] theorem ev_mutS {g : Mg} {fs : Fn (List D)} : mutS i g fs γ = match slotL γ i with
  | none => .bad
  | some _ => (fs γ).bind fun args γ1 => match slotL γ1 i with
    | none => .bad
    | some ds => match g ds args with
      | .ok (d, ds') => .ok (.d d) (setL γ1 i ds')
      | _ => .bad := rfl
@[simp] theorem appG_one {ds : List D} {d : D} : appG ds [d] = if ds.length < sizeLine then .ok (.none, ds ++ [d]) else .bad := rfl
@[simp] theorem ev_augI {f : Int → Int → Int} {fe : Fn D} : augI i f fe γ = match γ[i]? with
  | some (.d (.int m)) => (fe γ).bind fun d γ1 => match d with
    | .int n => setE i (.d (.int (f m n))) γ1
    | _ => .bad
  | _ => .bad := rfl
@[simp] theorem ev_yesB : yesB γ = .ok true γ := rfl
/-! built-in operators -/
@[simp] theorem addD_int {a b : Int} : addD (.int a) (.int b) = .ok (.d (.int (a + b))) := rfl
@[simp] theorem addD_tuple {xs ys : List D} : addD (.tuple xs) (.tuple ys) = if xs.length + ys.length ≤ sizeLine then .ok (.d (.tuple (xs ++ ys))) else .bad := rfl
@[simp] theorem addD_list {xs ys : List D} : addD (.list xs) (.list ys) = if xs.length + ys.length ≤ sizeLine then .ok (.w (.l (xs ++ ys))) else .bad := rfl
@[simp] theorem subD_int {a b : Int} : subD (.int a) (.int b) = .ok (.d (.int (a - b))) := rfl
@[simp] theorem mulD_int {a b : Int} : mulD (.int a) (.int b) = if okMul a b then .ok (.d (.int (a * b))) else .bad := rfl
@[simp] theorem modD_int {a b : Int} : modD (.int a) (.int b) = if 0 < b then .ok (.d (.int (a % b))) else .bad := rfl
@[simp] theorem fdivD_int {a b : Int} : fdivD (.int a) (.int b) = if 0 < b ∧ b.natAbs.log2 < 9000 then .ok (.d (.int (a / b))) else .bad := rfl
@[simp] theorem powD_int {a b : Int} : powD (.int a) (.int b) = if 0 ≤ b ∧ b ≤ 1000000 ∧ a.natAbs < 2 ^ 64 then .ok (.d (.int (a ^ b.toNat))) else .bad := rfl
@[simp] theorem negD_int {a : Int} : negD (.int a) = .ok (.d (.int (-a))) := rfl
@[simp] theorem eqD_int {a b : Int} : eqD (.int a) (.int b) = .ok (.d (.bool (decide (a = b)))) := by
  show R.ok (Sl.d (.bool (PyData.eqv (.int a) (.int b)))) = _
  first | rfl | (simp [PyData.eqv]; done)
@[simp] theorem neD_int {a b : Int} : neD (.int a) (.int b) = .ok (.d (.bool (!decide (a = b)))) := by
  show R.ok (Sl.d (.bool (!PyData.eqv (.int a) (.int b)))) = _
  first | rfl | (simp [PyData.eqv]; done)
@[simp] theorem ltD_int {a b : Int} : ltD (.int a) (.int b) = .ok (.d (.bool (decide (a < b)))) := rfl
@[simp] theorem leD_int {a b : Int} : leD (.int a) (.int b) = .ok (.d (.bool (decide (a ≤ b)))) := rfl
@[simp] theorem gtD_int {a b : Int} : gtD (.int a) (.int b) = .ok (.d (.bool (decide (b < a)))) := rfl
@[simp] theorem geD_int {a b : Int} : geD (.int a) (.int b) = .ok (.d (.bool (decide (b ≤ a)))) := rfl
@[simp] theorem isD_none {d : D} : isD d .none = .ok (.d (.bool (isN d))) := rfl
@[simp] theorem isNotD_none {d : D} : isNotD d .none = .ok (.d (.bool (!isN d))) := rfl
@[simp] theorem isN_none : isN .none = true := rfl
@[simp] theorem isN_tuple {ds : List D} : isN (.tuple ds) = false := rfl
@[simp] theorem isN_int {i : Int} : isN (.int i) = false := rfl
@[simp] theorem ixD_list {ds : List D} {i : Int} : ixD (.list ds) (.int i) = match atI ds i with
    | some d => .ok (.d d)
    | none => .bad := rfl
@[simp] theorem ixD_tuple {ds : List D} {i : Int} : ixD (.tuple ds) (.int i) = match atI ds i with
    | some d => .ok (.d d)
    | none => .bad := rfl
@[simp] theorem ixD_dict {kvs : List (D × D)} {i : Int} : ixD (.dict kvs) (.int i) = match lookD kvs (.inl i) with
    | some d => .ok (.d d)
    | none => .bad := rfl
@[simp] theorem lenD_list {ds : List D} : lenD [.list ds] = .ok (.d (.int ds.length)) := rfl
@[simp] theorem lenD_tuple {ds : List D} : lenD [.tuple ds] = .ok (.d (.int ds.length)) := rfl
@[simp] theorem lenD_dict {ds : List (D × D)} : lenD [.dict ds] = .ok (.d (.int ds.length)) := rfl
@[simp] theorem absD_int {i : Int} : absD [.int i] = .ok (.d (.int (i.natAbs : Int))) := by
  show R.ok (Sl.d (.int (if i < 0 then -i else i))) = _
  congr 3
  split <;> omega
@[simp] theorem intD_int {i : Int} : intD [.int i] = .ok (.d (.int i)) := rfl
@[simp] theorem listD_list {ds : List D} : listD [.list ds] = .ok (.w (.l ds)) := rfl
@[simp] theorem listD_tuple {ds : List D} : listD [.tuple ds] = .ok (.w (.l ds)) := rfl
@[simp] theorem tupleD_list {ds : List D} : tupleD [.list ds] = .ok (.d (.tuple ds)) := rfl
@[simp] theorem tupleD_tuple {ds : List D} : tupleD [.tuple ds] = .ok (.d (.tuple ds)) := rfl
@[simp] theorem gcdD_int {a b : Int} : gcdD [.int a, .int b] = .ok (.d (.int (Nat.gcd a.natAbs b.natAbs : Nat))) := rfl
@[simp] theorem maxD_two {a b : Int} : maxD [.int a, .int b] = .ok (.d (.int (max a b))) := by
  show R.ok (Sl.d (.int (if b > a then b else a))) = _
  congr 3
  split <;> omega
@[simp] theorem minD_two {a b : Int} : minD [.int a, .int b] = .ok (.d (.int (min a b))) := by
  show R.ok (Sl.d (.int (if b < a then b else a))) = _
  congr 3
  split <;> omega
@[simp] theorem boolOf_ap {g : D → Bool} {d : D} : boolOf g d = .ok (.d (.bool (g d))) := rfl
@[simp] theorem boolsOf_nil : boolsOf [] = some [] := rfl
@[simp] theorem boolsOf_cons {b : Bool} {r : List D} : boolsOf (.bool b :: r) = (boolsOf r).map (b :: ·) := rfl
@[simp] theorem intsOf_nil : intsOf [] = some [] := rfl
@[simp] theorem intsOf_cons {b : Int} {r : List D} : intsOf (.int b :: r) = (intsOf r).map (b :: ·) := rfl
@[simp] theorem allD_list {ds : List D} : allD [.list ds] = match boolsOf ds with
    | some bs => .ok (.d (.bool (bs.all id)))
    | none => .bad := rfl
@[simp] theorem anyD_list {ds : List D} : anyD [.list ds] = match boolsOf ds with
    | some bs => .ok (.d (.bool (bs.any id)))
    | none => .bad := rfl
@[simp] theorem sumD_list {ds : List D} : sumD [.list ds] = match intsOf ds with
    | some ns => .ok (.d (.int ns.sum))
    | none => .bad := rfl
@[simp] theorem sumD_tuple {ds : List D} : sumD [.tuple ds] = match intsOf ds with
    | some ns => .ok (.d (.int ns.sum))
    | none => .bad := rfl
@[simp] theorem maxD_list {ds : List D} : maxD [.list ds] = match intsOf ds with
    | some ns => if ns = [] then .bad else .ok (.d (.int (maxI ns)))
    | none => .bad := rfl
@[simp] theorem minD_list {ds : List D} : minD [.list ds] = match intsOf ds with
    | some ns => if ns = [] then .bad else .ok (.d (.int (minI ns)))
    | none => .bad := rfl
@[simp] theorem maxI_one {a : Int} : maxI [a] = a := rfl
@[simp] theorem maxI_cons {a b : Int} {r : List Int} : maxI (a :: b :: r) = max a (maxI (b :: r)) := rfl
@[simp] theorem minI_one {a : Int} : minI [a] = a := rfl
@[simp] theorem minI_cons {a b : Int} {r : List Int} : minI (a :: b :: r) = min a (minI (b :: r)) := rfl
@[simp] theorem sortedD_list {ds : List D} : sortedD [.list ds] = match intsOf ds with
    | some ns => .ok (.w (.l ((sortI ns).map .int)))
    | none => .bad := rfl
@[simp] theorem sortedD_dict {ds : List (D × D)} : sortedD [.dict ds] = match intKeys ds with
    | some ns => if ns.length < 64 then .ok (.w (.l ((sortI ns).map .int))) else .bad
    | none => .bad := rfl
@[simp] theorem intKeys_nil : intKeys [] = some [] := rfl
@[simp] theorem intKeys_cons {i : Int} {d : D} {r : List (D × D)} : intKeys ((.int i, d) :: r) = (intKeys r).map (i :: ·) := rfl
@[simp] theorem rng1_int {j : Int} : rng1 [.int j] = if okR j then some (upto 0 j.toNat) else none := rfl
@[simp] theorem rng2_int {i j : Int} : rng2 [.int i, .int j] = if okR i && okR j then some (upto i (j - i).toNat) else none := rfl
@[simp] theorem upto_zero {lo : Int} : upto lo 0 = [] := rfl
theorem upto_succ {lo : Int} {n : Nat} : upto lo (n + 1) = .int lo :: upto (lo + 1) n := by
  unfold upto
  rw [List.range_succ_eq_map, List.map_cons, List.map_map]
  congr 1
  · simp
  · apply List.map_congr_left
    intro k _
    simp only [Function.comp]
    congr 1
    omega
@[simp] theorem zipG_list {xs ys : List D} : zipG [.list xs, .list ys] = some (zipD xs ys) := rfl
@[simp] theorem zipG_tuple {xs ys : List D} : zipG [.tuple xs, .tuple ys] = some (zipD xs ys) := rfl
@[simp] theorem zipD_cons {x y : D} {xs ys : List D} : zipD (x :: xs) (y :: ys) = .tuple [x, y] :: zipD xs ys := rfl
@[simp] theorem zipD_nil {ys : List D} : zipD [] ys = [] := by cases ys <;> rfl
@[simp] theorem enumG_list {xs : List D} : enumG [.list xs] = some (enumFrom0 0 xs) := rfl
@[simp] theorem enumG_tuple {xs : List D} : enumG [.tuple xs] = some (enumFrom0 0 xs) := rfl
/-! calls -/
def callK (n : Nat) (mf : Mf) (as : List AV) : Fn Sl := fun γ1 => match argsSl γ1 as with
  | none => .bad
  | some ss => match dis as && as.length == n with
    | false => .bad
    | true => match mf ss with
      | .ok (r, outs) => .ok r (backs as outs 0 γ1)
      | .ex e => .ex e γ1
      | .bad => .bad
@[simp] theorem ev_callS {mf : Mf} {fs : Fn (List AV)} : callS n mf [] fs γ = (fs γ).bind fun as γ1 => callK n mf as γ1 := by
  unfold callS callK
  simp only [List.map_nil, List.append_nil]
  all_goals rfl
/-- what comes of a call whose arguments are data -/
def resK (r : R (Sl × Eg.Env)) (γ : Eg.Env) : RE Sl := match r with
  | .ok (r, _) => .ok r γ
  | .ex e => .ex e γ
  | .bad => .bad
@[simp] theorem resK_ok {r : Sl} {o : Eg.Env} : resK (.ok (r, o)) γ = .ok r γ := rfl
@[simp] theorem resK_ex {e : Xn} : resK (.ex e) γ = .ex e γ := rfl
theorem backs_data {outs : List Sl} : ∀ (ds : List D) (k : Nat) (γ : Eg.Env), backs (ds.map AV.d) outs k γ = γ := by
  intro ds
  have hp : ∀ j, posOf j (ds.map AV.d) = none := fun j => by
    induction ds with
    | nil => rfl
    | cons d ds ih => show (posOf j (ds.map AV.d)).map (· + 1) = none; rw [ih]; rfl
  intro k γ
  induction γ generalizing k with
  | nil => rfl
  | cons s γ ih =>
    unfold backs
    rw [hp k, ih]
theorem callK_data {mf : Mf} (ds : List D) (h : ds.length = n) : callK n mf (ds.map AV.d) γ = resK (mf (ds.map Sl.d)) γ := by
  have ha : argsSl γ (ds.map AV.d) = some (ds.map Sl.d) := by
    clear h
    induction ds with
    | nil => rfl
    | cons d ds ih =>
      show (match argSl γ (.d d) with
        | none => none
        | some s => (argsSl γ (ds.map AV.d)).map (s :: ·)) = _
      rw [ih]; rfl
  have hd : dis (ds.map AV.d) = true := by
    clear h ha
    induction ds with
    | nil => rfl
    | cons d ds ih => exact ih
  unfold callK resK
  rw [ha, hd]
  simp only [List.length_map, h, beq_self_eq_true, Bool.and_self]
  cases mf (ds.map Sl.d) with
  | ok ro => simp only [backs_data]
  | ex e => rfl
  | bad => rfl
@[simp] theorem callK_d0 {mf : Mf} : callK 0 mf [] γ = resK (mf []) γ := callK_data [] rfl
@[simp] theorem callK_d1 {mf : Mf} {a : D} : callK 1 mf [.d a] γ = resK (mf [.d a]) γ := callK_data [a] rfl
@[simp] theorem callK_d2 {mf : Mf} {a b : D} : callK 2 mf [.d a, .d b] γ = resK (mf [.d a, .d b]) γ := callK_data [a, b] rfl
@[simp] theorem callK_d3 {mf : Mf} {a b c : D} : callK 3 mf [.d a, .d b, .d c] γ = resK (mf [.d a, .d b, .d c]) γ := callK_data [a, b, c] rfl
@[simp] theorem callK_d4 {mf : Mf} {a b c d : D} : callK 4 mf [.d a, .d b, .d c, .d d] γ = resK (mf [.d a, .d b, .d c, .d d]) γ := callK_data [a, b, c, d] rfl
@[simp] theorem callK_d5 {mf : Mf} {a b c d e : D} : callK 5 mf [.d a, .d b, .d c, .d d, .d e] γ = resK (mf [.d a, .d b, .d c, .d d, .d e]) γ := callK_data [a, b, c, d, e] rfl
/-! a first argument that may be changed -/
def setIo (s : Sl) (o : Option Sl) : Sl := newSl s o
def res1 (r : R (Sl × Eg.Env)) (i : Nat) (s : Sl) (γ : Eg.Env) : RE Sl := match r with
  | .ok (r, outs) => .ok r (γ.set i (newSl s outs[0]?))
  | .ex e => .ex e γ
  | .bad => .bad
theorem backs_pk {outs : List Sl} (ds : List D) (i : Nat) : ∀ (γ : Eg.Env) (k : Nat), backs (.pk i :: ds.map AV.d) outs k γ = match γ[i - k]? with
    | some s => if k ≤ i then γ.set (i - k) (newSl s outs[0]?) else γ
    | none => γ := by
  have hp : ∀ j, posOf j (.pk i :: ds.map AV.d) = if i = j then some 0 else none := fun j => by
    have : posOf j (ds.map AV.d) = none := by
      induction ds with
      | nil => rfl
      | cons d ds ih => show (posOf j (ds.map AV.d)).map (· + 1) = none; rw [ih]; rfl
    show (if i = j then some 0 else (posOf j (ds.map AV.d)).map (· + 1)) = _
    rw [this]; rfl
  intro γ
  induction γ with
  | nil => intro k; simp [backs]
  | cons s γ ih =>
    intro k
    unfold backs
    rw [hp k, ih (k + 1)]
    by_cases h : i = k
    · subst h
      have e1 : i - i = 0 := by omega
      rw [if_pos rfl, e1]
      have e2 : ¬ i + 1 ≤ i := by omega
      simp only [List.getElem?_cons_zero, e2, if_false]
      rw [if_pos (Nat.le_refl _)]
      cases γ[i - (i + 1)]? <;> rfl
    · rw [if_neg h]
      by_cases h2 : k ≤ i
      · obtain ⟨m, rfl⟩ : ∃ m, i = k + 1 + m := ⟨i - (k + 1), by omega⟩
        have e1 : k + 1 + m - k = m + 1 := by omega
        have e2 : k + 1 + m - (k + 1) = m := by omega
        rw [e1, e2]
        simp only [List.getElem?_cons_succ]
        cases γ[m]? with
        | none => rfl
        | some t => 
          have h3 : k + 1 ≤ k + 1 + m := by omega
          have h4 : k ≤ k + 1 + m := by omega
          simp only [h3, h4, if_true, List.set_cons_succ]
      · have h3 : ¬ k + 1 ≤ i := by omega
        have e1 : i - k = 0 := by omega
        rw [e1]
        simp only [List.getElem?_cons_zero, h2, h3, if_false]
        cases γ[i - (k + 1)]? <;> rfl
theorem posOf_data (j : Nat) : ∀ ds : List D, posOf j (ds.map AV.d) = none
  | [] => rfl
  | d :: ds => by show (posOf j (ds.map AV.d)).map (· + 1) = none; rw [posOf_data j ds]; rfl
theorem dis_data : ∀ ds : List D, dis (ds.map AV.d) = true
  | [] => rfl
  | d :: ds => dis_data ds
theorem callK_pk {mf : Mf} (ds : List D) (h : ds.length + 1 = n) {s t : Sl} (hs : γ[i]? = some s) (hm : argSl γ (.pk i) = some t) : callK n mf (.pk i :: ds.map AV.d) γ = res1 (mf (t :: ds.map Sl.d)) i s γ := by
  have ha0 : argsSl γ (ds.map AV.d) = some (ds.map Sl.d) := by
    clear h
    induction ds with
    | nil => rfl
    | cons d ds ih =>
      show (match argSl γ (.d d) with
        | none => none
        | some s => (argsSl γ (ds.map AV.d)).map (s :: ·)) = _
      rw [ih]; rfl
  have ha : argsSl γ (.pk i :: ds.map AV.d) = some (t :: ds.map Sl.d) := by
    show (match argSl γ (.pk i) with
        | none => none
        | some s => (argsSl γ (ds.map AV.d)).map (s :: ·)) = _
    rw [ha0]
    rw [hm]; rfl
  have hd : dis (.pk i :: ds.map AV.d) = true := by
    show ((posOf i (ds.map AV.d)).isNone && dis (ds.map AV.d)) = true
    rw [posOf_data, dis_data]; rfl
  unfold callK res1
  rw [ha, hd]
  simp only [List.length_map, List.length_cons, h, beq_self_eq_true, Bool.and_self]
  cases mf (t :: ds.map Sl.d) with
  | ok ro => simp only [backs_pk, Nat.sub_zero, hs, Nat.zero_le, if_true]
  | ex e => rfl
  | bad => rfl
/-- as callK_pk, for simp: the slot is looked at -/
def callI (n : Nat) (mf : Mf) (i : Nat) (ds : List D) (γ : Eg.Env) : RE Sl := match γ[i]? with
  | some (.w m) => res1 (mf (.io m :: ds.map Sl.d)) i (.w m) γ
  | some (.io m) => res1 (mf (.io m :: ds.map Sl.d)) i (.io m) γ
  | some (.scr ns) => res1 (mf (.scr ns :: ds.map Sl.d)) i (.scr ns) γ
  | _ => .bad
theorem callK_pk' {mf : Mf} (ds : List D) (h : ds.length + 1 = n) : callK n mf (.pk i :: ds.map AV.d) γ = callI n mf i ds γ := by
  unfold callI
  cases hs : γ[i]? with
  | none =>
    unfold callK argsSl argSl
    simp only [hs]
  | some s =>
    cases s with
    | w m => exact callK_pk ds h hs (by unfold argSl; simp only; rw [hs])
    | io m => exact callK_pk ds h hs (by unfold argSl; simp only; rw [hs])
    | scr m => exact callK_pk ds h hs (by unfold argSl; simp only; rw [hs])
    | _ => unfold callK argsSl argSl; simp only [hs]
@[simp] theorem callK_p1 {mf : Mf} : callK 1 mf [.pk i] γ = callI 1 mf i [] γ := callK_pk' [] rfl
@[simp] theorem callK_p2 {mf : Mf} {a : D} : callK 2 mf [.pk i, .d a] γ = callI 2 mf i [a] γ := callK_pk' [a] rfl
@[simp] theorem callK_p3 {mf : Mf} {a b : D} : callK 3 mf [.pk i, .d a, .d b] γ = callI 3 mf i [a, b] γ := callK_pk' [a, b] rfl
@[simp] theorem callK_p4 {mf : Mf} {a b c : D} : callK 4 mf [.pk i, .d a, .d b, .d c] γ = callI 4 mf i [a, b, c] γ := callK_pk' [a, b, c] rfl
@[simp] theorem ev_callI {mf : Mf} {ds : List D} : callI n mf i ds γ = match γ[i]? with
  | some (.w m) => res1 (mf (.io m :: ds.map Sl.d)) i (.w m) γ
  | some (.io m) => res1 (mf (.io m :: ds.map Sl.d)) i (.io m) γ
  | some (.scr ns) => res1 (mf (.scr ns :: ds.map Sl.d)) i (.scr ns) γ
  | _ => .bad := rfl
@[simp] theorem res1_ok {r s : Sl} {o : Eg.Env} : res1 (.ok (r, o)) i s γ = .ok r (γ.set i (newSl s o[0]?)) := rfl
@[simp] theorem res1_ex {e : Xn} {s : Sl} : res1 (.ex e) i s γ = .ex e γ := rfl
@[simp] theorem newSl_w {m m' : Md} : newSl (.w m) (some (.io m')) = .w m' := rfl
@[simp] theorem newSl_no {s : Sl} : newSl s (some .no) = .no := rfl
@[simp] theorem newSl_io {m m' : Md} : newSl (.io m) (some (.io m')) = .io m' := rfl
/-! the body's end -/
@[simp] theorem runF_ap {more : Nat} {body : Fn Fl} {ss : List Sl} : runF more body ss = match body (ss ++ List.replicate more .no) with
  | .ok (.rt r) γ' => .ok (r, outsOf ss γ')
  | .ok .nx γ' => .ok (.d .none, outsOf ss γ')
  | .ex e _ => .ex e
  | _ => .bad := rfl
@[simp] theorem outsOf_nil {γ : Eg.Env} : outsOf [] γ = [] := by cases γ <;> rfl
@[simp] theorem outsOf_d {x : D} {ss : List Sl} {s : Sl} {γ : Eg.Env} : outsOf (.d x :: ss) (s :: γ) = .no :: outsOf ss γ := rfl
@[simp] theorem outsOf_io {x m : Md} {ss : List Sl} {γ : Eg.Env} : outsOf (.io x :: ss) (.io m :: γ) = .io m :: outsOf ss γ := rfl
end
end Eg
end
section
/-! E33: loops, comprehensions, dicts evaluated -/
namespace Eg
open PySem PySem.Spec L2
open PyProof.Rows hiding St

section
variable {α β δ : Type} {γ γ1 : Eg.Env} {i j n : Nat} {k : Nat}
@[simp] theorem forL_nil {t : Tg} {f : Fn Fl} : forL t f [] γ = .ok .nx γ := rfl
@[simp] theorem forL_cons {t : Tg} {f : Fn Fl} {d : D} {ds : List D} : forL t f (d :: ds) γ = match t d γ with
    | none => .bad
    | some γ1 => (f γ1).bind fun fl γ2 => match fl with
      | .nx => forL t f ds γ2
      | .ct => forL t f ds γ2
      | .bk => .ok .nx γ2
      | .rt r => .ok (.rt r) γ2 := rfl
theorem while_step {t : Fn Bool} {f : Fn Fl} (h : 0 < n) : whileS t f n γ = (t γ).bind fun b γ1 => if b = true then (f γ1).bind fun fl γ2 => match fl with
      | .nx => whileS t f (n - 1) γ2
      | .ct => whileS t f (n - 1) γ2
      | .bk => .ok .nx γ2
      | .rt r => .ok (.rt r) γ2
    else .ok .nx γ1 := by
  obtain ⟨m, rfl⟩ : ∃ m, n = m + 1 := ⟨n - 1, by omega⟩
  rfl
def noXK (r : RE α) : RE α := match r with
  | .ex _ _ => .bad
  | r => r
@[simp] theorem ev_noX {f : Fn α} : noX f γ = noXK (f γ) := rfl
@[simp] theorem noXK_ok {a : α} : noXK (.ok a γ) = .ok a γ := rfl
@[simp] theorem noXK_ite {c : Prop} [Decidable c] {a b : RE α} : noXK (if c then a else b) = if c then noXK a else noXK b := by split <;> rfl
@[simp] theorem ev_plainAt : plainAt γ i = match γ[i]? with
  | some s => plainS s
  | none => false := rfl
@[simp] theorem plainS_no : plainS .no = true := rfl
@[simp] theorem plainS_d {x : D} : plainS (.d x) = true := rfl
@[simp] theorem canWipe_nil : canWipe [] γ = true := rfl
@[simp] theorem canWipe_cons {v : Nat} {vs : List Nat} : canWipe (v :: vs) γ = (plainAt γ v && canWipe vs γ) := rfl
@[simp] theorem wipeE_nil : wipeE [] γ = γ := rfl
@[simp] theorem wipeE_cons {v : Nat} {vs : List Nat} : wipeE (v :: vs) γ = (wipeE vs γ).set v .no := rfl
@[simp] theorem restE_nil {γ0 : Eg.Env} : restE [] γ0 γ = γ := rfl
@[simp] theorem restE_cons {v : Nat} {vs : List Nat} {γ0 : Eg.Env} : restE (v :: vs) γ0 γ = (restE vs γ0 γ).set v (γ0[v]?.getD .no) := rfl
@[simp] theorem ev_lcS {vs : List Nat} {src : Fn (List D)} {t : Tg} {tt : Fn Bool} {te : Fn D} : lcS vs src t tt te γ = (src γ).bind fun ds γ1 => if canWipe vs γ1 && decide (ds.length ≤ sizeLine) then
    (lcL vs t tt te ds γ1).bind fun xs γ2 => if canWipe vs γ2 then .ok (.w (.l xs)) (restE vs γ1 γ2) else .bad
  else .bad := rfl
@[simp] theorem lcL_nil {vs : List Nat} {t : Tg} {tt : Fn Bool} {te : Fn D} : lcL vs t tt te [] γ = .ok [] γ := rfl
@[simp] theorem lcL_cons {vs : List Nat} {t : Tg} {tt : Fn Bool} {te : Fn D} {d : D} {ds : List D} : lcL vs t tt te (d :: ds) γ = if canWipe vs γ then match t d (wipeE vs γ) with
    | none => .bad
    | some γ1 => (noX tt γ1).bind fun b γ2 => if b = true then (noX te γ2).bind fun x γ3 => (lcL vs t tt te ds γ3).bind fun xs γ4 => .ok (x :: xs) γ4 else lcL vs t tt te ds γ2
    else .bad := rfl
@[simp] theorem ev_lc2S {vs vs1 : List Nat} {src src1 : Fn (List D)} {t t1 : Tg} {tt tt1 : Fn Bool} {te : Fn D} : lc2S vs vs1 src t tt src1 t1 tt1 te γ = (src γ).bind fun ds γ1 => if canWipe vs γ1 then
    (lc2L vs vs1 t tt src1 t1 tt1 te 0 ds γ1).bind fun xs γ2 => if canWipe vs γ2 then .ok (.w (.l xs)) (restE vs γ1 γ2) else .bad
  else .bad := rfl
@[simp] theorem lc2L_nil {vs vs1 : List Nat} {src1 : Fn (List D)} {t t1 : Tg} {tt tt1 : Fn Bool} {te : Fn D} : lc2L vs vs1 t tt src1 t1 tt1 te n [] γ = .ok [] γ := by cases n <;> rfl
@[simp] theorem lc2L_cons {vs vs1 : List Nat} {src1 : Fn (List D)} {t t1 : Tg} {tt tt1 : Fn Bool} {te : Fn D} {d : D} {ds : List D} : lc2L vs vs1 t tt src1 t1 tt1 te n (d :: ds) γ = if canWipe vs γ then match t d (wipeE vs γ) with
    | none => .bad
    | some γ1 => (noX tt γ1).bind fun b γ2 => if b = true then (noX src1 γ2).bind fun ds1 γ3 => if n + ds1.length ≤ sizeLine then
          (noX (lcL vs1 t1 tt1 te ds1) γ3).bind fun xs γ4 => (lc2L vs vs1 t tt src1 t1 tt1 te (n + xs.length) ds γ4).bind fun ys γ5 => .ok (xs ++ ys) γ5
        else .bad
      else lc2L vs vs1 t tt src1 t1 tt1 te n ds γ2
    else .bad := by cases n <;> rfl
/-- a comprehension whose test and item leave the slots -/
theorem lcL_pure {vs : List Nat} {t : Tg} {tt : Fn Bool} {te : Fn D} {γ0 : Eg.Env} (gd : D → Eg.Env) (p : D → Bool) (f : D → D) :
    ∀ (ds : List D) (γ : Eg.Env), canWipe vs γ = true → wipeE vs γ = γ0 →
    (∀ d ∈ ds, t d γ0 = some (gd d) ∧ canWipe vs (gd d) = true ∧ wipeE vs (gd d) = γ0 ∧ tt (gd d) = .ok (p d) (gd d) ∧ (p d = true → te (gd d) = .ok (f d) (gd d))) →
    lcL vs t tt te ds γ = .ok ((ds.filter p).map f) ((ds.map gd).getLast?.getD γ)
  | [], γ, _, _, _ => rfl
  | d :: ds, γ, hc, hw, h => by
    obtain ⟨h1, h2, h3, h4, h5⟩ := h d List.mem_cons_self
    have ih := lcL_pure gd p f ds (gd d) h2 h3 fun x hx => h x (List.mem_cons_of_mem _ hx)
    have e : ((d :: ds).map gd).getLast?.getD γ = (ds.map gd).getLast?.getD (gd d) := by
      cases ds with
      | nil => rfl
      | cons x ds => simp [List.getLast?_cons]
    rw [e, lcL_cons, hc, if_pos rfl, hw, h1]
    clear e
    simp only [ev_noX, h4, noXK_ok, RE.bind_ok]
    cases hp : p d with
    | true =>
      rw [if_pos rfl, h5 hp]
      simp only [noXK_ok, RE.bind_ok, ih, List.filter_cons, hp, if_true, List.map_cons]
    | false =>
      simp only [Bool.false_eq_true, if_false, ih, List.filter_cons, hp]
theorem getLast_env {gd : D → Eg.Env} {P : Eg.Env → Prop} : ∀ (ds : List D) (γ : Eg.Env), P γ → (∀ d ∈ ds, P (gd d)) → P ((ds.map gd).getLast?.getD γ)
  | [], γ, h, _ => h
  | d :: ds, γ, h, h2 => by
    have e : ((d :: ds).map gd).getLast?.getD γ = (ds.map gd).getLast?.getD (gd d) := by
      cases ds with
      | nil => rfl
      | cons x ds => simp [List.getLast?_cons]
    rw [e]
    exact getLast_env ds (gd d) (h2 d List.mem_cons_self) fun x hx => h2 x (List.mem_cons_of_mem _ hx)
theorem lcS_pure {vs : List Nat} {src : Fn (List D)} {t : Tg} {tt : Fn Bool} {te : Fn D} {ds : List D} {γs : Eg.Env} (gd : D → Eg.Env) (p : D → Bool) (f : D → D) (hsrc : src γs = .ok ds γ) (hl : ds.length ≤ sizeLine) (hc : canWipe vs γ = true) (hr : restE vs γ γ = γ)
    (h : ∀ d ∈ ds, t d (wipeE vs γ) = some (gd d) ∧ canWipe vs (gd d) = true ∧ wipeE vs (gd d) = wipeE vs γ ∧ restE vs γ (gd d) = γ ∧ tt (gd d) = .ok (p d) (gd d) ∧ (p d = true → te (gd d) = .ok (f d) (gd d))) :
    lcS vs src t tt te γs = .ok (.w (.l ((ds.filter p).map f))) γ := by
  have e := lcL_pure (vs := vs) (t := t) (tt := tt) (te := te) gd p f ds γ hc rfl fun d hd => let ⟨h1, h2, h3, _, h5, h6⟩ := h d hd; ⟨h1, h2, h3, h5, h6⟩
  have c := getLast_env (gd := gd) (P := fun γ' => canWipe vs γ' = true ∧ restE vs γ γ' = γ) ds γ ⟨hc, hr⟩ fun d hd => let ⟨_, h2, _, h4, _⟩ := h d hd; ⟨h2, h4⟩
  rw [ev_lcS, hsrc]
  simp only [RE.bind_ok, hc, hl, decide_true, Bool.and_self, if_true, e, c.1, c.2]
/-- without a test -/
theorem lcS_map {vs : List Nat} {src : Fn (List D)} {t : Tg} {te : Fn D} {ds : List D} {γs : Eg.Env} (gd : D → Eg.Env) (f : D → D) (hsrc : src γs = .ok ds γ) (hl : ds.length ≤ sizeLine) (hc : canWipe vs γ = true) (hr : restE vs γ γ = γ)
    (h : ∀ d ∈ ds, t d (wipeE vs γ) = some (gd d) ∧ canWipe vs (gd d) = true ∧ wipeE vs (gd d) = wipeE vs γ ∧ restE vs γ (gd d) = γ ∧ te (gd d) = .ok (f d) (gd d)) :
    lcS vs src t yesB te γs = .ok (.w (.l (ds.map f))) γ := by
  have e := lcS_pure (tt := yesB) gd (fun _ => true) f hsrc hl hc hr fun d hd => let ⟨h1, h2, h3, h4, h5⟩ := h d hd; ⟨h1, h2, h3, h4, rfl, fun _ => h5⟩
  rw [e, List.filter_eq_self.mpr fun _ _ => rfl]
/-! two clauses -/
theorem lc2S_map {vs vs1 : List Nat} {src src1 : Fn (List D)} {t t1 : Tg} {te : Fn D} {ds : List D} {γs : Eg.Env} (gd : D → Eg.Env) (g1 : D → D → Eg.Env) (fs : D → List D) (f : D → D → D) (hsrc : src γs = .ok ds γ) (hl : (ds.map fun d => (fs d).length).sum ≤ sizeLine) (hc : canWipe vs γ = true) (hr : restE vs γ γ = γ)
    (h : ∀ d ∈ ds, t d (wipeE vs γ) = some (gd d) ∧ src1 (gd d) = .ok (fs d) (gd d) ∧ canWipe vs1 (gd d) = true ∧ canWipe vs (gd d) = true ∧ wipeE vs (gd d) = wipeE vs γ ∧ restE vs γ (gd d) = γ)
    (h1 : ∀ d ∈ ds, ∀ e ∈ fs d, t1 e (wipeE vs1 (gd d)) = some (g1 d e) ∧ canWipe vs1 (g1 d e) = true ∧ wipeE vs1 (g1 d e) = wipeE vs1 (gd d) ∧ te (g1 d e) = .ok (f d e) (g1 d e) ∧ canWipe vs (g1 d e) = true ∧ wipeE vs (g1 d e) = wipeE vs γ ∧ restE vs γ (g1 d e) = γ) :
    lc2S vs vs1 src t yesB src1 t1 yesB te γs = .ok (.w (.l (ds.map fun d => (fs d).map (f d)).flatten)) γ := by
  have go : ∀ (l : List D) (m : Nat) (γ' : Eg.Env), (∀ d ∈ l, d ∈ ds) → m + (l.map fun d => (fs d).length).sum ≤ sizeLine → canWipe vs γ' = true → wipeE vs γ' = wipeE vs γ → restE vs γ γ' = γ →
      ∃ γ'', lc2L vs vs1 t yesB src1 t1 yesB te m l γ' = .ok (l.map fun d => (fs d).map (f d)).flatten γ'' ∧ canWipe vs γ'' = true ∧ restE vs γ γ'' = γ := by
    intro l
    induction l with
    | nil => intro m γ' _ _ h2 h3 h4; exact ⟨γ', lc2L_nil, h2, h4⟩
    | cons d l ih =>
      intro m γ' hm hs h2 h3 h4
      obtain ⟨q1, q2, q3, q4, q5, q6⟩ := h d (hm d List.mem_cons_self)
      have r := h1 d (hm d List.mem_cons_self)
      rw [List.map_cons, List.sum_cons] at hs
      have e := lcL_pure (vs := vs1) (t := t1) (tt := yesB) (te := te) (g1 d) (fun _ => true) (f d) (fs d) (gd d) q3 rfl fun x hx => let ⟨a, b, c, e, _⟩ := r x hx; ⟨a, b, c, rfl, fun _ => e⟩
      rw [List.filter_eq_self.mpr fun _ _ => rfl] at e
      have c := getLast_env (gd := g1 d) (P := fun γ' => canWipe vs γ' = true ∧ wipeE vs γ' = wipeE vs γ ∧ restE vs γ γ' = γ) (fs d) (gd d) ⟨q4, q5, q6⟩ fun x hx => let ⟨_, _, _, _, b, c, e⟩ := r x hx; ⟨b, c, e⟩
      obtain ⟨γ'', i1, i2, i3⟩ := ih (m + ((fs d).map (f d)).length) _ (fun x hx => hm x (List.mem_cons_of_mem _ hx)) (by rw [List.length_map]; omega) c.1 c.2.1 c.2.2
      refine ⟨γ'', ?_, i2, i3⟩
      rw [lc2L_cons, h2, if_pos rfl, h3, q1]
      simp only [ev_noX, ev_yesB, noXK_ok, RE.bind_ok, if_true, q2, e, i1]
      rw [if_pos (by omega)]
      simp only [List.map_cons, List.flatten_cons]
  obtain ⟨γ'', e1, e2, e3⟩ := go ds 0 γ (fun _ h => h) (by omega) hc rfl hr
  rw [ev_lc2S, hsrc]
  simp only [RE.bind_ok, hc, if_true, e1, e2, e3]
/-! for, by an invariant -/
theorem forL_inv {t : Tg} {f : Fn Fl} (I : Nat → Eg.Env → Prop) (Q : Sl → Eg.Env → Prop) : ∀ (ds : List D) (k : Nat) (γ : Eg.Env), I k γ →
    (∀ (j : Nat) (d : D) (γ : Eg.Env), ds[j]? = some d → I (k + j) γ → ∃ γ1 fl γ2, t d γ = some γ1 ∧ f γ1 = .ok fl γ2 ∧ match fl with
      | .nx => I (k + j + 1) γ2
      | .ct => I (k + j + 1) γ2
      | .bk => False
      | .rt r => Q r γ2) →
    (∃ γ', forL t f ds γ = .ok .nx γ' ∧ I (k + ds.length) γ') ∨ ∃ r γ', forL t f ds γ = .ok (.rt r) γ' ∧ Q r γ'
  | [], k, γ, h, _ => .inl ⟨γ, rfl, h⟩
  | d :: ds, k, γ, h, hs => by
    obtain ⟨γ1, fl, γ2, e1, e2, q⟩ := hs 0 d γ rfl h
    rw [forL_cons, e1]
    simp only [e2, RE.bind_ok]
    have next : I (k + 1) γ2 → (∃ γ', forL t f ds γ2 = .ok .nx γ' ∧ I (k + (d :: ds).length) γ') ∨ ∃ r γ', forL t f ds γ2 = .ok (.rt r) γ' ∧ Q r γ' := fun q => by
      have ih := forL_inv I Q ds (k + 1) γ2 q fun j d' γ' hj hI => by
        have z := hs (j + 1) d' γ' (by simpa using hj) (by rw [show k + (j + 1) = k + 1 + j by omega]; exact hI)
        rw [show k + (j + 1) = k + 1 + j by omega] at z
        exact z
      rw [show k + (d :: ds).length = k + 1 + ds.length by rw [List.length_cons]; omega]
      exact ih
    cases fl with
    | nx => exact next q
    | ct => exact next q
    | bk => exact q.elim
    | rt r => exact .inr ⟨r, γ2, rfl, q⟩
/-- no way out -/
theorem forL_run {t : Tg} {f : Fn Fl} (I : Nat → Eg.Env → Prop) (ds : List D) (γ : Eg.Env) (h0 : I 0 γ)
    (hs : ∀ (j : Nat) (d : D) (γ : Eg.Env), ds[j]? = some d → I j γ → ∃ γ1 γ2, t d γ = some γ1 ∧ f γ1 = .ok .nx γ2 ∧ I (j + 1) γ2) :
    ∃ γ', forL t f ds γ = .ok .nx γ' ∧ I ds.length γ' := by
  rcases forL_inv I (fun _ _ => False) ds 0 γ h0 fun j d γ hj hI => by
    rw [Nat.zero_add] at hI ⊢
    obtain ⟨γ1, γ2, e1, e2, q⟩ := hs j d γ hj hI
    exact ⟨γ1, .nx, γ2, e1, e2, q⟩ with ⟨γ', e, q⟩ | ⟨_, _, _, q⟩
  · rw [Nat.zero_add] at q; exact ⟨γ', e, q⟩
  · exact q.elim
/-! while, by an invariant and turns left -/
theorem while_inv {t : Fn Bool} {f : Fn Fl} (I : Nat → Eg.Env → Prop) (J : Eg.Env → Prop) (Q : Sl → Eg.Env → Prop)
    (hs : ∀ (m : Nat) (γ : Eg.Env), I m γ → ∃ b γ1, t γ = .ok b γ1 ∧ match b with
      | false => J γ1
      | true => 0 < m ∧ ∃ fl γ2, f γ1 = .ok fl γ2 ∧ match fl with
        | .nx => I (m - 1) γ2
        | .ct => I (m - 1) γ2
        | .bk => J γ2
        | .rt r => Q r γ2) :
    ∀ (m n : Nat) (γ : Eg.Env), m < n → I m γ → (∃ γ', whileS t f n γ = .ok .nx γ' ∧ J γ') ∨ ∃ r γ', whileS t f n γ = .ok (.rt r) γ' ∧ Q r γ' := by
  intro m
  induction m using Nat.strongRecOn with
  | _ m ih =>
    intro n γ hn hI
    obtain ⟨b, γ1, e1, q⟩ := hs m γ hI
    rw [while_step (by omega), e1]
    simp only [RE.bind_ok]
    cases b with
    | false => exact .inl ⟨γ1, rfl, q⟩
    | true =>
      obtain ⟨hm, fl, γ2, e2, q⟩ := q
      simp only [if_true, e2, RE.bind_ok]
      cases fl with
      | nx => exact ih (m - 1) (by omega) (n - 1) γ2 (by omega) q
      | ct => exact ih (m - 1) (by omega) (n - 1) γ2 (by omega) q
      | bk => exact .inl ⟨γ2, rfl, q⟩
      | rt r => exact .inr ⟨r, γ2, rfl, q⟩
/-! dicts -/
@[simp] theorem ev_lockF {f : Fn α} : lockF i f γ = (nameS i γ).bind fun _ γ1 => match dictAt i γ1 with
  | some _ => noX f γ1
  | none => .bad := rfl
@[simp] theorem ev_dictAt : dictAt i γ = match γ[i]? with
  | some (.d (.dict kvs)) => some kvs
  | _ => none := rfl
@[simp] theorem ev_dictSrc {sel : D × D → D} : dictSrc i sel γ = match dictAt i γ with
  | some kvs => .ok (kvs.map sel) γ
  | none => .bad := rfl
@[simp] theorem ev_prsS_cons {p : Fn D × Fn D} {r : List (Fn D × Fn D)} : prsS (p :: r) γ = (p.1 γ).bind fun k γ1 => (p.2 γ1).bind fun v γ2 => (prsS r γ2).bind fun xs γ3 => .ok ((k, v) :: xs) γ3 := rfl
@[simp] theorem ev_dispS {l : List (Fn D × Fn D)} : dispS l γ = (prsS l γ).bind fun ds γ1 => match keysOf ds with
  | some qs => if qs.length ≤ 15 then .ok (.w (.k (mergeD [] qs))) γ1 else .bad
  | none => .bad := rfl
@[simp] theorem ev_dcS {vs : List Nat} {src : Fn (List D)} {t : Tg} {tt : Fn Bool} {tk te : Fn D} : dcS vs src t tt tk te γ = (src γ).bind fun ds γ1 => if canWipe vs γ1 && decide (ds.length ≤ sizeLine) then
    (dcL vs t tt tk te ds γ1).bind fun xs γ2 => if canWipe vs γ2 then .ok (.w (.k (mergeD [] xs))) (restE vs γ1 γ2) else .bad
  else .bad := rfl
@[simp] theorem dcL_nil {vs : List Nat} {t : Tg} {tt : Fn Bool} {tk te : Fn D} : dcL vs t tt tk te [] γ = .ok [] γ := rfl
@[simp] theorem dcL_cons {vs : List Nat} {t : Tg} {tt : Fn Bool} {tk te : Fn D} {d : D} {ds : List D} : dcL vs t tt tk te (d :: ds) γ = if canWipe vs γ then match t d (wipeE vs γ) with
    | none => .bad
    | some γ1 => (noX tt γ1).bind fun b γ2 => if b = true then (noX tk γ2).bind fun k γk => match toKey k with
      | none => .bad
      | some q => (noX te γk).bind fun x γ3 => (dcL vs t tt tk te ds γ3).bind fun xs γ4 => .ok ((q, x) :: xs) γ4
      else dcL vs t tt tk te ds γ2
    else .bad := rfl
@[simp] theorem ev_slotK : slotK γ i = match γ[i]? with
  | some s => getK s
  | none => none := rfl
@[simp] theorem getK_w {kvs : List (D × D)} : getK (.w (.k kvs)) = some kvs := rfl
@[simp] theorem getK_io {kvs : List (D × D)} : getK (.io (.k kvs)) = some kvs := rfl
@[simp] theorem ev_setK {kvs : List (D × D)} : setK γ i kvs = match γ[i]? with
  | some s => γ.set i (putK' s kvs)
  | none => γ := rfl
@[simp] theorem putK'_w {m : Md} {kvs : List (D × D)} : putK' (.w m) kvs = .w (.k kvs) := rfl
@[simp] theorem putK'_io {m : Md} {kvs : List (D × D)} : putK' (.io m) kvs = .io (.k kvs) := rfl
@[simp] theorem ev_setKey {fi fv : Fn D} : setKey i fi fv γ = (fv γ).bind fun d γ1 => match slotK γ1 i with
  | none => .bad
  | some _ => (fi γ1).bind fun k γ2 => putKey i d k γ2 := rfl
@[simp] theorem ev_putKey {d k : D} : putKey i d k γ = match slotK γ i, toKey k with
  | some kvs, some q => if kvs.length < sizeLine then .ok .nx (setK γ i (putD q d kvs)) else .bad
  | _, _ => .bad := rfl
@[simp] theorem ev_updS {fe : Fn D} : updS i fe γ = match slotK γ i with
  | none => .bad
  | some _ => (fe γ).bind (updK i) := rfl
@[simp] theorem ev_updK {ls : List (D × D)} : updK i (.dict ls) γ = match slotK γ i with
  | none => .bad
  | some kvs => if kvs.length + ls.length ≤ sizeLine then .ok (.d .none) (setK γ i (mergeP kvs ls)) else .bad := rfl
@[simp] theorem keyD_inl {i : Int} : keyD (.inl i) = .int i := rfl
@[simp] theorem isKey_int {q : L2.Key} {i : Int} : isKey q (.int i) = decide (.inl i = q) := rfl
@[simp] theorem toKey_int {i : Int} : toKey (.int i) = some (.inl i) := rfl
@[simp] theorem Md_data_l {ds : List D} : Md.data (.l ds) = .list ds := rfl
@[simp] theorem Md_data_k {ds : List (D × D)} : Md.data (.k ds) = .dict ds := rfl
@[simp] theorem inD_dict {i : Int} {kvs : List (D × D)} : inD (.int i) (.dict kvs) = .ok (.d (.bool (lookD kvs (.inl i)).isSome)) := rfl
@[simp] theorem notInD_dict {i : Int} {kvs : List (D × D)} : notInD (.int i) (.dict kvs) = .ok (.d (.bool (!(lookD kvs (.inl i)).isSome))) := rfl
@[simp] theorem ev_slScr {flo fhi : Fn (Option Int)} : slScr i flo fhi γ = match γ[i]? with
  | some (.scr ns) => (flo γ).bind fun lo γ2 => (fhi γ2).bind fun hi γ3 => .ok (.w (.l ((Eg.cutD ns lo hi).map .int))) γ3
  | _ => .bad := rfl
@[simp] theorem outsOf_scr {ns : List Int} {ss : List Sl} {s : Sl} {γ : Eg.Env} : outsOf (.scr ns :: ss) (s :: γ) = .no :: outsOf ss γ := rfl
@[simp] theorem ev_prsS_nil : prsS [] γ = .ok [] γ := rfl
@[simp] theorem ev_emptyK : emptyK γ = .ok (.w (.k [])) γ := rfl
end
end Eg
end
section
set_option exponentiation.threshold 4000
/-! E34: two arguments that may be changed; texts of data; how data are compared -/
namespace Eg
open PySem PySem.Spec L2
open PyProof.Rows hiding St

section
variable {γ : Eg.Env} {i j n : Nat} {K : PySem.W.Frag}
@[simp] theorem ev_posOf_nil : posOf j [] = none := rfl
@[simp] theorem ev_posOf_pk {as : List AV} : posOf j (.pk i :: as) = if i = j then some 0 else (posOf j as).map (· + 1) := rfl
@[simp] theorem ev_posOf_d {as : List AV} {x : D} : posOf j (.d x :: as) = (posOf j as).map (· + 1) := rfl
@[simp] theorem ev_dis_nil : dis [] = true := rfl
@[simp] theorem ev_dis_pk {as : List AV} : dis (.pk i :: as) = ((posOf i as).isNone && dis as) := rfl
@[simp] theorem ev_dis_d {as : List AV} {x : D} : dis (.d x :: as) = dis as := rfl
@[simp] theorem ev_argSl_d {x : D} : argSl γ (.d x) = some (.d x) := rfl
@[simp] theorem ev_argSl_pk : argSl γ (.pk i) = match γ[i]? with
    | some (.w m) => some (.io m)
    | some (.io m) => some (.io m)
    | some (.scr ns) => some (.scr ns)
    | _ => none := rfl
@[simp] theorem ev_argsSl_nil : argsSl γ [] = some [] := rfl
@[simp] theorem ev_argsSl_cons {a : AV} {as : List AV} : argsSl γ (a :: as) = match argSl γ a with
    | none => none
    | some s => (argsSl γ as).map (s :: ·) := rfl
@[simp] theorem ev_backs_nil {as : List AV} {outs : List Sl} : backs as outs j [] = [] := rfl
@[simp] theorem ev_backs_cons {as : List AV} {outs : List Sl} {s : Sl} : backs as outs j (s :: γ) = (match posOf j as with
  | none => s
  | some k => newSl s outs[k]?) :: backs as outs (j + 1) γ := rfl
/-- what is behind a call -/
def endK (as : List AV) (r : R (Sl × Eg.Env)) (γ : Eg.Env) : RE Sl := match r with
  | .ok (r, outs) => .ok r (backs as outs 0 γ)
  | .ex e => .ex e γ
  | .bad => .bad
@[simp] theorem endK_ok {as : List AV} {r : Sl} {o : Eg.Env} : endK as (.ok (r, o)) γ = .ok r (backs as o 0 γ) := rfl
@[simp] theorem endK_ex {as : List AV} {e : Xn} : endK as (.ex e) γ = .ex e γ := rfl
theorem callK_gen {mf : Mf} {as : List AV} : callK n mf as γ = match argsSl γ as with
  | none => .bad
  | some ss => if dis as = true ∧ as.length = n then endK as (mf ss) γ else .bad := by
  unfold callK
  cases argsSl γ as with
  | none => rfl
  | some ss =>
    by_cases h : dis as = true ∧ as.length = n
    · simp only [h.1, h.2, beq_self_eq_true, Bool.and_self, and_self, if_true]
      unfold endK
      cases mf ss <;> rfl
    · have : (dis as && as.length == n) = false := by
        rw [Bool.and_eq_false_iff]
        by_cases h1 : dis as = true
        · exact .inr (beq_eq_false_iff_ne.mpr fun z => h ⟨h1, z⟩)
        · exact .inl (by simpa using h1)
      simp only [this, if_neg h]
@[simp] theorem callK_p11 {mf : Mf} {i j : Nat} : callK 2 mf [.pk i, .pk j] γ = match argsSl γ [.pk i, .pk j] with
  | none => .bad
  | some ss => if dis [.pk i, .pk j] = true ∧ [AV.pk i, .pk j].length = 2 then endK [.pk i, .pk j] (mf ss) γ else .bad := callK_gen
@[simp] theorem callK_d1p {mf : Mf} {j : Nat} {x : D} : callK 2 mf [.d x, .pk j] γ = match argsSl γ [.d x, .pk j] with
  | none => .bad
  | some ss => if dis [.d x, .pk j] = true ∧ [AV.d x, .pk j].length = 2 then endK [.d x, .pk j] (mf ss) γ else .bad := callK_gen
@[simp] theorem callK_p111 {mf : Mf} {i j k : Nat} : callK 3 mf [.pk i, .pk j, .pk k] γ = match argsSl γ [.pk i, .pk j, .pk k] with
  | none => .bad
  | some ss => if dis [.pk i, .pk j, .pk k] = true ∧ [AV.pk i, .pk j, .pk k].length = 3 then endK [.pk i, .pk j, .pk k] (mf ss) γ else .bad := callK_gen
@[simp] theorem callK_p110 {mf : Mf} {i j : Nat} {x : D} : callK 3 mf [.pk i, .pk j, .d x] γ = match argsSl γ [.pk i, .pk j, .d x] with
  | none => .bad
  | some ss => if dis [.pk i, .pk j, .d x] = true ∧ [AV.pk i, .pk j, .d x].length = 3 then endK [.pk i, .pk j, .d x] (mf ss) γ else .bad := callK_gen

/-! ### texts -/
theorem int_short {i : Int} (h : i.natAbs.log2 < 1920) : (PyData.shown (.int i)).length ≤ 600 := by
  have h2 : i.natAbs < 10 ^ 599 := by
    have e1 : i.natAbs < 2 ^ 1920 := by
      by_cases h0 : i.natAbs = 0
      · rw [h0]; exact Nat.two_pow_pos _
      · exact (Nat.log2_lt h0).mp h
    have e2 : (2 : Nat) ^ 1920 ≤ 10 ^ 599 := by decide +kernel
    omega
  have e := int_text_length_le10 (k := 599) (by decide) h2
  show (Str.ofString (toString i)).length ≤ 600
  rw [PySem.ofString_length]; exact e
mutual
theorem short_of : ∀ d : PyData, d.showable = true → d.intsShort 600 = true
  | .none, _ => rfl
  | .bool _, _ => rfl
  | .str _, _ => rfl
  | .dict _, _ => rfl
  | .int i, h => by
    have : i.natAbs.log2 < 1920 := by simpa only [PyData.showable, decide_eq_true_eq] using h
    simp only [PyData.intsShort, decide_eq_true_eq]
    exact int_short this
  | .list xs, h => by
    simp only [PyData.intsShort]
    exact shortAll_of xs (by simpa only [PyData.showable] using h)
  | .tuple xs, h => by
    simp only [PyData.intsShort]
    exact shortAll_of xs (by simpa only [PyData.showable] using h)
theorem shortAll_of : ∀ xs : List PyData, PyData.showableAll xs = true → PyData.intsShortAll 600 xs = true
  | [], _ => rfl
  | x :: xs, h => by
    have h' : x.showable = true ∧ PyData.showableAll xs = true := by simpa only [PyData.showableAll, Bool.and_eq_true] using h
    simp only [PyData.intsShortAll, Bool.and_eq_true]
    exact ⟨short_of x h'.1, shortAll_of xs h'.2⟩
end
/-- data whose text can be asked for -/
structure Shows (d : D) : Prop where
  nd : noDict d = true
  sh : d.showable = true
  lay : d.canLay0 = true
  dp : d.depth ≤ 64
  bk : d.bulk ≤ 20000
theorem Shows.len {d : D} (h : Shows d) : d.shown.length ≤ sizeLine := by
  have := PyData.shown_le_bulk 600 (by decide) d (PyData.leavesShort_of_canLay0 600 d h.lay (short_of d h.sh))
  have := h.bk
  unfold sizeLine
  omega
theorem Shows.ok {d : D} (h : Shows d) : reprOk d = true := by
  unfold reprOk
  rw [h.nd, h.sh, decide_eq_true h.dp, decide_eq_true h.len]
  rfl
theorem Shows.repr {d : D} (h : Shows d) : reprD [d] = .ok (.d (.str d.shown)) := by
  show (if reprOk d = true then _ else _) = _
  rw [if_pos h.ok]
theorem eqD_ok {a b : D} (ha : okEq a = true) (hb : okEq b = true) : eqD a b = .ok (.d (.bool (PyData.eqv a b))) := by
  unfold eqD eqOk
  rw [ha, hb, Bool.and_self, Bool.or_true]; rfl
theorem neD_ok {a b : D} (ha : okEq a = true) (hb : okEq b = true) : neD a b = .ok (.d (.bool (!PyData.eqv a b))) := by
  unfold neD eqOk
  rw [ha, hb, Bool.and_self, Bool.or_true]; rfl
@[simp] theorem eqD_str {x y : Str} : eqD (.str x) (.str y) = .ok (.d (.bool (decide (x = y)))) := by
  show R.ok (Sl.d (.bool (PyData.eqv (.str x) (.str y)))) = _
  rw [eqv_str]
  simp
@[simp] theorem neD_str {x y : Str} : neD (.str x) (.str y) = .ok (.d (.bool (!decide (x = y)))) := by
  show R.ok (Sl.d (.bool (!PyData.eqv (.str x) (.str y)))) = _
  rw [eqv_str]
  simp
mutual
theorem eqv_self : ∀ d : PyData, noDict d = true → PyData.eqv d d = true
  | .none, _ => by simp only [PyData.eqv]
  | .bool b, _ => by simp only [PyData.eqv, beq_self_eq_true]
  | .int i, _ => by simp only [PyData.eqv, beq_self_eq_true]
  | .str x, _ => by simp only [PyData.eqv, beq_self_eq_true]
  | .list xs, h => by simp only [PyData.eqv]; exact eqvAll_self xs h
  | .tuple xs, h => by simp only [PyData.eqv]; exact eqvAll_self xs h
  | .dict _, h => nomatch h
theorem eqvAll_self : ∀ xs : List PyData, noDicts xs = true → PyData.eqvAll xs xs = true
  | [], _ => by simp only [PyData.eqvAll]
  | x :: xs, h => by
    have h := Bool.and_eq_true_iff.mp (show (noDict x && noDicts xs) = true from h)
    simp only [PyData.eqvAll, eqv_self x h.1, eqvAll_self xs h.2, Bool.and_self]
end
end
end Eg
end
section
set_option maxHeartbeats 0
/-! mirrors of the defs, printed by gen.py -/
namespace Mr
open PySem PySem.Spec L2 Eg
open PyProof.Rows hiding St
def tt_NoNumber : List (Str × Bool) := [("SeedError", false), ("NoTable", false), ("TooGreat", false), ("NoNumber", true)]
def tt_NoTable : List (Str × Bool) := [("SeedError", false), ("NoTable", true), ("TooGreat", false), ("NoNumber", false)]
def tt_SeedError : List (Str × Bool) := [("SeedError", true), ("NoTable", true), ("TooGreat", true), ("NoNumber", true)]
def tt_TooGreat : List (Str × Bool) := [("SeedError", false), ("NoTable", false), ("TooGreat", true), ("NoNumber", false)]
def tst_SeedError : Tst := tstB tt_SeedError
def tsi_NoNumber : Tst := tstI tt_NoNumber
def tsi_NoTable : Tst := tstI tt_NoTable
def tsi_TooGreat : Tst := tstI tt_TooGreat
/-- is_integer: slots ['thing'] -/
def b_is_integer : Fn Fl :=
  (retS (andV (op1 (boolOf isiInt) (opN 0)) (notV (op1 (boolOf isiBool) (opN 0)))))
def m_is_integer : Mf := runF ((["thing"] : List Str).length - (["thing"] : List Str).length) b_is_integer
/-- is_between: slots ['thing', 'least', 'most'] -/
def b_is_between : Fn Fl :=
  (retS (andV (callS 1 m_is_integer [] (consF (opN 0) nilF)) (chS leD leD (opN 1) (opN 0) (opN 2))))
def m_is_between : Mf := runF ((["thing", "least", "most"] : List Str).length - (["thing", "least", "most"] : List Str).length) b_is_between
/-- is_tuple_of: slots ['thing', 'many'] -/
def b_is_tuple_of : Fn Fl :=
  (retS (andV (op1 (boolOf isiTup) (opN 0)) (op2 eqD (opD (deS (callP lenD (consF (opN 0) nilF)))) (opN 1))))
def m_is_tuple_of : Mf := runF ((["thing", "many"] : List Str).length - (["thing", "many"] : List Str).length) b_is_tuple_of
/-- are_integers: slots ['thing', 'many', 'one'] -/
def b_are_integers : Fn Fl :=
  (retS (andV (callS 2 m_is_tuple_of [] (consF (opN 0) (consF (opN 1) nilF))) (callP allD (consF (opD (deS (lcS [2] (seqSrc (deS (nameS 0))) (tgN 2) yesB (deS (callS 1 m_is_integer [] (consF (opN 2) nilF)))))) nilF))))
def m_are_integers : Mf := runF ((["thing", "many", "one"] : List Str).length - (["thing", "many"] : List Str).length) b_are_integers
/-- sign_of: slots ['number'] -/
def b_sign_of : Fn Fl :=
  (seqS (ifS (boolS (op2 eqD (opN 0) (opD (pureD (.int 0))))) (retS (enS (pureD (.int 0)))) skipS)
    (retS (ifV (boolS (op2 gtD (opN 0) (opD (pureD (.int 0))))) (enS (pureD (.int 1))) (op1 negD (opD (pureD (.int 1)))))))
def m_sign_of : Mf := runF ((["number"] : List Str).length - (["number"] : List Str).length) b_sign_of
/-- is_grid: slots ['thing', 'row', 'number'] -/
def b_is_grid : Fn Fl :=
  (seqS (ifS (orT (notT (boolS (op1 (boolOf isiTup) (opN 0)))) (notT (boolS (chS leD leD (opD (pureD (.int 1))) (opD (deS (callP lenD (consF (opN 0) nilF)))) (opD (pureD (.int 6))))))) (retS (enS (pureD (.bool false)))) skipS)
    (seqS (ifS (notT (boolS (callP allD (consF (opD (deS (lcS [1] (seqSrc (deS (nameS 0))) (tgN 1) yesB (deS (callS 2 m_are_integers [] (consF (opN 1) (consF (opD (deS (callP lenD (consF (opN 0) nilF)))) nilF))))))) nilF)))) (retS (enS (pureD (.bool false)))) skipS)
    (retS (callP allD (consF (opD (deS (lc2S [1, 2] [2] (seqSrc (deS (nameS 0))) (tgN 1) yesB (seqSrc (deS (nameS 1))) (tgN 2) yesB (deS (op2 leD (opD (deS (callP absD (consF (opN 2) nilF)))) (opD (pureD (.int 10000000000000000000000000000000000000000000000000000000000000000000000000000000000000000000000000000)))))))) nilF)))))
def m_is_grid : Mf := runF ((["thing", "row", "number"] : List Str).length - (["thing"] : List Str).length) b_is_grid
def fb1_wrong_pair : Fn Fl :=
  (ifS (boolS (op2 neD (opD (deS (callS 1 m_sign_of [] (consF (opD (deS (op2 ixD (opD (deS (op2 ixD (opN 0) (opN 1)))) (opN 2)))) nilF)))) (opD (deS (op1 negD (opD (deS (callS 1 m_sign_of [] (consF (opD (deS (op2 ixD (opD (deS (op2 ixD (opN 0) (opN 2)))) (opN 1)))) nilF))))))))) (retS (tupF (consF (deS (nameS 1)) (consF (deS (nameS 2)) nilF)))) skipS)
def fb2_wrong_pair : Fn Fl :=
  (forS (rngSrc rng2 (consF (deS (nameS 1)) (consF (deS (callP lenD (consF (opN 0) nilF))) nilF))) (tgN 2) fb1_wrong_pair)
/-- wrong_pair: slots ['grid', 'i', 'j'] -/
def b_wrong_pair : Fn Fl :=
  (seqS (forS (rngSrc rng1 (consF (deS (callP lenD (consF (opN 0) nilF))) nilF)) (tgN 1) fb2_wrong_pair)
    (retS (enS (pureD .none))))
def m_wrong_pair : Mf := runF ((["grid", "i", "j"] : List Str).length - (["grid"] : List Str).length) b_wrong_pair
/-- places_beside: slots ['grid', 'i', 'j'] -/
def b_places_beside : Fn Fl :=
  (retS (lcS [2] (rngSrc rng1 (consF (deS (callP lenD (consF (opN 0) nilF))) nilF)) (tgN 2) (andT (boolS (op2 neD (opN 2) (opN 1))) (boolS (op2 neD (opD (deS (op2 ixD (opD (deS (op2 ixD (opN 0) (opN 1)))) (opN 2)))) (opD (pureD (.int 0)))))) (deS (nameS 2))))
def m_places_beside : Mf := runF ((["grid", "i", "j"] : List Str).length - (["grid", "i"] : List Str).length) b_places_beside
/-- lowest: slots ['top', 'bottom', 'divisor'] -/
def b_lowest : Fn Fl :=
  (seqS (setS 2 (callP gcdD (consF (opN 0) (consF (opN 1) nilF))))
    (retS (tupF (consF (deS (op2 fdivD (opN 0) (opN 2))) (consF (deS (op2 fdivD (opN 1) (opN 2))) nilF)))))
def m_lowest : Mf := runF ((["top", "bottom", "divisor"] : List Str).length - (["top", "bottom"] : List Str).length) b_lowest
def fb1_spread_from : Fn Fl :=
  (ifS (boolS (op2 notInD (opN 7) (opN 2))) (seqS (setKey 2 (deS (nameS 7)) (deS (callS 2 m_lowest [] (consF (opD (deS (op2 mulD (opD (deS (op2 ixD (opD (deS (op2 ixD (opN 2) (opN 6)))) (opD (pureD (.int 0)))))) (opD (deS (callP absD (consF (opD (deS (op2 ixD (opD (deS (op2 ixD (opN 0) (opN 6)))) (opN 7)))) nilF))))))) (consF (opD (deS (op2 mulD (opD (deS (op2 ixD (opD (deS (op2 ixD (opN 2) (opN 6)))) (opD (pureD (.int 1)))))) (opD (deS (callP absD (consF (opD (deS (op2 ixD (opD (deS (op2 ixD (opN 0) (opN 7)))) (opN 6)))) nilF))))))) nilF)))))
    (seqS (setKey 3 (deS (nameS 7)) (deS (nameS 6)))
    (dropS (mutS 4 appG (consF (deS (nameS 7)) nilF))))) skipS)
def wt1_spread_from : Fn Bool :=
  (boolS (op2 ltD (opN 5) (opD (deS (callP lenD (consF (opN 4) nilF))))))
def wb1_spread_from : Fn Fl :=
  (seqS (setS 6 (op2 ixD (opN 4) (opN 5)))
    (seqS (augI 5 (· + ·) (pureD (.int 1)))
    (forS (seqSrc (deS (callS 2 m_places_beside [] (consF (opN 0) (consF (opN 6) nilF))))) (tgN 7) fb1_spread_from)))
/-- spread_from: slots ['grid', 'begin', 'told', 'ahead', 'order', 'at', 'i', 'j'] -/
def b_spread_from : Fn Fl :=
  (seqS (setS 2 (dispS [((deS (nameS 1)), (deS (tupF (consF (pureD (.int 1)) (consF (pureD (.int 1)) nilF)))))]))
    (seqS (setS 3 (dispS [((deS (nameS 1)), (pureD .none))]))
    (seqS (setS 4 (lstF (consF (deS (nameS 1)) nilF)))
    (seqS (setS 5 (enS (pureD (.int 0))))
    (seqS (whileS wt1_spread_from wb1_spread_from 1000000)
    (retS (tupF (consF (deS (nameS 2)) (consF (deS (nameS 3)) nilF)))))))))
def m_spread_from : Mf := runF ((["grid", "begin", "told", "ahead", "order", "at", "i", "j"] : List Str).length - (["grid", "begin"] : List Str).length) b_spread_from
def wt1_way_back : Fn Bool :=
  (boolS (op2 isNotD (opD (deS (op2 ixD (opN 0) (opD (deS (op2 ixD (opN 2) (opD (deS (op1 negD (opD (pureD (.int 1)))))))))))) (opD (pureD .none))))
def wb1_way_back : Fn Fl :=
  (dropS (mutS 2 appG (consF (deS (op2 ixD (opN 0) (opD (deS (op2 ixD (opN 2) (opD (deS (op1 negD (opD (pureD (.int 1))))))))))) nilF)))
/-- way_back: slots ['ahead', 'place', 'found'] -/
def b_way_back : Fn Fl :=
  (seqS (setS 2 (lstF (consF (deS (nameS 1)) nilF)))
    (seqS (whileS wt1_way_back wb1_way_back 1000000)
    (retN 2)))
def m_way_back : Mf := runF ((["ahead", "place", "found"] : List Str).length - (["ahead", "place"] : List Str).length) b_way_back
/-- ring_between: slots ['ahead', 'i', 'j', 'mine', 'theirs', 'meet', 'place'] -/
def b_ring_between : Fn Fl :=
  (seqS (asgS (deS (tupF (consF (deS (callS 2 m_way_back [] (consF (opN 0) (consF (opN 1) nilF)))) (consF (deS (callS 2 m_way_back [] (consF (opN 0) (consF (opN 2) nilF)))) nilF)))) (tgT 2 (tgCons (tgN 3) (tgCons (tgN 4) tgNil))))
    (seqS (setS 5 (op2 ixD (opD (deS (lcS [6] (seqSrc (deS (nameS 3))) (tgN 6) (boolS (op2 inD (opN 6) (opN 4))) (deS (nameS 6))))) (opD (pureD (.int 0)))))
    (retS (callP tupleD (consF (opD (deS (op2 addD (opD (deS (slS (opN 3) noI (someI (deS (op2 addD (opD (deS (methS "list" indexD (opN 3) (consF (deS (nameS 5)) nilF)))) (opD (pureD (.int 1))))))))) (opD (deS (op1 revD (opD (deS (slS (opN 4) noI (someI (deS (methS "list" indexD (opN 4) (consF (deS (nameS 5)) nilF))))))))))))) nilF)))))
def m_ring_between : Mf := runF ((["ahead", "i", "j", "mine", "theirs", "meet", "place"] : List Str).length - (["ahead", "i", "j"] : List Str).length) b_ring_between
def fb1_unlike_pair : Fn Fl :=
  (ifS (boolS (op2 neD (opD (deS (op2 mulD (opD (deS (op2 mulD (opD (deS (op2 ixD (opD (deS (op2 ixD (opN 1) (opN 2)))) (opD (pureD (.int 0)))))) (opD (deS (op2 ixD (opD (deS (op2 ixD (opN 1) (opN 3)))) (opD (pureD (.int 1))))))))) (opD (deS (callP absD (consF (opD (deS (op2 ixD (opD (deS (op2 ixD (opN 0) (opN 2)))) (opN 3)))) nilF))))))) (opD (deS (op2 mulD (opD (deS (op2 mulD (opD (deS (op2 ixD (opD (deS (op2 ixD (opN 1) (opN 3)))) (opD (pureD (.int 0)))))) (opD (deS (op2 ixD (opD (deS (op2 ixD (opN 1) (opN 2)))) (opD (pureD (.int 1))))))))) (opD (deS (callP absD (consF (opD (deS (op2 ixD (opD (deS (op2 ixD (opN 0) (opN 3)))) (opN 2)))) nilF))))))))) (retS (tupF (consF (deS (nameS 2)) (consF (deS (nameS 3)) nilF)))) skipS)
def fb2_unlike_pair : Fn Fl :=
  (forS (seqSrc (deS (callS 2 m_places_beside [] (consF (opN 0) (consF (opN 2) nilF))))) (tgN 3) fb1_unlike_pair)
/-- unlike_pair: slots ['grid', 'told', 'i', 'j'] -/
def b_unlike_pair : Fn Fl :=
  (seqS (forS (seqSrc (deS (callP sortedD (consF (opN 1) nilF)))) (tgN 2) fb2_unlike_pair)
    (retS (enS (pureD .none))))
def m_unlike_pair : Mf := runF ((["grid", "told", "i", "j"] : List Str).length - (["grid", "told"] : List Str).length) b_unlike_pair
def fb1_scaled : Fn Fl :=
  (setS 5 (callP gcdD (consF (opN 5) (consF (opN 6) nilF))))
def fb2_scaled : Fn Fl :=
  (setS 1 (op2 fdivD (opD (deS (op2 mulD (opN 1) (opN 3)))) (opD (deS (callP gcdD (consF (opN 1) (consF (opN 3) nilF)))))))
/-- scaled: slots ['told', 'whole', '_', 'bottom', 'found', 'divisor', 'number', 'place', 'top'] -/
def b_scaled : Fn Fl :=
  (seqS (setS 1 (enS (pureD (.int 1))))
    (seqS (lockF 0 (forS (dictSrc 0 (·.2)) (tgT 2 (tgCons (tgN 2) (tgCons (tgN 3) tgNil))) fb2_scaled))
    (seqS (lockF 0 (setS 4 (dcS [7, 8, 3] (dictSrc 0 pairD) (tgT 2 (tgCons (tgN 7) (tgCons (tgT 2 (tgCons (tgN 8) (tgCons (tgN 3) tgNil))) tgNil))) yesB (deS (nameS 7)) (deS (op2 mulD (opD (deS (op2 fdivD (opN 1) (opN 3)))) (opN 8))))))
    (seqS (setS 5 (enS (pureD (.int 0))))
    (seqS (lockF 4 (forS (dictSrc 4 (·.2)) (tgN 6) fb1_scaled))
    (retS (lockF 4 (dcS [7, 6] (dictSrc 4 pairD) (tgT 2 (tgCons (tgN 7) (tgCons (tgN 6) tgNil))) yesB (deS (nameS 7)) (deS (op2 fdivD (opN 6) (opN 5)))))))))))
def m_scaled : Mf := runF ((["told", "whole", "_", "bottom", "found", "divisor", "number", "place", "top"] : List Str).length - (["told"] : List Str).length) b_scaled
def fb1_evened : Fn Fl :=
  (ifS (boolS (op2 notInD (opN 2) (opN 1))) (seqS (asgS (deS (callS 2 m_spread_from [] (consF (opN 0) (consF (opN 2) nilF)))) (tgT 2 (tgCons (tgN 3) (tgCons (tgN 4) tgNil))))
    (seqS (setS 5 (callS 2 m_unlike_pair [] (consF (opN 0) (consF (opN 3) nilF))))
    (seqS (ifS (boolS (op2 isNotD (opN 5) (opD (pureD .none)))) (retS (tupF (consF (pureD .none) (consF (deS (callS 3 m_ring_between [] (consF (opN 4) (consF (opD (deS (op2 ixD (opN 5) (opD (pureD (.int 0)))))) (consF (opD (deS (op2 ixD (opN 5) (opD (pureD (.int 1)))))) nilF))))) nilF)))) skipS)
    (dropS (updS 1 (deS (callS 1 m_scaled [] (consF (opN 3) nilF)))))))) skipS)
/-- evened: slots ['grid', 'found', 'begin', 'told', 'ahead', 'pair', 'place'] -/
def b_evened : Fn Fl :=
  (seqS (setS 1 emptyK)
    (seqS (forS (rngSrc rng1 (consF (deS (callP lenD (consF (opN 0) nilF))) nilF)) (tgN 2) fb1_evened)
    (retS (tupF (consF (deS (callP tupleD (consF (opD (deS (lcS [6] (rngSrc rng1 (consF (deS (callP lenD (consF (opN 0) nilF))) nilF)) (tgN 6) yesB (deS (op2 ixD (opN 1) (opN 6)))))) nilF))) (consF (pureD .none) nilF))))))
def m_evened : Mf := runF ((["grid", "found", "begin", "told", "ahead", "pair", "place"] : List Str).length - (["grid"] : List Str).length) b_evened
/-- is_table: slots ['thing'] -/
def b_is_table : Fn Fl :=
  (retS (andV (callS 1 m_is_grid [] (consF (opN 0) nilF)) (andV (op2 isD (opD (deS (callS 1 m_wrong_pair [] (consF (opN 0) nilF)))) (opD (pureD .none))) (op2 isNotD (opD (deS (op2 ixD (opD (deS (callS 1 m_evened [] (consF (opN 0) nilF)))) (opD (pureD (.int 0)))))) (opD (pureD .none))))))
def m_is_table : Mf := runF ((["thing"] : List Str).length - (["thing"] : List Str).length) b_is_table
/-- need_table: slots ['thing'] -/
def b_need_table : Fn Fl :=
  (ifS (notT (boolS (callS 1 m_is_table [] (consF (opN 0) nilF)))) (raiseS ⟨"NoTable", none⟩) skipS)
def m_need_table : Mf := runF ((["thing"] : List Str).length - (["thing"] : List Str).length) b_need_table
def wt1_two_rows_of : Fn Bool :=
  (boolS (op2 ltD (opD (deS (callP lenD (consF (opN 3) nilF)))) (opN 2)))
def wb1_two_rows_of : Fn Fl :=
  (seqS (setS 4 (ifV (boolS (op2 eqD (opD (deS (op2 andD (opD (deS (callP lenD (consF (opN 3) nilF)))) (opD (pureD (.int 1)))))) (opD (pureD (.int 1))))) (nameS 0) (nameS 1)))
    (seqS (parS 5 6 (op2 ixD (opN 3) (opD (deS (op1 negD (opD (pureD (.int 1))))))) (op2 ixD (opN 3) (opD (deS (op1 negD (opD (pureD (.int 2))))))))
    (dropS (mutS 3 appG (consF (deS (callP tupleD (consF (opD (deS (lcS [7, 8] (rngSrc zipG (consF (deS (nameS 5)) (consF (deS (nameS 6)) nilF))) (tgT 2 (tgCons (tgN 7) (tgCons (tgN 8) tgNil))) yesB (deS (op2 subD (opD (deS (callP maxD (consF (opD (pureD (.int 0))) (consF (opD (deS (op2 mulD (opN 4) (opN 7)))) nilF))))) (opN 8)))))) nilF))) nilF)))))
/-- two_rows_of: slots ['one', 'other', 'many', 'found', 'much', 'last', 'elder', 'mine', 'theirs'] -/
def b_two_rows_of : Fn Fl :=
  (seqS (setS 3 (lstF (consF (deS (tupF (consF (deS (op1 negD (opD (pureD (.int 1))))) (consF (pureD (.int 0)) nilF)))) (consF (deS (tupF (consF (pureD (.int 0)) (consF (deS (op1 negD (opD (pureD (.int 1))))) nilF)))) (consF (deS (tupF (consF (pureD (.int 1)) (consF (pureD (.int 0)) nilF)))) nilF)))))
    (seqS (whileS wt1_two_rows_of wb1_two_rows_of 1000000)
    (retS (slS (opN 3) noI (someI (deS (nameS 2)))))))
def m_two_rows_of : Mf := runF ((["one", "other", "many", "found", "much", "last", "elder", "mine", "theirs"] : List Str).length - (["one", "other", "many"] : List Str).length) b_two_rows_of
/-- two_rows: slots ['table', 'many', 'found', 'row', 'number'] -/
def b_two_rows : Fn Fl :=
  (seqS (dropS (callS 1 m_need_table [] (consF (opN 0) nilF)))
    (seqS (ifS (boolS (op2 neD (opD (deS (callP lenD (consF (opN 0) nilF)))) (opD (pureD (.int 2))))) (raiseS ⟨"NoTable", none⟩) skipS)
    (seqS (ifS (notT (boolS (callS 3 m_is_between [] (consF (opN 1) (consF (opD (pureD (.int 2))) (consF (opD (pureD (.int 60))) nilF)))))) (raiseS ⟨"NoNumber", none⟩) skipS)
    (seqS (setS 2 (callS 3 m_two_rows_of [] (consF (opD (deS (callP absD (consF (opD (deS (op2 ixD (opD (deS (op2 ixD (opN 0) (opD (pureD (.int 0)))))) (opD (pureD (.int 1)))))) nilF)))) (consF (opD (deS (callP absD (consF (opD (deS (op2 ixD (opD (deS (op2 ixD (opN 0) (opD (pureD (.int 1)))))) (opD (pureD (.int 0)))))) nilF)))) (consF (opN 1) nilF)))))
    (seqS (ifS (boolS (callP anyD (consF (opD (deS (lc2S [3, 4] [4] (seqSrc (deS (nameS 2))) (tgN 3) yesB (seqSrc (deS (nameS 3))) (tgN 4) yesB (deS (op2 gtD (opD (deS (callP absD (consF (opN 4) nilF)))) (opD (pureD (.int 10000000000000000000000000000000000000000000000000000000000000000000000000000000000000000000000000000)))))))) nilF))) (raiseS ⟨"TooGreat", none⟩) skipS)
    (retS (callP tupleD (consF (opN 2) nilF))))))))
def m_two_rows : Mf := runF ((["table", "many", "found", "row", "number"] : List Str).length - (["table", "many"] : List Str).length) b_two_rows
/-- _law_hand: slots ['script', 'cells', 'cell'] -/
def b__law_hand : Fn Fl :=
  (seqS (setS 1 (lcS [2] (seqSrc (deS (slScr 0 noI (someI (pureD (.int 63)))))) (tgN 2) yesB (deS (op2 modD (opD (deS (callP intD (consF (opD (deS (callP absD (consF (opD (deS (callP intD (consF (opN 2) nilF)))) nilF)))) nilF)))) (opD (deS (op2 powD (opD (pureD (.int 10))) (opD (pureD (.int 60))))))))))
    (retS (lstF (consF (deS (nameS 1)) (consF (pureD (.int 0)) (consF (pureD (.int 0)) (consF (deS (op2 addD (opD (pureD (.int 171201))) (opD (deS (op2 mulD (opD (pureD (.int 29))) (opD (deS (callP lenD (consF (opN 1) nilF))))))))) (consF (pureD (.int 0)) nilF))))))))
def m__law_hand : Mf := runF ((["script", "cells", "cell"] : List Str).length - (["script"] : List Str).length) b__law_hand
/-- _law_draw: slots ['hand', 'many', 'cell', 'digit', 'number'] -/
def b__law_draw : Fn Fl :=
  (seqS (ifS (andT (boolS (op2 eqD (opD (deS (op2 ixD (opN 0) (opD (pureD (.int 2)))))) (opD (pureD (.int 0))))) (boolS (op2 ltD (opD (deS (op2 ixD (opN 0) (opD (pureD (.int 1)))))) (opD (deS (callP lenD (consF (opD (deS (op2 ixD (opN 0) (opD (pureD (.int 0)))))) nilF))))))) (seqS (setS 2 (op2 ixD (opD (deS (op2 ixD (opN 0) (opD (pureD (.int 0)))))) (opD (deS (op2 ixD (opN 0) (opD (pureD (.int 1))))))))
    (seqS (setIx 0 (pureD (.int 1)) (deS (op2 addD (opD (deS (op2 ixD (opN 0) (opD (pureD (.int 1)))))) (opD (pureD (.int 1))))))
    (seqS (setIx 0 (pureD (.int 3)) (deS (op2 modD (opD (deS (callP intD (consF (opD (deS (op2 addD (opD (deS (op2 addD (opD (deS (op2 mulD (opD (deS (op2 ixD (opN 0) (opD (pureD (.int 3)))))) (opD (pureD (.int 69621)))))) (opD (deS (op2 mulD (opN 2) (opD (pureD (.int 48271))))))))) (opD (pureD (.int 479)))))) nilF)))) (opD (pureD (.int 2147483629))))))
    (ifS (boolS (op2 geD (opN 2) (opD (deS (op2 powD (opD (pureD (.int 10))) (opD (pureD (.int 18)))))))) (setIx 0 (pureD (.int 2)) (deS (nameS 2))) skipS)))) skipS)
    (seqS (ifS (boolS (op2 gtD (opD (deS (op2 ixD (opN 0) (opD (pureD (.int 2)))))) (opD (pureD (.int 0))))) (seqS (setS 3 (op2 modD (opD (deS (callP intD (consF (opD (deS (op2 ixD (opN 0) (opD (pureD (.int 2)))))) nilF)))) (opN 1)))
    (seqS (setIx 0 (pureD (.int 2)) (deS (op2 fdivD (opD (deS (op2 ixD (opN 0) (opD (pureD (.int 2)))))) (opN 1))))
    (retN 3))) skipS)
    (seqS (setIx 0 (pureD (.int 4)) (deS (op2 addD (opD (deS (op2 ixD (opN 0) (opD (pureD (.int 4)))))) (opD (pureD (.int 1))))))
    (seqS (setS 4 (op2 modD (opD (deS (callP intD (consF (opD (deS (op2 mulD (opD (deS (callP intD (consF (opD (deS (op2 addD (opD (deS (op2 ixD (opN 0) (opD (pureD (.int 3)))))) (opD (deS (op2 mulD (opD (pureD (.int 7919))) (opD (deS (op2 ixD (opN 0) (opD (pureD (.int 4)))))))))))) nilF)))) (opD (pureD (.int 40692)))))) nilF)))) (opD (pureD (.int 2147483647)))))
    (seqS (setS 4 (op2 modD (opD (deS (callP intD (consF (opD (deS (op2 mulD (opN 4) (opD (deS (op2 addD (opD (deS (op2 fdivD (opN 4) (opD (pureD (.int 1009)))))) (opD (pureD (.int 69621))))))))) nilF)))) (opD (pureD (.int 2147483647)))))
    (seqS (setS 4 (op2 modD (opD (deS (callP intD (consF (opD (deS (op2 mulD (opN 4) (opD (deS (op2 addD (opD (deS (op2 fdivD (opN 4) (opD (pureD (.int 2003)))))) (opD (pureD (.int 40014))))))))) nilF)))) (opD (pureD (.int 2147483563)))))
    (retS (op2 modD (opD (deS (callP intD (consF (opD (deS (op2 fdivD (opN 4) (opD (pureD (.int 16)))))) nilF)))) (opN 1)))))))))
def m__law_draw : Mf := runF ((["hand", "many", "cell", "digit", "number"] : List Str).length - (["hand", "many"] : List Str).length) b__law_draw
/-- _law_any: slots ['hand', 'some'] -/
def b__law_any : Fn Fl :=
  (retS (op2 ixD (opN 1) (opD (deS (callS 2 m__law_draw [] (consF (opN 0) (consF (opD (deS (callP lenD (consF (opN 1) nilF)))) nilF)))))))
def m__law_any : Mf := runF ((["hand", "some"] : List Str).length - (["hand", "some"] : List Str).length) b__law_any
/-- _law_is: slots ['told', 'due'] -/
def b__law_is : Fn Fl :=
  (retS (op2 eqD (opD (deS (callP reprD (consF (opN 0) nilF)))) (opD (deS (callP reprD (consF (opN 1) nilF))))))
def m__law_is : Mf := runF ((["told", "due"] : List Str).length - (["told", "due"] : List Str).length) b__law_is
def fb1__law_drawn : Fn Fl :=
  (parS 2 3 (op2 mulD (opN 2) (opD (deS (op2 addD (opD (pureD (.int 1))) (opD (deS (callS 2 m__law_draw [] (consF (opN 0) (consF (opD (deS (op2 powD (opD (pureD (.int 10))) (opD (pureD (.int 6)))))) nilF))))))))) (op2 mulD (opN 3) (opD (deS (op2 addD (opD (pureD (.int 1))) (opD (deS (callS 2 m__law_draw [] (consF (opN 0) (consF (opD (deS (op2 powD (opD (pureD (.int 10))) (opD (pureD (.int 6)))))) nilF))))))))))
/-- _law_drawn: slots ['hand', 'pairs', 'one', 'other', 'step', 'sign'] -/
def b__law_drawn : Fn Fl :=
  (seqS (setS 1 (lstF (consF (deS (tupF (consF (pureD (.int 0)) (consF (pureD (.int 0)) nilF)))) (consF (deS (tupF (consF (pureD (.int 1)) (consF (pureD (.int 1)) nilF)))) (consF (deS (tupF (consF (pureD (.int 1)) (consF (pureD (.int 2)) nilF)))) (consF (deS (tupF (consF (pureD (.int 3)) (consF (pureD (.int 1)) nilF)))) (consF (deS (tupF (consF (pureD (.int 2)) (consF (pureD (.int 1)) nilF)))) (consF (deS (tupF (consF (pureD (.int 1)) (consF (pureD (.int 3)) nilF)))) (consF (deS (tupF (consF (pureD (.int 2)) (consF (pureD (.int 2)) nilF)))) (consF (deS (tupF (consF (pureD (.int 1)) (consF (pureD (.int 4)) nilF)))) (consF (deS (tupF (consF (pureD (.int 4)) (consF (pureD (.int 1)) nilF)))) (consF (deS (tupF (consF (pureD (.int 3)) (consF (pureD (.int 3)) nilF)))) (consF (deS (tupF (consF (pureD (.int 1)) (consF (pureD (.int 5)) nilF)))) (consF (deS (tupF (consF (pureD (.int 5)) (consF (pureD (.int 5)) nilF)))) (consF (deS (tupF (consF (pureD (.int 12)) (consF (pureD (.int 1)) nilF)))) nilF)))))))))))))))
    (seqS (asgS (deS (callS 2 m__law_any [] (consF (opN 0) (consF (opN 1) nilF)))) (tgT 2 (tgCons (tgN 2) (tgCons (tgN 3) tgNil))))
    (seqS (ifS (boolS (op2 eqD (opD (deS (callS 2 m__law_draw [] (consF (opN 0) (consF (opD (pureD (.int 4))) nilF))))) (opD (pureD (.int 0))))) (seqS (parS 2 3 (op2 addD (opD (pureD (.int 1))) (opD (deS (callS 2 m__law_draw [] (consF (opN 0) (consF (opD (deS (op2 powD (opD (pureD (.int 10))) (opD (pureD (.int 6)))))) nilF)))))) (op2 addD (opD (pureD (.int 1))) (opD (deS (callS 2 m__law_draw [] (consF (opN 0) (consF (opD (deS (op2 powD (opD (pureD (.int 10))) (opD (pureD (.int 6)))))) nilF)))))))
    (forS (rngSrc rng1 (consF (deS (callS 2 m__law_draw [] (consF (opN 0) (consF (opD (pureD (.int 7))) nilF)))) nilF)) (tgN 4) fb1__law_drawn)) skipS)
    (seqS (setS 5 (callS 2 m__law_any [] (consF (opN 0) (consF (opD (deS (lstF (consF (pureD (.int 1)) (consF (deS (op1 negD (opD (pureD (.int 1))))) nilF))))) nilF))))
    (retS (tupF (consF (deS (tupF (consF (pureD (.int 0)) (consF (deS (op2 mulD (opN 5) (opN 2))) nilF)))) (consF (deS (tupF (consF (deS (op2 subD (opD (pureD (.int 0))) (opD (deS (op2 mulD (opN 5) (opN 3)))))) (consF (pureD (.int 0)) nilF)))) nilF))))))))
def m__law_drawn : Mf := runF ((["hand", "pairs", "one", "other", "step", "sign"] : List Str).length - (["hand"] : List Str).length) b__law_drawn
def wt1__law_rows : Fn Bool :=
  (boolS (op2 ltD (opD (deS (callP lenD (consF (opN 2) nilF)))) (opN 1)))
def wb1__law_rows : Fn Fl :=
  (seqS (setS 4 (op2 modD (opD (deS (callP intD (consF (opD (deS (callP lenD (consF (opN 2) nilF)))) nilF)))) (opD (pureD (.int 2)))))
    (seqS (setS 5 (callP absD (consF (opD (deS (op2 ixD (opD (deS (op2 ixD (opN 0) (opD (deS (op2 subD (opD (pureD (.int 1))) (opN 4))))))) (opN 4)))) nilF)))
    (seqS (setS 6 (callP tupleD (consF (opD (deS (lcS [7, 8] (rngSrc zipG (consF (deS (op2 ixD (opN 2) (opD (deS (op1 negD (opD (pureD (.int 1)))))))) (consF (deS (op2 ixD (opN 2) (opD (deS (op1 negD (opD (pureD (.int 2)))))))) nilF))) (tgT 2 (tgCons (tgN 7) (tgCons (tgN 8) tgNil))) yesB (deS (op2 subD (opD (deS (callP maxD (consF (opD (pureD (.int 0))) (consF (opD (deS (op2 mulD (opN 5) (opN 7)))) nilF))))) (opN 8)))))) nilF)))
    (seqS (ifS (boolS (op2 gtD (opD (deS (callP maxD (consF (opD (deS (lcS [7] (seqSrc (deS (nameS 6))) (tgN 7) yesB (deS (callP absD (consF (opN 7) nilF)))))) nilF)))) (opN 3))) (retS (tupF (consF (deS (callP tupleD (consF (opN 2) nilF))) (consF (deS (callP lenD (consF (opN 2) nilF))) nilF)))) skipS)
    (dropS (mutS 2 appG (consF (deS (nameS 6)) nilF)))))))
/-- _law_rows: slots ['table', 'many', 'found', 'most', 'place', 'times', 'row', 'one', 'less'] -/
def b__law_rows : Fn Fl :=
  (seqS (parS 2 3 (lstF (consF (deS (tupF (consF (deS (op1 negD (opD (pureD (.int 1))))) (consF (pureD (.int 0)) nilF)))) (consF (deS (tupF (consF (pureD (.int 0)) (consF (deS (op1 negD (opD (pureD (.int 1))))) nilF)))) nilF))) (op2 mulD (opD (deS (op2 powD (opD (pureD (.int 10))) (opD (pureD (.int 50)))))) (opD (deS (op2 powD (opD (pureD (.int 10))) (opD (pureD (.int 50))))))))
    (seqS (whileS wt1__law_rows wb1__law_rows 1000000)
    (retS (tupF (consF (deS (callP tupleD (consF (opN 2) nilF))) (consF (deS (nameS 1)) nilF))))))
def m__law_rows : Mf := runF ((["table", "many", "found", "most", "place", "times", "row", "one", "less"] : List Str).length - (["table", "many"] : List Str).length) b__law_rows
/-- _law_word: slots ['call', 'error', 'flags'] -/
def b__law_word : Fn Fl :=
  (seqS (tryS 1 tst_SeedError (dropS (thC 0)) (seqS (setS 2 (lstF (consF (deS (isE 1 tsi_NoTable)) (consF (deS (isE 1 tsi_NoNumber)) (consF (deS (isE 1 tsi_TooGreat)) nilF)))))
    (retS (ifV (boolS (op2 eqD (opD (deS (methS "list" countD (opN 2) (consF (pureD (.bool true)) nilF)))) (opD (pureD (.int 1))))) (op2 ixD (opD (deS (lstF (consF (pureD (.str "table")) (consF (pureD (.str "number")) (consF (pureD (.str "great")) nilF)))))) (opD (deS (methS "list" indexD (opN 2) (consF (pureD (.bool true)) nilF))))) (enS (pureD (.str "other")))))))
    (retS (enS (pureD (.str "told")))))
def fb1__law_is_right : Fn Fl :=
  (ifS (boolS (op2 gtD (opN 6) (opN 3))) (ifS (boolS (op2 neD (opD (deS (thkS (runT 2 b__law_word) [1, 6] (callS 2 m_two_rows [] (consF (opN 1) (consF (opN 6) nilF)))))) (opD (pureD (.str "great"))))) (retS (enS (pureD (.bool false)))) skipS) (ifS (notT (boolS (callS 2 m__law_is [] (consF (opD (deS (callS 2 m_two_rows [] (consF (opN 1) (consF (opN 6) nilF))))) (consF (opD (deS (slS (opN 2) noI (someI (deS (nameS 6)))))) nilF))))) (retS (enS (pureD (.bool false)))) skipS))
/-- _law_is_right: slots ['hand', 'table', 'rows', 'let', 'product', 'kept', 'many', 'back', 'sums', 'row', 'at'] -/
def b__law_is_right : Fn Fl :=
  (seqS (asgS (deS (callS 2 m__law_rows [] (consF (opN 1) (consF (opD (pureD (.int 60))) nilF)))) (tgT 2 (tgCons (tgN 2) (tgCons (tgN 3) tgNil))))
    (seqS (parS 4 5 (callP absD (consF (opD (deS (op2 mulD (opD (deS (op2 ixD (opD (deS (op2 ixD (opN 1) (opD (pureD (.int 0)))))) (opD (pureD (.int 1)))))) (opD (deS (op2 ixD (opD (deS (op2 ixD (opN 1) (opD (pureD (.int 1)))))) (opD (pureD (.int 0))))))))) nilF)) (callP reprD (consF (opN 1) nilF)))
    (seqS (forS (seqSrc (deS (tupF (consF (pureD (.int 2)) (consF (pureD (.int 3)) (consF (pureD (.int 60)) (consF (deS (nameS 3)) (consF (deS (callP minD (consF (opD (pureD (.int 60))) (consF (opD (deS (op2 addD (opN 3) (opD (pureD (.int 1)))))) nilF)))) (consF (deS (op2 addD (opD (pureD (.int 2))) (opD (deS (callS 2 m__law_draw [] (consF (opN 0) (consF (opD (pureD (.int 59))) nilF))))))) nilF))))))))) (tgN 6) fb1__law_is_right)
    (seqS (ifS (boolS (op2 ltD (opN 4) (opD (pureD (.int 4))))) (seqS (setS 7 (op2 ixD (opD (deS (lstF (consF (pureD (.int 4)) (consF (pureD (.int 5)) (consF (pureD (.int 6)) (consF (pureD (.int 8)) nilF))))))) (opN 4)))
    (retS (andV (op2 eqD (opD (deS (slS (opN 2) (someI (deS (nameS 7))) noI))) (opD (deS (slS (opN 2) noI (someI (deS (op2 subD (opD (pureD (.int 60))) (opN 7)))))))) (op2 eqD (opD (deS (callP reprD (consF (opN 1) nilF)))) (opN 5))))) skipS)
    (seqS (setS 8 (lcS [9] (seqSrc (deS (nameS 2))) (tgN 9) yesB (deS (callP sumD (consF (opN 9) nilF)))))
    (retS (andV (callP allD (consF (opD (deS (lcS [10] (rngSrc rng2 (consF (pureD (.int 2)) (consF (deS (op2 subD (opN 3) (opD (pureD (.int 2))))) nilF))) (tgN 10) yesB (deS (op2 ltD (opD (deS (op2 ixD (opN 8) (opN 10)))) (opD (deS (op2 ixD (opN 8) (opD (deS (op2 addD (opN 10) (opD (pureD (.int 2)))))))))))))) nilF)) (op2 eqD (opD (deS (callP reprD (consF (opN 1) nilF)))) (opN 5)))))))))
def m__law_is_right : Mf := runF ((["hand", "table", "rows", "let", "product", "kept", "many", "back", "sums", "row", "at"] : List Str).length - (["hand", "table"] : List Str).length) b__law_is_right
/-- _law_are_refused: slots ['hand', 'table', 'some', 'bad', 'far'] -/
def b__law_are_refused : Fn Fl :=
  (seqS (setS 2 (lstF (consF (pureD .none) (consF (deS (tupF nilF)) (consF (deS (tupF (consF (deS (tupF (consF (pureD (.int 0)) nilF))) nilF))) (consF (deS (tupF (consF (deS (tupF (consF (pureD (.int 0)) (consF (pureD (.int 1)) nilF)))) (consF (deS (tupF (consF (pureD (.int 1)) (consF (pureD (.int 0)) nilF)))) nilF)))) (consF (deS (tupF (consF (deS (tupF (consF (pureD (.int 0)) (consF (pureD (.int 1)) (consF (pureD (.int 0)) nilF))))) (consF (deS (tupF (consF (deS (op1 negD (opD (pureD (.int 1))))) (consF (pureD (.int 0)) (consF (pureD (.int 1)) nilF))))) (consF (deS (tupF (consF (pureD (.int 0)) (consF (deS (op1 negD (opD (pureD (.int 1))))) (consF (pureD (.int 0)) nilF))))) nilF))))) (consF (deS (lstF (consF (deS (tupF (consF (pureD (.int 0)) (consF (pureD (.int 1)) nilF)))) (consF (deS (tupF (consF (deS (op1 negD (opD (pureD (.int 1))))) (consF (pureD (.int 0)) nilF)))) nilF)))) (consF (deS (tupF (consF (deS (tupF (consF (pureD (.int 1)) (consF (pureD (.int 0)) nilF)))) (consF (deS (tupF (consF (pureD (.int 0)) (consF (pureD (.int 0)) nilF)))) nilF)))) (consF (pureD (.int 5)) nilF))))))))))
    (seqS (asgS (deS (tupF (consF (deS (callS 2 m__law_any [] (consF (opN 0) (consF (opN 2) nilF)))) (consF (deS (callS 2 m__law_any [] (consF (opN 0) (consF (opD (deS (lstF (consF (pureD (.int 1)) (consF (pureD (.int 61)) (consF (deS (op1 negD (opD (pureD (.int 1))))) (consF (pureD (.bool true)) (consF (pureD .none) (consF (pureD (.str "2")) (consF (deS (tupF (consF (pureD (.int 2)) nilF))) nilF)))))))))) nilF)))) nilF)))) (tgT 2 (tgCons (tgN 3) (tgCons (tgN 4) tgNil))))
    (retS (op2 eqD (opD (deS (lstF (consF (deS (thkS (runT 2 b__law_word) [3, 4] (callS 2 m_two_rows [] (consF (opN 3) (consF (opN 4) nilF))))) (consF (deS (thkS (runT 2 b__law_word) [1, 4] (callS 2 m_two_rows [] (consF (opN 1) (consF (opN 4) nilF))))) nilF))))) (opD (deS (lstF (consF (pureD (.str "table")) (consF (pureD (.str "number")) nilF)))))))))
def m__law_are_refused : Mf := runF ((["hand", "table", "some", "bad", "far"] : List Str).length - (["hand", "table"] : List Str).length) b__law_are_refused
def fb1_law : Fn Fl :=
  (seqS (setS 4 (callS 1 m__law_drawn [] (consF (opN 1) nilF)))
    (ifS (orT (notT (boolS (callS 2 m__law_is_right [] (consF (opN 1) (consF (opN 4) nilF))))) (notT (boolS (callS 2 m__law_are_refused [] (consF (opN 1) (consF (opN 4) nilF)))))) (retS (enS (pureD (.bool false)))) skipS))
/-- law: slots ['script', 'hand', 'due', 'step', 'table'] -/
def b_law : Fn Fl :=
  (seqS (setS 1 (callS 1 m__law_hand [] (consF (opN 0) nilF)))
    (seqS (setS 2 (tupF (consF (deS (tupF (consF (deS (op1 negD (opD (pureD (.int 1))))) (consF (pureD (.int 0)) nilF)))) (consF (deS (tupF (consF (pureD (.int 0)) (consF (deS (op1 negD (opD (pureD (.int 1))))) nilF)))) (consF (deS (tupF (consF (pureD (.int 1)) (consF (pureD (.int 0)) nilF)))) (consF (deS (tupF (consF (pureD (.int 1)) (consF (pureD (.int 1)) nilF)))) (consF (deS (tupF (consF (pureD (.int 0)) (consF (pureD (.int 1)) nilF)))) (consF (deS (tupF (consF (deS (op1 negD (opD (pureD (.int 1))))) (consF (pureD (.int 0)) nilF)))) (consF (deS (tupF (consF (pureD (.int 0)) (consF (deS (op1 negD (opD (pureD (.int 1))))) nilF)))) nilF)))))))))
    (seqS (ifS (orT (notT (boolS (callS 2 m__law_is [] (consF (opD (deS (callS 2 m_two_rows [] (consF (opD (deS (tupF (consF (deS (tupF (consF (pureD (.int 0)) (consF (pureD (.int 1)) nilF)))) (consF (deS (tupF (consF (deS (op1 negD (opD (pureD (.int 1))))) (consF (pureD (.int 0)) nilF)))) nilF))))) (consF (opD (pureD (.int 7))) nilF))))) (consF (opN 2) nilF))))) (boolS (op2 neD (opD (deS (slS (opD (deS (op2 ixD (opD (deS (callS 2 m__law_rows [] (consF (opD (deS (tupF (consF (deS (tupF (consF (pureD (.int 0)) (consF (pureD (.int 3)) nilF)))) (consF (deS (tupF (consF (deS (op1 negD (opD (pureD (.int 2))))) (consF (pureD (.int 0)) nilF)))) nilF))))) (consF (opD (pureD (.int 4))) nilF))))) (opD (pureD (.int 0)))))) (someI (pureD (.int 2))) noI))) (opD (deS (tupF (consF (deS (tupF (consF (pureD (.int 1)) (consF (pureD (.int 0)) nilF)))) (consF (deS (tupF (consF (pureD (.int 3)) (consF (pureD (.int 1)) nilF)))) nilF)))))))) (retS (enS (pureD (.bool false)))) skipS)
    (seqS (forS (rngSrc rng1 (consF (pureD (.int 10)) nilF)) (tgN 3) fb1_law)
    (retS (enS (pureD (.bool true))))))))
def m_law : Mf := runF ((["script", "hand", "due", "step", "table"] : List Str).length - (["script"] : List Str).length) b_law
end Mr
end
section
set_option maxHeartbeats 0
namespace Lw
open PySem PySem.Spec PyProof.Rows L2
def top (i : Nat) : Stmt := PySem.Challenge.pw_turnedseeds_k12_whole_rows_of_two_places.main.body.getD i (.Pass ⟨0, 0, 0, 0⟩)
abbrev s_is_integer : Stmt := top 7
def d_is_integer : He.DefD := ⟨("is_integer", none), "is_integer", "is_integer", defArgs s_is_integer, defBody s_is_integer, defScope s_is_integer, [], []⟩
abbrev s_is_between : Stmt := top 8
def d_is_between : He.DefD := ⟨("is_between", none), "is_between", "is_between", defArgs s_is_between, defBody s_is_between, defScope s_is_between, [], []⟩
abbrev s_is_tuple_of : Stmt := top 9
def d_is_tuple_of : He.DefD := ⟨("is_tuple_of", none), "is_tuple_of", "is_tuple_of", defArgs s_is_tuple_of, defBody s_is_tuple_of, defScope s_is_tuple_of, [], []⟩
abbrev s_are_integers : Stmt := top 10
def d_are_integers : He.DefD := ⟨("are_integers", none), "are_integers", "are_integers", defArgs s_are_integers, defBody s_are_integers, defScope s_are_integers, [], []⟩
abbrev s_sign_of : Stmt := top 11
def d_sign_of : He.DefD := ⟨("sign_of", none), "sign_of", "sign_of", defArgs s_sign_of, defBody s_sign_of, defScope s_sign_of, [], []⟩
abbrev s_is_grid : Stmt := top 15
def d_is_grid : He.DefD := ⟨("is_grid", none), "is_grid", "is_grid", defArgs s_is_grid, defBody s_is_grid, defScope s_is_grid, [], []⟩
abbrev s_wrong_pair : Stmt := top 16
def d_wrong_pair : He.DefD := ⟨("wrong_pair", none), "wrong_pair", "wrong_pair", defArgs s_wrong_pair, defBody s_wrong_pair, defScope s_wrong_pair, [], []⟩
abbrev s_places_beside : Stmt := top 17
def d_places_beside : He.DefD := ⟨("places_beside", none), "places_beside", "places_beside", defArgs s_places_beside, defBody s_places_beside, defScope s_places_beside, [], []⟩
abbrev s_lowest : Stmt := top 18
def d_lowest : He.DefD := ⟨("lowest", none), "lowest", "lowest", defArgs s_lowest, defBody s_lowest, defScope s_lowest, [], []⟩
abbrev s_spread_from : Stmt := top 19
def d_spread_from : He.DefD := ⟨("spread_from", none), "spread_from", "spread_from", defArgs s_spread_from, defBody s_spread_from, defScope s_spread_from, [], []⟩
abbrev s_way_back : Stmt := top 20
def d_way_back : He.DefD := ⟨("way_back", none), "way_back", "way_back", defArgs s_way_back, defBody s_way_back, defScope s_way_back, [], []⟩
abbrev s_ring_between : Stmt := top 21
def d_ring_between : He.DefD := ⟨("ring_between", none), "ring_between", "ring_between", defArgs s_ring_between, defBody s_ring_between, defScope s_ring_between, [], []⟩
abbrev s_unlike_pair : Stmt := top 22
def d_unlike_pair : He.DefD := ⟨("unlike_pair", none), "unlike_pair", "unlike_pair", defArgs s_unlike_pair, defBody s_unlike_pair, defScope s_unlike_pair, [], []⟩
abbrev s_scaled : Stmt := top 23
def d_scaled : He.DefD := ⟨("scaled", none), "scaled", "scaled", defArgs s_scaled, defBody s_scaled, defScope s_scaled, [], []⟩
abbrev s_evened : Stmt := top 24
def d_evened : He.DefD := ⟨("evened", none), "evened", "evened", defArgs s_evened, defBody s_evened, defScope s_evened, [], []⟩
abbrev s_is_table : Stmt := top 25
def d_is_table : He.DefD := ⟨("is_table", none), "is_table", "is_table", defArgs s_is_table, defBody s_is_table, defScope s_is_table, [], []⟩
abbrev s_need_table : Stmt := top 26
def d_need_table : He.DefD := ⟨("need_table", none), "need_table", "need_table", defArgs s_need_table, defBody s_need_table, defScope s_need_table, [], []⟩
abbrev s_two_rows_of : Stmt := top 29
def d_two_rows_of : He.DefD := ⟨("two_rows_of", none), "two_rows_of", "two_rows_of", defArgs s_two_rows_of, defBody s_two_rows_of, defScope s_two_rows_of, [], []⟩
abbrev s_two_rows : Stmt := top 30
def d_two_rows : He.DefD := ⟨("two_rows", none), "two_rows", "two_rows", defArgs s_two_rows, defBody s_two_rows, defScope s_two_rows, [], []⟩
abbrev s__law_hand : Stmt := top 32
def d__law_hand : He.DefD := ⟨("_law_hand", none), "_law_hand", "_law_hand", defArgs s__law_hand, defBody s__law_hand, defScope s__law_hand, [], []⟩
abbrev s__law_draw : Stmt := top 33
def d__law_draw : He.DefD := ⟨("_law_draw", none), "_law_draw", "_law_draw", defArgs s__law_draw, defBody s__law_draw, defScope s__law_draw, [], []⟩
abbrev s__law_any : Stmt := top 34
def d__law_any : He.DefD := ⟨("_law_any", none), "_law_any", "_law_any", defArgs s__law_any, defBody s__law_any, defScope s__law_any, [], []⟩
abbrev s__law_is : Stmt := top 35
def d__law_is : He.DefD := ⟨("_law_is", none), "_law_is", "_law_is", defArgs s__law_is, defBody s__law_is, defScope s__law_is, [], []⟩
abbrev s__law_drawn : Stmt := top 36
def d__law_drawn : He.DefD := ⟨("_law_drawn", none), "_law_drawn", "_law_drawn", defArgs s__law_drawn, defBody s__law_drawn, defScope s__law_drawn, [], []⟩
abbrev s__law_rows : Stmt := top 37
def d__law_rows : He.DefD := ⟨("_law_rows", none), "_law_rows", "_law_rows", defArgs s__law_rows, defBody s__law_rows, defScope s__law_rows, [], []⟩
abbrev s__law_word : Stmt := top 38
def d__law_word : He.DefD := ⟨("_law_word", none), "_law_word", "_law_word", defArgs s__law_word, defBody s__law_word, defScope s__law_word, [], []⟩
abbrev s__law_is_right : Stmt := top 39
def d__law_is_right : He.DefD := ⟨("_law_is_right", none), "_law_is_right", "_law_is_right", defArgs s__law_is_right, defBody s__law_is_right, defScope s__law_is_right, [], []⟩
abbrev s__law_are_refused : Stmt := top 40
def d__law_are_refused : He.DefD := ⟨("_law_are_refused", none), "_law_are_refused", "_law_are_refused", defArgs s__law_are_refused, defBody s__law_are_refused, defScope s__law_are_refused, [], []⟩
abbrev s_law : Stmt := top 41
def d_law : He.DefD := ⟨("law", none), "law", "law", defArgs s_law, defBody s_law, defScope s_law, [], []⟩
def fn : List He.DefD := ([d_is_integer, d_is_between, d_is_tuple_of, d_are_integers, d_sign_of, d_is_grid, d_wrong_pair, d_places_beside, d_lowest, d_spread_from, d_way_back, d_ring_between, d_unlike_pair, d_scaled, d_evened, d_is_table, d_need_table, d_two_rows_of, d_two_rows, d__law_hand] : List He.DefD) ++ ([d__law_draw, d__law_any, d__law_is, d__law_drawn, d__law_rows, d__law_word, d__law_is_right, d__law_are_refused, d_law] : List He.DefD)
def fa : List He.Fa := ([.glo "is_integer", .glo "is_between", .glo "is_tuple_of", .glo "are_integers", .glo "sign_of", .glo "is_grid", .glo "wrong_pair", .glo "places_beside", .glo "lowest", .glo "spread_from", .glo "way_back", .glo "ring_between", .glo "unlike_pair", .glo "scaled", .glo "evened", .glo "is_table", .glo "need_table", .glo "two_rows_of", .glo "two_rows", .glo "_law_hand"] : List He.Fa) ++ ([.glo "_law_draw", .glo "_law_any", .glo "_law_is", .glo "_law_drawn", .glo "_law_rows", .glo "_law_word", .glo "_law_is_right", .glo "_law_are_refused", .glo "law", .glo "SeedError", .glo "NoTable", .glo "TooGreat", .glo "NoNumber", .free "ValueError", .free "abs", .free "all", .free "any", .free "bool", .free "int", .free "isinstance"] : List He.Fa) ++ ([.free "len", .free "max", .free "min", .free "range", .free "repr", .free "sorted", .free "sum", .free "tuple", .free "zip", .int "MOST_PLACES" 6, .int "GREATEST" 10000000000000000000000000000000000000000000000000000000000000000000000000000000000000000000000000000, .int "MOST_STEPS" 60, .exc "SeedError", .exc "NoTable", .exc "TooGreat", .exc "NoNumber"] : List He.Fa)
def tf : List He.Defn := [("_law_are_refused", none), ("_law_is_right", none)]
def ex : PySem.W.Frag → Bool := fun K => He.eqO (PySem.W.nsIn K mainGlobals "gcd") (some (some (.builtin "math.gcd"))) && (Eg.exB K "SeedError" Mr.tt_SeedError && (Eg.kiB K "NoNumber" Mr.tt_NoNumber && (Eg.kiB K "NoTable" Mr.tt_NoTable && (Eg.kiB K "TooGreat" Mr.tt_TooGreat && (decide ((tf.map fun p => (He.cT K p).2).Nodup))))))
abbrev R : PySem.W.OpenRow := PySem.W.OpenLaw.row PySem.Challenge.rw_turnedseeds_k12_whole_rows_of_two_places
abbrev hk : PySem.W.Hook := He.hookX 5 fa fn [] tf ex
def ob (s : PySem.W.SharedT) : He.AlX := He.obsX 5 fa fn [] tf ex (HandSHeadRun.getT s)
theorem ob_eq (s : PySem.W.SharedT) : ob s = hk.obs s.abs := He.obsX_eq (HandSHeadRun.getT_eq s)
def loose : List Str := (["GREATEST", "MOST_PLACES", "MOST_STEPS", "NoNumber", "NoTable", "SeedError", "TooGreat", "_law_any", "_law_are_refused", "_law_draw", "_law_drawn", "_law_hand", "_law_is", "_law_is_right", "_law_rows", "_law_word", "are_integers", "evened", "gcd", "is_between"] : List Str) ++ (["is_grid", "is_integer", "is_table", "is_tuple_of", "lowest", "need_table", "places_beside", "ring_between", "scaled", "sign_of", "spread_from", "two_rows", "two_rows_of", "unlike_pair", "way_back", "wrong_pair"] : List Str)
theorem run (w : World) : HandSHeadRun.RunEqI R (PySem.W.view R.prog [0, 41]) hk ob 4000 loose w := by
  unfold HandSHeadRun.RunEqI
  kernel_rfl
end Lw
end
section
set_option maxHeartbeats 0
/-! derivations, printed by gen.py -/
namespace Lw
open PySem PySem.Spec PyProof.Rows L2 Eg Mr
structure Tx (K : PySem.W.Frag) (mg : Str → Option Value) : Prop where
  g_GREATEST : ∃ t, mg "GREATEST" = some (.int 10000000000000000000000000000000000000000000000000000000000000000000000000000000000000000000000000000 t)
  g_MOST_PLACES : ∃ t, mg "MOST_PLACES" = some (.int 6 t)
  g_MOST_STEPS : ∃ t, mg "MOST_STEPS" = some (.int 60 t)
  g_NoNumber : ExF K mg "NoNumber" (He.ga K "NoNumber")
  g_NoTable : ExF K mg "NoTable" (He.ga K "NoTable")
  g_TooGreat : ExF K mg "TooGreat" (He.ga K "TooGreat")
  g_abs : mg "abs" = none
  g_all : mg "all" = none
  g_any : mg "any" = none
  g_bool : mg "bool" = none
  g_gcd : mg "gcd" = some (.builtin "math.gcd")
  g_int : mg "int" = none
  g_isinstance : mg "isinstance" = none
  g_len : mg "len" = none
  g_max : mg "max" = none
  g_min : mg "min" = none
  g_range : mg "range" = none
  g_repr : mg "repr" = none
  g_sorted : mg "sorted" = none
  g_sum : mg "sum" = none
  g_tuple : mg "tuple" = none
  g_zip : mg "zip" = none
  gc_NoNumber : mg "NoNumber" = some (.ref (He.ga K "NoNumber"))
  gc_NoTable : mg "NoTable" = some (.ref (He.ga K "NoTable"))
  gc_SeedError : mg "SeedError" = some (.ref (He.ga K "SeedError"))
  gc_TooGreat : mg "TooGreat" = some (.ref (He.ga K "TooGreat"))
  te_SeedError : ∀ e b cls, tst_SeedError e = some b → mg e.cls = some cls → PySem.W.exmOne K cls (.ref (He.ga K "SeedError")) = some b
  ie_NoNumber : ∀ e b cls, tsi_NoNumber e = some b → mg e.cls = some cls → e.arg = none ∧ ∃ D, cls = .ref D ∧ ExcC K D ∧ PySem.W.kitOne K (.ref D) (.ref (He.ga K "NoNumber")) = some b
  ie_NoTable : ∀ e b cls, tsi_NoTable e = some b → mg e.cls = some cls → e.arg = none ∧ ∃ D, cls = .ref D ∧ ExcC K D ∧ PySem.W.kitOne K (.ref D) (.ref (He.ga K "NoTable")) = some b
  ie_TooGreat : ∀ e b cls, tsi_TooGreat e = some b → mg e.cls = some cls → e.arg = none ∧ ∃ D, cls = .ref D ∧ ExcC K D ∧ PySem.W.kitOne K (.ref D) (.ref (He.ga K "TooGreat")) = some b
  f_is_integer : mg "is_integer" = some (.ref (He.ga K "is_integer"))
  f_is_between : mg "is_between" = some (.ref (He.ga K "is_between"))
  f_is_tuple_of : mg "is_tuple_of" = some (.ref (He.ga K "is_tuple_of"))
  f_are_integers : mg "are_integers" = some (.ref (He.ga K "are_integers"))
  f_sign_of : mg "sign_of" = some (.ref (He.ga K "sign_of"))
  f_is_grid : mg "is_grid" = some (.ref (He.ga K "is_grid"))
  f_wrong_pair : mg "wrong_pair" = some (.ref (He.ga K "wrong_pair"))
  f_places_beside : mg "places_beside" = some (.ref (He.ga K "places_beside"))
  f_lowest : mg "lowest" = some (.ref (He.ga K "lowest"))
  f_spread_from : mg "spread_from" = some (.ref (He.ga K "spread_from"))
  f_way_back : mg "way_back" = some (.ref (He.ga K "way_back"))
  f_ring_between : mg "ring_between" = some (.ref (He.ga K "ring_between"))
  f_unlike_pair : mg "unlike_pair" = some (.ref (He.ga K "unlike_pair"))
  f_scaled : mg "scaled" = some (.ref (He.ga K "scaled"))
  f_evened : mg "evened" = some (.ref (He.ga K "evened"))
  f_is_table : mg "is_table" = some (.ref (He.ga K "is_table"))
  f_need_table : mg "need_table" = some (.ref (He.ga K "need_table"))
  f_two_rows_of : mg "two_rows_of" = some (.ref (He.ga K "two_rows_of"))
  f_two_rows : mg "two_rows" = some (.ref (He.ga K "two_rows"))
  f__law_hand : mg "_law_hand" = some (.ref (He.ga K "_law_hand"))
  f__law_draw : mg "_law_draw" = some (.ref (He.ga K "_law_draw"))
  f__law_any : mg "_law_any" = some (.ref (He.ga K "_law_any"))
  f__law_is : mg "_law_is" = some (.ref (He.ga K "_law_is"))
  f__law_drawn : mg "_law_drawn" = some (.ref (He.ga K "_law_drawn"))
  f__law_rows : mg "_law_rows" = some (.ref (He.ga K "_law_rows"))
  f__law_word : mg "_law_word" = some (.ref (He.ga K "_law_word"))
  f__law_is_right : mg "_law_is_right" = some (.ref (He.ga K "_law_is_right"))
  f__law_are_refused : mg "_law_are_refused" = some (.ref (He.ga K "_law_are_refused"))
  f_law : mg "law" = some (.ref (He.ga K "law"))
variable {P : Program} {w : World} {K : PySem.W.Frag} {mg : Str → Option Value} {base : Heap} {L : List (Addr × Str)}
theorem sc_is_integer : FnScope (["thing"] : List Str) (["thing"] : List Str) (defScope s_is_integer) := ⟨rfl, rfl, rfl, by decide +kernel, rfl, by decide +kernel, by decide +kernel⟩
theorem ok_is_integer (T : Tx K mg) {fd : FuncData} (F : FunD K "is_integer" "is_integer" (defArgs s_is_integer) (defBody s_is_integer) (defScope s_is_integer) [] [] (He.ga K "is_integer") fd)  : Okf P w K mg base L 1 "is_integer" 1 m_is_integer := by
  refine okf_of F T.f_is_integer (ps := (["thing"] : List Str)) (fun _ _ _ _ _ _ us h => ?_) rfl ?_
  · match us, h with
    | [a1], _ => rfl
  · obtain ⟨oc, od, dV, kV, doc, pm, an, cdv, ct, osl, rfl, lk, hcd, _, _⟩ := F.ex
    refine okG (k := 0) (N := (["thing"] : List Str)) (fb := b_is_integer) lk hcd sc_is_integer fun A outer s H E c hL G R tk => ?_
    exact (pss_one' (ps_ret' (pe_and' (pe_isi G.toBase kit_int (po_name (i := 0) rfl (Or.inl rfl)) T.g_isinstance T.g_int bt_int) (pe_one' (pe_not' (pe_isi G.toBase kit_bool (po_name (i := 0) rfl (Or.inl rfl)) T.g_isinstance T.g_bool bt_bool))))))
theorem sc_is_between : FnScope (["thing", "least", "most"] : List Str) (["thing", "least", "most"] : List Str) (defScope s_is_between) := ⟨rfl, rfl, rfl, by decide +kernel, rfl, by decide +kernel, by decide +kernel⟩
theorem ok_is_between (T : Tx K mg) {fd : FuncData} (F : FunD K "is_between" "is_between" (defArgs s_is_between) (defBody s_is_between) (defScope s_is_between) [] [] (He.ga K "is_between") fd) (c_is_integer : Okf P w K mg base L 1 "is_integer" 1 m_is_integer) : Okf P w K mg base L 2 "is_between" 3 m_is_between := by
  refine okf_of F T.f_is_between (ps := (["thing", "least", "most"] : List Str)) (fun _ _ _ _ _ _ us h => ?_) rfl ?_
  · match us, h with
    | [a1, b1, c1], _ => rfl
  · obtain ⟨oc, od, dV, kV, doc, pm, an, cdv, ct, osl, rfl, lk, hcd, _, _⟩ := F.ex
    refine okG (k := 1) (N := (["thing", "least", "most"] : List Str)) (fb := b_is_between) lk hcd sc_is_between fun A outer s H E c hL G R tk => ?_
    exact (pss_one' (ps_ret' (pe_and' (pe_callO G.toBase tk hL c_is_integer (R.mono (by decide)) (po_cons (po_name (i := 0) rfl (Or.inl rfl)) po_nil)) (pe_one' (pe_ch G.toBase op_leD op_leD (po_name (i := 1) rfl (Or.inl rfl)) (po_name (i := 0) rfl (Or.inl rfl)) (po_name (i := 2) rfl (Or.inl rfl)))))))
theorem sc_is_tuple_of : FnScope (["thing", "many"] : List Str) (["thing", "many"] : List Str) (defScope s_is_tuple_of) := ⟨rfl, rfl, rfl, by decide +kernel, rfl, by decide +kernel, by decide +kernel⟩
theorem ok_is_tuple_of (T : Tx K mg) {fd : FuncData} (F : FunD K "is_tuple_of" "is_tuple_of" (defArgs s_is_tuple_of) (defBody s_is_tuple_of) (defScope s_is_tuple_of) [] [] (He.ga K "is_tuple_of") fd)  : Okf P w K mg base L 1 "is_tuple_of" 2 m_is_tuple_of := by
  refine okf_of F T.f_is_tuple_of (ps := (["thing", "many"] : List Str)) (fun _ _ _ _ _ _ us h => ?_) rfl ?_
  · match us, h with
    | [a1, b1], _ => rfl
  · obtain ⟨oc, od, dV, kV, doc, pm, an, cdv, ct, osl, rfl, lk, hcd, _, _⟩ := F.ex
    refine okG (k := 0) (N := (["thing", "many"] : List Str)) (fb := b_is_tuple_of) lk hcd sc_is_tuple_of fun A outer s H E c hL G R tk => ?_
    exact (pss_one' (ps_ret' (pe_and' (pe_isi G.toBase kit_tup (po_name (i := 0) rfl (Or.inl rfl)) T.g_isinstance T.g_tuple bt_tuple) (pe_one' (pe_com G.toBase (op_eqD' G.toBase.u64) (po_d (pe_de (pe_blt G.toBase cr_len (by rfl) T.g_len bt_len (po_cons (po_name (i := 0) rfl (Or.inl rfl)) po_nil)))) (po_name (i := 1) rfl (Or.inl rfl)) (by rfl))))))
theorem sc_are_integers : FnScope (["thing", "many", "one"] : List Str) (["thing", "many"] : List Str) (defScope s_are_integers) := ⟨rfl, rfl, rfl, by decide +kernel, rfl, by decide +kernel, by decide +kernel⟩
theorem ok_are_integers (T : Tx K mg) {fd : FuncData} (F : FunD K "are_integers" "are_integers" (defArgs s_are_integers) (defBody s_are_integers) (defScope s_are_integers) [] [] (He.ga K "are_integers") fd) (c_is_integer : Okf P w K mg base L 1 "is_integer" 1 m_is_integer) (c_is_tuple_of : Okf P w K mg base L 1 "is_tuple_of" 2 m_is_tuple_of) : Okf P w K mg base L 2 "are_integers" 2 m_are_integers := by
  refine okf_of F T.f_are_integers (ps := (["thing", "many"] : List Str)) (fun _ _ _ _ _ _ us h => ?_) rfl ?_
  · match us, h with
    | [a1, b1], _ => rfl
  · obtain ⟨oc, od, dV, kV, doc, pm, an, cdv, ct, osl, rfl, lk, hcd, _, _⟩ := F.ex
    refine okG (k := 1) (N := (["thing", "many", "one"] : List Str)) (fb := b_are_integers) lk hcd sc_are_integers fun A outer s H E c hL G R tk => ?_
    exact (pss_one' (ps_ret' (pe_and' (pe_callO G.toBase tk hL c_is_tuple_of (R.mono (by decide)) (po_cons (po_name (i := 0) rfl (Or.inl rfl)) (po_cons (po_name (i := 1) rfl (Or.inl rfl)) po_nil))) (pe_one' (pe_blt G.toBase (cr_allD G.calm) (by rfl) T.g_all bt_all (po_cons (po_d (pe_de (pe_lc' G (pi_seq' G.toBase (pe_de (pe_name (i := 0) rfl (Or.inl rfl)))) (blkOk_by (N := (["thing", "many", "one"] : List Str)) (sc := defScope s_are_integers) (own := [("one", 2)]) (by decide +kernel)) (by decide) (fun s H C cl fp => (pg_name' (G).blk.toBase (i := 2) rfl (Or.inl rfl))) (fun s H C cl fp => pts_nil') (fun s H C cl fp => (pe_de (pe_callO (G).blk.toBase takes_quiet hL c_is_integer (R.mono (by decide)) (po_cons (po_name (i := 2) rfl (Or.inl rfl)) po_nil))))))) po_nil))))))
theorem sc_sign_of : FnScope (["number"] : List Str) (["number"] : List Str) (defScope s_sign_of) := ⟨rfl, rfl, rfl, by decide +kernel, rfl, by decide +kernel, by decide +kernel⟩
theorem ok_sign_of (T : Tx K mg) {fd : FuncData} (F : FunD K "sign_of" "sign_of" (defArgs s_sign_of) (defBody s_sign_of) (defScope s_sign_of) [] [] (He.ga K "sign_of") fd)  : Okf P w K mg base L 1 "sign_of" 1 m_sign_of := by
  refine okf_of F T.f_sign_of (ps := (["number"] : List Str)) (fun _ _ _ _ _ _ us h => ?_) rfl ?_
  · match us, h with
    | [a1], _ => rfl
  · obtain ⟨oc, od, dV, kV, doc, pm, an, cdv, ct, osl, rfl, lk, hcd, _, _⟩ := F.ex
    refine okG (k := 0) (N := (["number"] : List Str)) (fb := b_sign_of) lk hcd sc_sign_of fun A outer s H E c hL G R tk => ?_
    exact (pss_cons' (ps_if' (pt_com G.toBase (op_eqD' G.toBase.u64) (po_name (i := 0) rfl (Or.inl rfl)) (po_d pd_int) (by rfl)) (pss_one' (ps_ret' (pe_en pd_int))) pss_nil')
    (pss_one' (ps_ret' (pe_if' (pt_com G.toBase op_gtD (po_name (i := 0) rfl (Or.inl rfl)) (po_d pd_int) (by rfl)) (pe_en pd_int) (pe_una G.toBase un_negD (po_d pd_int))))))
theorem sc_is_grid : FnScope (["thing", "row", "number"] : List Str) (["thing"] : List Str) (defScope s_is_grid) := ⟨rfl, rfl, rfl, by decide +kernel, rfl, by decide +kernel, by decide +kernel⟩
theorem ok_is_grid (T : Tx K mg) {fd : FuncData} (F : FunD K "is_grid" "is_grid" (defArgs s_is_grid) (defBody s_is_grid) (defScope s_is_grid) [] [] (He.ga K "is_grid") fd) (c_are_integers : Okf P w K mg base L 2 "are_integers" 2 m_are_integers) : Okf P w K mg base L 3 "is_grid" 1 m_is_grid := by
  refine okf_of F T.f_is_grid (ps := (["thing"] : List Str)) (fun _ _ _ _ _ _ us h => ?_) rfl ?_
  · match us, h with
    | [a1], _ => rfl
  · obtain ⟨oc, od, dV, kV, doc, pm, an, cdv, ct, osl, rfl, lk, hcd, _, _⟩ := F.ex
    refine okG (k := 2) (N := (["thing", "row", "number"] : List Str)) (fb := b_is_grid) lk hcd sc_is_grid fun A outer s H E c hL G R tk => ?_
    exact (pss_cons' (ps_if' (pw_or' (pt_not' (pt_bool (pe_isi G.toBase kit_tup (po_name (i := 0) rfl (Or.inr (Or.inl rfl))) T.g_isinstance T.g_tuple bt_tuple))) (pw_one_or (pt_not' (pt_ch G.toBase op_leD op_leD (po_d pd_int) (po_d (pe_de (pe_blt G.toBase cr_len (by rfl) T.g_len bt_len (po_cons (po_name (i := 0) rfl (Or.inr (Or.inl rfl))) po_nil)))) (po_d (pd_gint (by rfl) T.g_MOST_PLACES)))))).pt (pss_one' (ps_ret' (pe_en pd_bl))) pss_nil')
    (pss_cons' (ps_if' (pt_not' (pt_bool (pe_blt G.toBase (cr_allD G.calm) (by rfl) T.g_all bt_all (po_cons (po_d (pe_de (pe_lc' G (pi_seq' G.toBase (pe_de (pe_name (i := 0) rfl (Or.inr (Or.inl rfl))))) (blkOk_by (N := (["thing", "row", "number"] : List Str)) (sc := defScope s_is_grid) (own := [("row", 1)]) (by decide +kernel)) (by decide) (fun s H C cl fp => (pg_name' (G).blk.toBase (i := 1) rfl (Or.inl rfl))) (fun s H C cl fp => pts_nil') (fun s H C cl fp => (pe_de (pe_callO (G).blk.toBase takes_quiet hL c_are_integers (R.mono (by decide)) (po_cons (po_name (i := 1) rfl (Or.inl rfl)) (po_cons (po_d (pe_de (pe_blt (G).blk.toBase cr_len (by rfl) T.g_len bt_len (po_cons (po_name (i := 0) rfl (Or.inr (Or.inl rfl))) po_nil)))) po_nil)))))))) po_nil)))) (pss_one' (ps_ret' (pe_en pd_bl))) pss_nil')
    (pss_one' (ps_ret' (pe_blt G.toBase (cr_allD G.calm) (by rfl) T.g_all bt_all (po_cons (po_d (pe_de (pe_lc2' G (pi_seq' G.toBase (pe_de (pe_name (i := 0) rfl (Or.inr (Or.inl rfl))))) (blkOk_by (N := (["thing", "row", "number"] : List Str)) (sc := defScope s_is_grid) (own := [("row", 1), ("number", 2)]) (by decide +kernel)) (vs1 := [2]) (by decide) (by decide) (by decide) (fun s H C cl fp => (pg_name' (G).blk.toBase (i := 1) rfl (Or.inl rfl))) (fun s H C cl fp => pts_nil') (fun s H C cl fp => (pi_seq' (G).blk.toBase (pe_de (pe_name (i := 1) rfl (Or.inl rfl))))) (fun s H C cl fp => (pg_name' (G).blk.toBase (i := 2) rfl (Or.inl rfl))) (fun s H C cl fp => pts_nil') (fun s H C cl fp => (pe_de (pe_com (G).blk.toBase op_leD (po_d (pe_de (pe_blt (G).blk.toBase cr_abs (by rfl) T.g_abs bt_abs (po_cons (po_name (i := 2) rfl (Or.inl rfl)) po_nil)))) (po_d (pd_gint (by rfl) T.g_GREATEST)) (by rfl))))))) po_nil))))))
theorem sc_wrong_pair : FnScope (["grid", "i", "j"] : List Str) (["grid"] : List Str) (defScope s_wrong_pair) := ⟨rfl, rfl, rfl, by decide +kernel, rfl, by decide +kernel, by decide +kernel⟩
theorem ok_wrong_pair (T : Tx K mg) {fd : FuncData} (F : FunD K "wrong_pair" "wrong_pair" (defArgs s_wrong_pair) (defBody s_wrong_pair) (defScope s_wrong_pair) [] [] (He.ga K "wrong_pair") fd) (c_sign_of : Okf P w K mg base L 1 "sign_of" 1 m_sign_of) : Okf P w K mg base L 2 "wrong_pair" 1 m_wrong_pair := by
  refine okf_of F T.f_wrong_pair (ps := (["grid"] : List Str)) (fun _ _ _ _ _ _ us h => ?_) rfl ?_
  · match us, h with
    | [a1], _ => rfl
  · obtain ⟨oc, od, dV, kV, doc, pm, an, cdv, ct, osl, rfl, lk, hcd, _, _⟩ := F.ex
    refine okG (k := 1) (N := (["grid", "i", "j"] : List Str)) (fb := b_wrong_pair) lk hcd sc_wrong_pair fun A outer s H E c hL G R tk => ?_
    exact (pss_cons' (ps_for' (passes_of rfl) G (pi_range1' G.toBase (by rfl) T.g_range (pl_cons (pe_de (pe_blt G.toBase cr_len (by rfl) T.g_len bt_len (po_cons (po_name (i := 0) rfl (Or.inl rfl)) po_nil))) pl_nil)) (pg_name' G.toBase (i := 1) rfl (Or.inl rfl)) (pss_one' (ps_for' (passes_of rfl) G (pi_range2' G.toBase (by rfl) T.g_range (pl_cons (pe_de (pe_name (i := 1) rfl (Or.inl rfl))) (pl_cons (pe_de (pe_blt G.toBase cr_len (by rfl) T.g_len bt_len (po_cons (po_name (i := 0) rfl (Or.inl rfl)) po_nil))) pl_nil))) (pg_name' G.toBase (i := 2) rfl (Or.inl rfl)) (pss_one' (ps_if' (pt_com G.toBase (op_neD' G.toBase.u64) (po_d (pe_de (pe_callO G.toBase tk hL c_sign_of (R.mono (by decide)) (po_cons (po_d (pe_de (pe_ix' G.toBase (po_d (pe_de (pe_ix' G.toBase (po_name (i := 0) rfl (Or.inl rfl)) (po_name (i := 1) rfl (Or.inl rfl)) (fun _ _ => rfl)))) (po_name (i := 2) rfl (Or.inl rfl)) (fun _ _ => rfl)))) po_nil)))) (po_d (pe_de (pe_una G.toBase un_negD (po_d (pe_de (pe_callO G.toBase tk hL c_sign_of (R.mono (by decide)) (po_cons (po_d (pe_de (pe_ix' G.toBase (po_d (pe_de (pe_ix' G.toBase (po_name (i := 0) rfl (Or.inl rfl)) (po_name (i := 2) rfl (Or.inl rfl)) (fun _ _ => rfl)))) (po_name (i := 1) rfl (Or.inl rfl)) (fun _ _ => rfl)))) po_nil))))))) (by rfl)) (pss_one' (ps_ret' (pe_tup' (pl_cons (pe_de (pe_name (i := 1) rfl (Or.inl rfl))) (pl_cons (pe_de (pe_name (i := 2) rfl (Or.inl rfl))) pl_nil))))) pss_nil')))))
    (pss_one' (ps_ret' (pe_en pd_non))))
theorem sc_places_beside : FnScope (["grid", "i", "j"] : List Str) (["grid", "i"] : List Str) (defScope s_places_beside) := ⟨rfl, rfl, rfl, by decide +kernel, rfl, by decide +kernel, by decide +kernel⟩
theorem ok_places_beside (T : Tx K mg) {fd : FuncData} (F : FunD K "places_beside" "places_beside" (defArgs s_places_beside) (defBody s_places_beside) (defScope s_places_beside) [] [] (He.ga K "places_beside") fd)  : Okf P w K mg base L 1 "places_beside" 2 m_places_beside := by
  refine okf_of F T.f_places_beside (ps := (["grid", "i"] : List Str)) (fun _ _ _ _ _ _ us h => ?_) rfl ?_
  · match us, h with
    | [a1, b1], _ => rfl
  · obtain ⟨oc, od, dV, kV, doc, pm, an, cdv, ct, osl, rfl, lk, hcd, _, _⟩ := F.ex
    refine okG (k := 0) (N := (["grid", "i", "j"] : List Str)) (fb := b_places_beside) lk hcd sc_places_beside fun A outer s H E c hL G R tk => ?_
    exact (pss_one' (ps_ret' (pe_lc' G (pi_range1' G.toBase (by rfl) T.g_range (pl_cons (pe_de (pe_blt G.toBase cr_len (by rfl) T.g_len bt_len (po_cons (po_name (i := 0) rfl (Or.inr (Or.inl rfl))) po_nil))) pl_nil)) (blkOk_by (N := (["grid", "i", "j"] : List Str)) (sc := defScope s_places_beside) (own := [("j", 2)]) (by decide +kernel)) (by decide) (fun s H C cl fp => (pg_name' (G).blk.toBase (i := 2) rfl (Or.inl rfl))) (fun s H C cl fp => (pts_one' (pw_and' (pt_com (G).blk.toBase (op_neD' (G).blk.toBase.u64) (po_name (i := 2) rfl (Or.inl rfl)) (po_name (i := 1) rfl (Or.inr (Or.inl rfl))) (by rfl)) (pw_one_and (pt_com (G).blk.toBase (op_neD' (G).blk.toBase.u64) (po_d (pe_de (pe_ix' (G).blk.toBase (po_d (pe_de (pe_ix' (G).blk.toBase (po_name (i := 0) rfl (Or.inr (Or.inl rfl))) (po_name (i := 1) rfl (Or.inr (Or.inl rfl))) (fun _ _ => rfl)))) (po_name (i := 2) rfl (Or.inl rfl)) (fun _ _ => rfl)))) (po_d pd_int) (by rfl)))).pt)) (fun s H C cl fp => (pe_de (pe_name (i := 2) rfl (Or.inl rfl)))))))
theorem sc_lowest : FnScope (["top", "bottom", "divisor"] : List Str) (["top", "bottom"] : List Str) (defScope s_lowest) := ⟨rfl, rfl, rfl, by decide +kernel, rfl, by decide +kernel, by decide +kernel⟩
theorem ok_lowest (T : Tx K mg) {fd : FuncData} (F : FunD K "lowest" "lowest" (defArgs s_lowest) (defBody s_lowest) (defScope s_lowest) [] [] (He.ga K "lowest") fd)  : Okf P w K mg base L 1 "lowest" 2 m_lowest := by
  refine okf_of F T.f_lowest (ps := (["top", "bottom"] : List Str)) (fun _ _ _ _ _ _ us h => ?_) rfl ?_
  · match us, h with
    | [a1, b1], _ => rfl
  · obtain ⟨oc, od, dV, kV, doc, pm, an, cdv, ct, osl, rfl, lk, hcd, _, _⟩ := F.ex
    refine okG (k := 0) (N := (["top", "bottom", "divisor"] : List Str)) (fb := b_lowest) lk hcd sc_lowest fun A outer s H E c hL G R tk => ?_
    exact (pss_cons' (ps_set' G.toBase (i := 2) rfl (Or.inl rfl) (pe_bltf G.toBase cr_gcdD (by rfl) T.g_gcd (po_cons (po_name (i := 0) rfl (Or.inl rfl)) (po_cons (po_name (i := 1) rfl (Or.inl rfl)) po_nil))))
    (pss_one' (ps_ret' (pe_tup' (pl_cons (pe_de (pe_bin G.toBase op_fdivD (po_name (i := 0) rfl (Or.inl rfl)) (po_name (i := 2) rfl (Or.inl rfl)))) (pl_cons (pe_de (pe_bin G.toBase op_fdivD (po_name (i := 1) rfl (Or.inl rfl)) (po_name (i := 2) rfl (Or.inl rfl)))) pl_nil))))))
theorem sc_spread_from : FnScope (["grid", "begin", "told", "ahead", "order", "at", "i", "j"] : List Str) (["grid", "begin"] : List Str) (defScope s_spread_from) := ⟨rfl, rfl, rfl, by decide +kernel, rfl, by decide +kernel, by decide +kernel⟩
theorem ok_spread_from (T : Tx K mg) {fd : FuncData} (F : FunD K "spread_from" "spread_from" (defArgs s_spread_from) (defBody s_spread_from) (defScope s_spread_from) [] [] (He.ga K "spread_from") fd) (c_places_beside : Okf P w K mg base L 1 "places_beside" 2 m_places_beside) (c_lowest : Okf P w K mg base L 1 "lowest" 2 m_lowest) : Okf P w K mg base L 2 "spread_from" 2 m_spread_from := by
  refine okf_of F T.f_spread_from (ps := (["grid", "begin"] : List Str)) (fun _ _ _ _ _ _ us h => ?_) rfl ?_
  · match us, h with
    | [a1, b1], _ => rfl
  · obtain ⟨oc, od, dV, kV, doc, pm, an, cdv, ct, osl, rfl, lk, hcd, _, _⟩ := F.ex
    refine okG (k := 1) (N := (["grid", "begin", "told", "ahead", "order", "at", "i", "j"] : List Str)) (fb := b_spread_from) lk hcd sc_spread_from fun A outer s H E c hL G R tk => ?_
    exact (pss_cons' (ps_set' G.toBase (i := 2) rfl (Or.inl rfl) (pe_disp' (pps_cons (pe_de (pe_name (i := 1) rfl (Or.inl rfl))) (pe_de (pe_tup' (pl_cons pd_int (pl_cons pd_int pl_nil)))) pps_nil) (by rfl) (by rfl) (by decide) (by decide)))
    (pss_cons' (ps_set' G.toBase (i := 3) rfl (Or.inl rfl) (pe_disp' (pps_cons (pe_de (pe_name (i := 1) rfl (Or.inl rfl))) pd_non pps_nil) (by rfl) (by rfl) (by decide) (by decide)))
    (pss_cons' (ps_set' G.toBase (i := 4) rfl (Or.inl rfl) (pe_lst' (pl_cons (pe_de (pe_name (i := 1) rfl (Or.inl rfl))) pl_nil)))
    (pss_cons' (ps_set' G.toBase (i := 5) rfl (Or.inl rfl) (pe_en pd_int))
    (pss_cons' (ps_while' 1000000 (passes_of rfl) (pt_com G.toBase op_ltD (po_name (i := 5) rfl (Or.inl rfl)) (po_d (pe_de (pe_blt G.toBase cr_len (by rfl) T.g_len bt_len (po_cons (po_name (i := 4) rfl (Or.inl rfl)) po_nil)))) (by rfl)) (pss_cons' (ps_set' G.toBase (i := 6) rfl (Or.inl rfl) (pe_ix' G.toBase (po_name (i := 4) rfl (Or.inl rfl)) (po_name (i := 5) rfl (Or.inl rfl)) (fun _ _ => rfl)))
    (pss_cons' (ps_augI G.toBase ip_add (i := 5) rfl (Or.inl rfl) pd_int)
    (pss_one' (ps_for' (passes_of rfl) G (pi_seq' G.toBase (pe_de (pe_callO G.toBase tk hL c_places_beside (R.mono (by decide)) (po_cons (po_name (i := 0) rfl (Or.inl rfl)) (po_cons (po_name (i := 6) rfl (Or.inl rfl)) po_nil))))) (pg_name' G.toBase (i := 7) rfl (Or.inl rfl)) (pss_one' (ps_if' (pt_com G.toBase (op_notInE G.toBase.u65) (po_name (i := 7) rfl (Or.inl rfl)) (po_name (i := 2) rfl (Or.inl rfl)) (by rfl)) (pss_cons' (ps_setKey G.toBase (i := 2) rfl (Or.inl rfl) (pe_de (pe_name (i := 7) rfl (Or.inl rfl))) (pe_de (pe_callO G.toBase tk hL c_lowest (R.mono (by decide)) (po_cons (po_d (pe_de (pe_bin G.toBase op_mulD (po_d (pe_de (pe_ix' G.toBase (po_d (pe_de (pe_ix' G.toBase (po_name (i := 2) rfl (Or.inl rfl)) (po_name (i := 6) rfl (Or.inl rfl)) (fun _ _ => rfl)))) (po_d pd_int) (fun _ _ => rfl)))) (po_d (pe_de (pe_blt G.toBase cr_abs (by rfl) T.g_abs bt_abs (po_cons (po_d (pe_de (pe_ix' G.toBase (po_d (pe_de (pe_ix' G.toBase (po_name (i := 0) rfl (Or.inl rfl)) (po_name (i := 6) rfl (Or.inl rfl)) (fun _ _ => rfl)))) (po_name (i := 7) rfl (Or.inl rfl)) (fun _ _ => rfl)))) po_nil))))))) (po_cons (po_d (pe_de (pe_bin G.toBase op_mulD (po_d (pe_de (pe_ix' G.toBase (po_d (pe_de (pe_ix' G.toBase (po_name (i := 2) rfl (Or.inl rfl)) (po_name (i := 6) rfl (Or.inl rfl)) (fun _ _ => rfl)))) (po_d pd_int) (fun _ _ => rfl)))) (po_d (pe_de (pe_blt G.toBase cr_abs (by rfl) T.g_abs bt_abs (po_cons (po_d (pe_de (pe_ix' G.toBase (po_d (pe_de (pe_ix' G.toBase (po_name (i := 0) rfl (Or.inl rfl)) (po_name (i := 7) rfl (Or.inl rfl)) (fun _ _ => rfl)))) (po_name (i := 6) rfl (Or.inl rfl)) (fun _ _ => rfl)))) po_nil))))))) po_nil)))))
    (pss_cons' (ps_setKey G.toBase (i := 3) rfl (Or.inl rfl) (pe_de (pe_name (i := 7) rfl (Or.inl rfl))) (pe_de (pe_name (i := 6) rfl (Or.inl rfl))))
    (pss_one' (ps_expr' (pe_mtL G.toBase PySem.F.slot_list_append PySem.F.type_list_append mt_append mg_app (i := 4) rfl (Or.inl rfl) (pl_cons (pe_de (pe_name (i := 7) rfl (Or.inl rfl))) pl_nil)))))) pss_nil')))))))
    (pss_one' (ps_ret' (pe_tup' (pl_cons (pe_de (pe_name (i := 2) rfl (Or.inl rfl))) (pl_cons (pe_de (pe_name (i := 3) rfl (Or.inl rfl))) pl_nil))))))))))
theorem sc_way_back : FnScope (["ahead", "place", "found"] : List Str) (["ahead", "place"] : List Str) (defScope s_way_back) := ⟨rfl, rfl, rfl, by decide +kernel, rfl, by decide +kernel, by decide +kernel⟩
theorem ok_way_back (T : Tx K mg) {fd : FuncData} (F : FunD K "way_back" "way_back" (defArgs s_way_back) (defBody s_way_back) (defScope s_way_back) [] [] (He.ga K "way_back") fd)  : Okf P w K mg base L 1 "way_back" 2 m_way_back := by
  refine okf_of F T.f_way_back (ps := (["ahead", "place"] : List Str)) (fun _ _ _ _ _ _ us h => ?_) rfl ?_
  · match us, h with
    | [a1, b1], _ => rfl
  · obtain ⟨oc, od, dV, kV, doc, pm, an, cdv, ct, osl, rfl, lk, hcd, _, _⟩ := F.ex
    refine okG (k := 0) (N := (["ahead", "place", "found"] : List Str)) (fb := b_way_back) lk hcd sc_way_back fun A outer s H E c hL G R tk => ?_
    exact (pss_cons' (ps_set' G.toBase (i := 2) rfl (Or.inl rfl) (pe_lst' (pl_cons (pe_de (pe_name (i := 1) rfl (Or.inl rfl))) pl_nil)))
    (pss_cons' (ps_while' 1000000 (passes_of rfl) (pt_com G.toBase op_isNotD (po_d (pe_de (pe_ix' G.toBase (po_name (i := 0) rfl (Or.inl rfl)) (po_d (pe_de (pe_ix' G.toBase (po_name (i := 2) rfl (Or.inl rfl)) (po_d (pe_de (pe_una G.toBase un_negD (po_d pd_int)))) (fun _ _ => rfl)))) (fun _ _ => rfl)))) (po_d pd_non) (by rfl)) (pss_one' (ps_expr' (pe_mtL G.toBase PySem.F.slot_list_append PySem.F.type_list_append mt_append mg_app (i := 2) rfl (Or.inl rfl) (pl_cons (pe_de (pe_ix' G.toBase (po_name (i := 0) rfl (Or.inl rfl)) (po_d (pe_de (pe_ix' G.toBase (po_name (i := 2) rfl (Or.inl rfl)) (po_d (pe_de (pe_una G.toBase un_negD (po_d pd_int)))) (fun _ _ => rfl)))) (fun _ _ => rfl))) pl_nil)))))
    (pss_one' (ps_retName (i := 2) rfl (Or.inl rfl)))))
theorem sc_ring_between : FnScope (["ahead", "i", "j", "mine", "theirs", "meet", "place"] : List Str) (["ahead", "i", "j"] : List Str) (defScope s_ring_between) := ⟨rfl, rfl, rfl, by decide +kernel, rfl, by decide +kernel, by decide +kernel⟩
theorem ok_ring_between (T : Tx K mg) {fd : FuncData} (F : FunD K "ring_between" "ring_between" (defArgs s_ring_between) (defBody s_ring_between) (defScope s_ring_between) [] [] (He.ga K "ring_between") fd) (c_way_back : Okf P w K mg base L 1 "way_back" 2 m_way_back) : Okf P w K mg base L 2 "ring_between" 3 m_ring_between := by
  refine okf_of F T.f_ring_between (ps := (["ahead", "i", "j"] : List Str)) (fun _ _ _ _ _ _ us h => ?_) rfl ?_
  · match us, h with
    | [a1, b1, c1], _ => rfl
  · obtain ⟨oc, od, dV, kV, doc, pm, an, cdv, ct, osl, rfl, lk, hcd, _, _⟩ := F.ex
    refine okG (k := 1) (N := (["ahead", "i", "j", "mine", "theirs", "meet", "place"] : List Str)) (fb := b_ring_between) lk hcd sc_ring_between fun A outer s H E c hL G R tk => ?_
    exact (pss_cons' (ps_asg' (pe_de (pe_tup' (pl_cons (pe_de (pe_callO G.toBase tk hL c_way_back (R.mono (by decide)) (po_cons (po_name (i := 0) rfl (Or.inl rfl)) (po_cons (po_name (i := 1) rfl (Or.inl rfl)) po_nil)))) (pl_cons (pe_de (pe_callO G.toBase tk hL c_way_back (R.mono (by decide)) (po_cons (po_name (i := 0) rfl (Or.inl rfl)) (po_cons (po_name (i := 2) rfl (Or.inl rfl)) po_nil)))) pl_nil)))) (pg_tup' G (pgs_cons' (pg_name' G.toBase (i := 3) rfl (Or.inl rfl)) (pgs_cons' (pg_name' G.toBase (i := 4) rfl (Or.inr rfl)) pgs_nil'))))
    (pss_cons' (ps_set' G.toBase (i := 5) rfl (Or.inl rfl) (pe_ix' G.toBase (po_d (pe_de (pe_lc' G (pi_seq' G.toBase (pe_de (pe_name (i := 3) rfl (Or.inl rfl)))) (blkOk_by (N := (["ahead", "i", "j", "mine", "theirs", "meet", "place"] : List Str)) (sc := defScope s_ring_between) (own := [("place", 6)]) (by decide +kernel)) (by decide) (fun s H C cl fp => (pg_name' (G).blk.toBase (i := 6) rfl (Or.inl rfl))) (fun s H C cl fp => (pts_one' (pt_com (G).blk.toBase (op_inE (G).blk.toBase.u65) (po_name (i := 6) rfl (Or.inl rfl)) (po_name (i := 4) rfl (Or.inr (Or.inl rfl))) (by rfl)))) (fun s H C cl fp => (pe_de (pe_name (i := 6) rfl (Or.inl rfl))))))) (po_d pd_int) (fun _ _ => rfl)))
    (pss_one' (ps_ret' (pe_blty G.toBase cr_tuple (by rfl) T.g_tuple bt_tuple (po_cons (po_d (pe_de (pe_bin G.toBase op_addD (po_d (pe_de (pe_slice' G.toBase (po_name (i := 3) rfl (Or.inl rfl)) po_none' (po_some' (pe_de (pe_bin G.toBase op_addD (po_d (pe_de (pe_mtD G.toBase PySem.F.plainAttrs_list PySem.F.slot_list_index PySem.F.type_list_index (mt_indexD G.toBase.u65) (.inl rfl) (md_indexB G.toBase) (po_name (i := 3) rfl (Or.inl rfl)) (pl_cons (pe_de (pe_name (i := 5) rfl (Or.inl rfl))) pl_nil)))) (po_d pd_int))))))) (po_d (pe_de (pe_rev G.toBase (po_d (pe_de (pe_slice' G.toBase (po_name (i := 4) rfl (Or.inr (Or.inl rfl))) po_none' (po_some' (pe_de (pe_mtD G.toBase PySem.F.plainAttrs_list PySem.F.slot_list_index PySem.F.type_list_index (mt_indexD G.toBase.u65) (.inl rfl) (md_indexB G.toBase) (po_name (i := 4) rfl (Or.inr (Or.inl rfl))) (pl_cons (pe_de (pe_name (i := 5) rfl (Or.inl rfl))) pl_nil))))))))))))) po_nil))))))
theorem sc_unlike_pair : FnScope (["grid", "told", "i", "j"] : List Str) (["grid", "told"] : List Str) (defScope s_unlike_pair) := ⟨rfl, rfl, rfl, by decide +kernel, rfl, by decide +kernel, by decide +kernel⟩
theorem ok_unlike_pair (T : Tx K mg) {fd : FuncData} (F : FunD K "unlike_pair" "unlike_pair" (defArgs s_unlike_pair) (defBody s_unlike_pair) (defScope s_unlike_pair) [] [] (He.ga K "unlike_pair") fd) (c_places_beside : Okf P w K mg base L 1 "places_beside" 2 m_places_beside) : Okf P w K mg base L 2 "unlike_pair" 2 m_unlike_pair := by
  refine okf_of F T.f_unlike_pair (ps := (["grid", "told"] : List Str)) (fun _ _ _ _ _ _ us h => ?_) rfl ?_
  · match us, h with
    | [a1, b1], _ => rfl
  · obtain ⟨oc, od, dV, kV, doc, pm, an, cdv, ct, osl, rfl, lk, hcd, _, _⟩ := F.ex
    refine okG (k := 1) (N := (["grid", "told", "i", "j"] : List Str)) (fb := b_unlike_pair) lk hcd sc_unlike_pair fun A outer s H E c hL G R tk => ?_
    exact (pss_cons' (ps_for' (passes_of rfl) G (pi_seq' G.toBase (pe_de (pe_blt G.toBase (cr_sortedD G.calm) (by rfl) T.g_sorted bt_sorted (po_cons (po_name (i := 1) rfl (Or.inl rfl)) po_nil)))) (pg_name' G.toBase (i := 2) rfl (Or.inl rfl)) (pss_one' (ps_for' (passes_of rfl) G (pi_seq' G.toBase (pe_de (pe_callO G.toBase tk hL c_places_beside (R.mono (by decide)) (po_cons (po_name (i := 0) rfl (Or.inl rfl)) (po_cons (po_name (i := 2) rfl (Or.inl rfl)) po_nil))))) (pg_name' G.toBase (i := 3) rfl (Or.inl rfl)) (pss_one' (ps_if' (pt_com G.toBase (op_neD' G.toBase.u64) (po_d (pe_de (pe_bin G.toBase op_mulD (po_d (pe_de (pe_bin G.toBase op_mulD (po_d (pe_de (pe_ix' G.toBase (po_d (pe_de (pe_ix' G.toBase (po_name (i := 1) rfl (Or.inl rfl)) (po_name (i := 2) rfl (Or.inl rfl)) (fun _ _ => rfl)))) (po_d pd_int) (fun _ _ => rfl)))) (po_d (pe_de (pe_ix' G.toBase (po_d (pe_de (pe_ix' G.toBase (po_name (i := 1) rfl (Or.inl rfl)) (po_name (i := 3) rfl (Or.inl rfl)) (fun _ _ => rfl)))) (po_d pd_int) (fun _ _ => rfl))))))) (po_d (pe_de (pe_blt G.toBase cr_abs (by rfl) T.g_abs bt_abs (po_cons (po_d (pe_de (pe_ix' G.toBase (po_d (pe_de (pe_ix' G.toBase (po_name (i := 0) rfl (Or.inl rfl)) (po_name (i := 2) rfl (Or.inl rfl)) (fun _ _ => rfl)))) (po_name (i := 3) rfl (Or.inl rfl)) (fun _ _ => rfl)))) po_nil))))))) (po_d (pe_de (pe_bin G.toBase op_mulD (po_d (pe_de (pe_bin G.toBase op_mulD (po_d (pe_de (pe_ix' G.toBase (po_d (pe_de (pe_ix' G.toBase (po_name (i := 1) rfl (Or.inl rfl)) (po_name (i := 3) rfl (Or.inl rfl)) (fun _ _ => rfl)))) (po_d pd_int) (fun _ _ => rfl)))) (po_d (pe_de (pe_ix' G.toBase (po_d (pe_de (pe_ix' G.toBase (po_name (i := 1) rfl (Or.inl rfl)) (po_name (i := 2) rfl (Or.inl rfl)) (fun _ _ => rfl)))) (po_d pd_int) (fun _ _ => rfl))))))) (po_d (pe_de (pe_blt G.toBase cr_abs (by rfl) T.g_abs bt_abs (po_cons (po_d (pe_de (pe_ix' G.toBase (po_d (pe_de (pe_ix' G.toBase (po_name (i := 0) rfl (Or.inl rfl)) (po_name (i := 3) rfl (Or.inl rfl)) (fun _ _ => rfl)))) (po_name (i := 2) rfl (Or.inl rfl)) (fun _ _ => rfl)))) po_nil))))))) (by rfl)) (pss_one' (ps_ret' (pe_tup' (pl_cons (pe_de (pe_name (i := 2) rfl (Or.inl rfl))) (pl_cons (pe_de (pe_name (i := 3) rfl (Or.inl rfl))) pl_nil))))) pss_nil')))))
    (pss_one' (ps_ret' (pe_en pd_non))))
theorem sc_scaled : FnScope (["told", "whole", "_", "bottom", "found", "divisor", "number", "place", "top"] : List Str) (["told"] : List Str) (defScope s_scaled) := ⟨rfl, rfl, rfl, by decide +kernel, rfl, by decide +kernel, by decide +kernel⟩
theorem ok_scaled (T : Tx K mg) {fd : FuncData} (F : FunD K "scaled" "scaled" (defArgs s_scaled) (defBody s_scaled) (defScope s_scaled) [] [] (He.ga K "scaled") fd)  : Okf P w K mg base L 1 "scaled" 1 m_scaled := by
  refine okf_of F T.f_scaled (ps := (["told"] : List Str)) (fun _ _ _ _ _ _ us h => ?_) rfl ?_
  · match us, h with
    | [a1], _ => rfl
  · obtain ⟨oc, od, dV, kV, doc, pm, an, cdv, ct, osl, rfl, lk, hcd, _, _⟩ := F.ex
    refine okG (k := 0) (N := (["told", "whole", "_", "bottom", "found", "divisor", "number", "place", "top"] : List Str)) (fb := b_scaled) lk hcd sc_scaled fun A outer s H E c hL G R tk => ?_
    exact (pss_cons' (ps_set' G.toBase (i := 1) rfl (Or.inr rfl) (pe_en pd_int))
    (pss_cons' (ps_lockS G fun c' G' tk' => ps_forL (passes_of rfl) G' (pi_dvals (i := 0) rfl (Or.inl rfl)) (pg_tup' G' (pgs_cons' (pg_name' G'.toBase (i := 2) rfl (Or.inl rfl)) (pgs_cons' (pg_name' G'.toBase (i := 3) rfl (Or.inl rfl)) pgs_nil'))) (pss_one' (ps_set' G'.toBase (i := 1) rfl (Or.inr rfl) (pe_bin G'.toBase op_fdivD (po_d (pe_de (pe_bin G'.toBase op_mulD (po_name (i := 1) rfl (Or.inr (Or.inl rfl))) (po_name (i := 3) rfl (Or.inl rfl))))) (po_d (pe_de (pe_bltf G'.toBase cr_gcdD (by rfl) T.g_gcd (po_cons (po_name (i := 1) rfl (Or.inr (Or.inl rfl))) (po_cons (po_name (i := 3) rfl (Or.inl rfl)) po_nil)))))))))
    (pss_cons' (ps_lockS G fun c' G' tk' => (ps_setDcL G' (i := 4) rfl rfl (swd_true rfl rfl rfl (by decide +kernel)) (pi_ditems (i := 0) rfl (Or.inl rfl)) (blkOk_by (N := (["told", "whole", "_", "bottom", "found", "divisor", "number", "place", "top"] : List Str)) (sc := defScope s_scaled) (own := [("place", 7), ("top", 8), ("bottom", 3)]) (by decide +kernel)) (by decide) (fun s H C cl fp => (pg_tup' (G').blk (pgs_cons' (pg_name' (G').blk.toBase (i := 7) rfl (Or.inl rfl)) (pgs_cons' (pg_tup' (G').blk (pgs_cons' (pg_name' (G').blk.toBase (i := 8) rfl (Or.inl rfl)) (pgs_cons' (pg_name' (G').blk.toBase (i := 3) rfl (Or.inl rfl)) pgs_nil'))) pgs_nil')))) (fun s H C cl fp => pts_nil') (fun s H C cl fp => (pe_de (pe_name (i := 7) rfl (Or.inl rfl)))) (fun s H C cl fp => (pe_de (pe_bin (G').blk.toBase op_mulD (po_d (pe_de (pe_bin (G').blk.toBase op_fdivD (po_name (i := 1) rfl (Or.inr (Or.inl rfl))) (po_name (i := 3) rfl (Or.inl rfl))))) (po_name (i := 8) rfl (Or.inl rfl)))))))
    (pss_cons' (ps_set' G.toBase (i := 5) rfl (Or.inr rfl) (pe_en pd_int))
    (pss_cons' (ps_lockS G fun c' G' tk' => ps_forL (passes_of rfl) G' (pi_dvals (i := 4) rfl (Or.inl rfl)) (pg_name' G'.toBase (i := 6) rfl (Or.inl rfl)) (pss_one' (ps_set' G'.toBase (i := 5) rfl (Or.inr rfl) (pe_bltf G'.toBase cr_gcdD (by rfl) T.g_gcd (po_cons (po_name (i := 5) rfl (Or.inr (Or.inl rfl))) (po_cons (po_name (i := 6) rfl (Or.inl rfl)) po_nil))))))
    (pss_one' (ps_ret' (pe_lockE G fun c' G' tk' => pe_dcL G' (pi_ditems (i := 4) rfl (Or.inl rfl)) (blkOk_by (N := (["told", "whole", "_", "bottom", "found", "divisor", "number", "place", "top"] : List Str)) (sc := defScope s_scaled) (own := [("place", 7), ("number", 6)]) (by decide +kernel)) (by decide) (fun s H C cl fp => (pg_tup' (G').blk (pgs_cons' (pg_name' (G').blk.toBase (i := 7) rfl (Or.inl rfl)) (pgs_cons' (pg_name' (G').blk.toBase (i := 6) rfl (Or.inl rfl)) pgs_nil')))) (fun s H C cl fp => pts_nil') (fun s H C cl fp => (pe_de (pe_name (i := 7) rfl (Or.inl rfl)))) (fun s H C cl fp => (pe_de (pe_bin (G').blk.toBase op_fdivD (po_name (i := 6) rfl (Or.inl rfl)) (po_name (i := 5) rfl (Or.inr (Or.inl rfl))))))))))))))
theorem sc_evened : FnScope (["grid", "found", "begin", "told", "ahead", "pair", "place"] : List Str) (["grid"] : List Str) (defScope s_evened) := ⟨rfl, rfl, rfl, by decide +kernel, rfl, by decide +kernel, by decide +kernel⟩
theorem ok_evened (T : Tx K mg) {fd : FuncData} (F : FunD K "evened" "evened" (defArgs s_evened) (defBody s_evened) (defScope s_evened) [] [] (He.ga K "evened") fd) (c_scaled : Okf P w K mg base L 1 "scaled" 1 m_scaled) (c_ring_between : Okf P w K mg base L 2 "ring_between" 3 m_ring_between) (c_unlike_pair : Okf P w K mg base L 2 "unlike_pair" 2 m_unlike_pair) (c_spread_from : Okf P w K mg base L 2 "spread_from" 2 m_spread_from) : Okf P w K mg base L 3 "evened" 1 m_evened := by
  refine okf_of F T.f_evened (ps := (["grid"] : List Str)) (fun _ _ _ _ _ _ us h => ?_) rfl ?_
  · match us, h with
    | [a1], _ => rfl
  · obtain ⟨oc, od, dV, kV, doc, pm, an, cdv, ct, osl, rfl, lk, hcd, _, _⟩ := F.ex
    refine okG (k := 2) (N := (["grid", "found", "begin", "told", "ahead", "pair", "place"] : List Str)) (fb := b_evened) lk hcd sc_evened fun A outer s H E c hL G R tk => ?_
    exact (pss_cons' (ps_set' G.toBase (i := 1) rfl (Or.inr rfl) pe_dict0)
    (pss_cons' (ps_for' (passes_of rfl) G (pi_range1' G.toBase (by rfl) T.g_range (pl_cons (pe_de (pe_blt G.toBase cr_len (by rfl) T.g_len bt_len (po_cons (po_name (i := 0) rfl (Or.inl rfl)) po_nil))) pl_nil)) (pg_name' G.toBase (i := 2) rfl (Or.inl rfl)) (pss_one' (ps_if' (pt_com G.toBase (op_notInE G.toBase.u65) (po_name (i := 2) rfl (Or.inl rfl)) (po_name (i := 1) rfl (Or.inr (Or.inl rfl))) (by rfl)) (pss_cons' (ps_asg' (pe_de (pe_callO G.toBase tk hL c_spread_from (R.mono (by decide)) (po_cons (po_name (i := 0) rfl (Or.inl rfl)) (po_cons (po_name (i := 2) rfl (Or.inl rfl)) po_nil)))) (pg_tup' G (pgs_cons' (pg_name' G.toBase (i := 3) rfl (Or.inl rfl)) (pgs_cons' (pg_name' G.toBase (i := 4) rfl (Or.inl rfl)) pgs_nil'))))
    (pss_cons' (ps_set' G.toBase (i := 5) rfl (Or.inl rfl) (pe_callO G.toBase tk hL c_unlike_pair (R.mono (by decide)) (po_cons (po_name (i := 0) rfl (Or.inl rfl)) (po_cons (po_name (i := 3) rfl (Or.inl rfl)) po_nil))))
    (pss_cons' (ps_if' (pt_com G.toBase op_isNotD (po_name (i := 5) rfl (Or.inl rfl)) (po_d pd_non) (by rfl)) (pss_one' (ps_ret' (pe_tup' (pl_cons pd_non (pl_cons (pe_de (pe_callO G.toBase tk hL c_ring_between (R.mono (by decide)) (po_cons (po_name (i := 4) rfl (Or.inl rfl)) (po_cons (po_d (pe_de (pe_ix' G.toBase (po_name (i := 5) rfl (Or.inl rfl)) (po_d pd_int) (fun _ _ => rfl)))) (po_cons (po_d (pe_de (pe_ix' G.toBase (po_name (i := 5) rfl (Or.inl rfl)) (po_d pd_int) (fun _ _ => rfl)))) po_nil))))) pl_nil))))) pss_nil')
    (pss_one' (ps_expr' (pe_upd G.toBase (i := 1) rfl (Or.inr (Or.inl rfl)) (pe_de (pe_callO G.toBase tk hL c_scaled (R.mono (by decide)) (po_cons (po_name (i := 3) rfl (Or.inl rfl)) po_nil))))))))) pss_nil')))
    (pss_one' (ps_ret' (pe_tup' (pl_cons (pe_de (pe_blty G.toBase cr_tuple (by rfl) T.g_tuple bt_tuple (po_cons (po_d (pe_de (pe_lc' G (pi_range1' G.toBase (by rfl) T.g_range (pl_cons (pe_de (pe_blt G.toBase cr_len (by rfl) T.g_len bt_len (po_cons (po_name (i := 0) rfl (Or.inl rfl)) po_nil))) pl_nil)) (blkOk_by (N := (["grid", "found", "begin", "told", "ahead", "pair", "place"] : List Str)) (sc := defScope s_evened) (own := [("place", 6)]) (by decide +kernel)) (by decide) (fun s H C cl fp => (pg_name' (G).blk.toBase (i := 6) rfl (Or.inl rfl))) (fun s H C cl fp => pts_nil') (fun s H C cl fp => (pe_de (pe_ix' (G).blk.toBase (po_name (i := 1) rfl (Or.inr (Or.inl rfl))) (po_name (i := 6) rfl (Or.inl rfl)) (fun _ _ => rfl))))))) po_nil))) (pl_cons pd_non pl_nil)))))))
theorem sc_is_table : FnScope (["thing"] : List Str) (["thing"] : List Str) (defScope s_is_table) := ⟨rfl, rfl, rfl, by decide +kernel, rfl, by decide +kernel, by decide +kernel⟩
theorem ok_is_table (T : Tx K mg) {fd : FuncData} (F : FunD K "is_table" "is_table" (defArgs s_is_table) (defBody s_is_table) (defScope s_is_table) [] [] (He.ga K "is_table") fd) (c_evened : Okf P w K mg base L 3 "evened" 1 m_evened) (c_wrong_pair : Okf P w K mg base L 2 "wrong_pair" 1 m_wrong_pair) (c_is_grid : Okf P w K mg base L 3 "is_grid" 1 m_is_grid) : Okf P w K mg base L 4 "is_table" 1 m_is_table := by
  refine okf_of F T.f_is_table (ps := (["thing"] : List Str)) (fun _ _ _ _ _ _ us h => ?_) rfl ?_
  · match us, h with
    | [a1], _ => rfl
  · obtain ⟨oc, od, dV, kV, doc, pm, an, cdv, ct, osl, rfl, lk, hcd, _, _⟩ := F.ex
    refine okG (k := 3) (N := (["thing"] : List Str)) (fb := b_is_table) lk hcd sc_is_table fun A outer s H E c hL G R tk => ?_
    exact (pss_one' (ps_ret' (pe_and' (pe_callO G.toBase tk hL c_is_grid (R.mono (by decide)) (po_cons (po_name (i := 0) rfl (Or.inl rfl)) po_nil)) (pe_and' (pe_com G.toBase op_isD (po_d (pe_de (pe_callO G.toBase tk hL c_wrong_pair (R.mono (by decide)) (po_cons (po_name (i := 0) rfl (Or.inl rfl)) po_nil)))) (po_d pd_non) (by rfl)) (pe_one' (pe_com G.toBase op_isNotD (po_d (pe_de (pe_ix' G.toBase (po_d (pe_de (pe_callO G.toBase tk hL c_evened (R.mono (by decide)) (po_cons (po_name (i := 0) rfl (Or.inl rfl)) po_nil)))) (po_d pd_int) (fun _ _ => rfl)))) (po_d pd_non) (by rfl)))))))
theorem sc_need_table : FnScope (["thing"] : List Str) (["thing"] : List Str) (defScope s_need_table) := ⟨rfl, rfl, rfl, by decide +kernel, rfl, by decide +kernel, by decide +kernel⟩
theorem ok_need_table (T : Tx K mg) {fd : FuncData} (F : FunD K "need_table" "need_table" (defArgs s_need_table) (defBody s_need_table) (defScope s_need_table) [] [] (He.ga K "need_table") fd) (c_is_table : Okf P w K mg base L 4 "is_table" 1 m_is_table) : Okf P w K mg base L 5 "need_table" 1 m_need_table := by
  refine okf_of F T.f_need_table (ps := (["thing"] : List Str)) (fun _ _ _ _ _ _ us h => ?_) rfl ?_
  · match us, h with
    | [a1], _ => rfl
  · obtain ⟨oc, od, dV, kV, doc, pm, an, cdv, ct, osl, rfl, lk, hcd, _, _⟩ := F.ex
    refine okG (k := 4) (N := (["thing"] : List Str)) (fb := b_need_table) lk hcd sc_need_table fun A outer s H E c hL G R tk => ?_
    exact (pss_one' (ps_if' (pt_not' (pt_bool (pe_callO G.toBase tk hL c_is_table (R.mono (by decide)) (po_cons (po_name (i := 0) rfl (Or.inl rfl)) po_nil)))) (pss_one' (ps_raise' G tk T.g_NoTable)) pss_nil'))
theorem sc_two_rows_of : FnScope (["one", "other", "many", "found", "much", "last", "elder", "mine", "theirs"] : List Str) (["one", "other", "many"] : List Str) (defScope s_two_rows_of) := ⟨rfl, rfl, rfl, by decide +kernel, rfl, by decide +kernel, by decide +kernel⟩
theorem ok_two_rows_of (T : Tx K mg) {fd : FuncData} (F : FunD K "two_rows_of" "two_rows_of" (defArgs s_two_rows_of) (defBody s_two_rows_of) (defScope s_two_rows_of) [] [] (He.ga K "two_rows_of") fd)  : Okf P w K mg base L 1 "two_rows_of" 3 m_two_rows_of := by
  refine okf_of F T.f_two_rows_of (ps := (["one", "other", "many"] : List Str)) (fun _ _ _ _ _ _ us h => ?_) rfl ?_
  · match us, h with
    | [a1, b1, c1], _ => rfl
  · obtain ⟨oc, od, dV, kV, doc, pm, an, cdv, ct, osl, rfl, lk, hcd, _, _⟩ := F.ex
    refine okG (k := 0) (N := (["one", "other", "many", "found", "much", "last", "elder", "mine", "theirs"] : List Str)) (fb := b_two_rows_of) lk hcd sc_two_rows_of fun A outer s H E c hL G R tk => ?_
    exact (pss_cons' (ps_set' G.toBase (i := 3) rfl (Or.inl rfl) (pe_lst' (pl_cons (pe_de (pe_tup' (pl_cons (pe_de (pe_una G.toBase un_negD (po_d pd_int))) (pl_cons pd_int pl_nil)))) (pl_cons (pe_de (pe_tup' (pl_cons pd_int (pl_cons (pe_de (pe_una G.toBase un_negD (po_d pd_int))) pl_nil)))) (pl_cons (pe_de (pe_tup' (pl_cons pd_int (pl_cons pd_int pl_nil)))) pl_nil)))))
    (pss_cons' (ps_while' 1000000 (passes_of rfl) (pt_com G.toBase op_ltD (po_d (pe_de (pe_blt G.toBase cr_len (by rfl) T.g_len bt_len (po_cons (po_name (i := 3) rfl (Or.inl rfl)) po_nil)))) (po_name (i := 2) rfl (Or.inl rfl)) (by rfl)) (pss_cons' (ps_set' G.toBase (i := 4) rfl (Or.inr rfl) (pe_if' (pt_com G.toBase (op_eqD' G.toBase.u64) (po_d (pe_de (pe_bin G.toBase op_andD (po_d (pe_de (pe_blt G.toBase cr_len (by rfl) T.g_len bt_len (po_cons (po_name (i := 3) rfl (Or.inl rfl)) po_nil)))) (po_d pd_int)))) (po_d pd_int) (by rfl)) (pe_name (i := 0) rfl (Or.inl rfl)) (pe_name (i := 1) rfl (Or.inl rfl))))
    (pss_cons' (ps_par' G (i := 5) (j := 6) rfl rfl (by decide) rfl rfl (pe_ix' G.toBase (po_name (i := 3) rfl (Or.inl rfl)) (po_d (pe_de (pe_una G.toBase un_negD (po_d pd_int)))) (fun _ _ => rfl)) (pe_ix' G.toBase (po_name (i := 3) rfl (Or.inl rfl)) (po_d (pe_de (pe_una G.toBase un_negD (po_d pd_int)))) (fun _ _ => rfl)) (by rfl))
    (pss_one' (ps_expr' (pe_mtL G.toBase PySem.F.slot_list_append PySem.F.type_list_append mt_append mg_app (i := 3) rfl (Or.inl rfl) (pl_cons (pe_de (pe_blty G.toBase cr_tuple (by rfl) T.g_tuple bt_tuple (po_cons (po_d (pe_de (pe_lc' G (pi_zip' G.toBase (by rfl) T.g_zip (pl_cons (pe_de (pe_name (i := 5) rfl (Or.inl rfl))) (pl_cons (pe_de (pe_name (i := 6) rfl (Or.inl rfl))) pl_nil))) (blkOk_by (N := (["one", "other", "many", "found", "much", "last", "elder", "mine", "theirs"] : List Str)) (sc := defScope s_two_rows_of) (own := [("mine", 7), ("theirs", 8)]) (by decide +kernel)) (by decide) (fun s H C cl fp => (pg_tup' (G).blk (pgs_cons' (pg_name' (G).blk.toBase (i := 7) rfl (Or.inl rfl)) (pgs_cons' (pg_name' (G).blk.toBase (i := 8) rfl (Or.inl rfl)) pgs_nil')))) (fun s H C cl fp => pts_nil') (fun s H C cl fp => (pe_de (pe_bin (G).blk.toBase op_subD (po_d (pe_de (pe_blt (G).blk.toBase (cr_maxD' (G).blk.calm) (by rfl) T.g_max bt_max (po_cons (po_d pd_int) (po_cons (po_d (pe_de (pe_bin (G).blk.toBase op_mulD (po_name (i := 4) rfl (Or.inr (Or.inl rfl))) (po_name (i := 7) rfl (Or.inl rfl))))) po_nil))))) (po_name (i := 8) rfl (Or.inl rfl)))))))) po_nil))) pl_nil)))))))
    (pss_one' (ps_ret' (pe_slice' G.toBase (po_name (i := 3) rfl (Or.inl rfl)) po_none' (po_some' (pe_de (pe_name (i := 2) rfl (Or.inl rfl)))))))))
theorem sc_two_rows : FnScope (["table", "many", "found", "row", "number"] : List Str) (["table", "many"] : List Str) (defScope s_two_rows) := ⟨rfl, rfl, rfl, by decide +kernel, rfl, by decide +kernel, by decide +kernel⟩
theorem ok_two_rows (T : Tx K mg) {fd : FuncData} (F : FunD K "two_rows" "two_rows" (defArgs s_two_rows) (defBody s_two_rows) (defScope s_two_rows) [] [] (He.ga K "two_rows") fd) (c_two_rows_of : Okf P w K mg base L 1 "two_rows_of" 3 m_two_rows_of) (c_is_between : Okf P w K mg base L 2 "is_between" 3 m_is_between) (c_need_table : Okf P w K mg base L 5 "need_table" 1 m_need_table) : Okf P w K mg base L 6 "two_rows" 2 m_two_rows := by
  refine okf_of F T.f_two_rows (ps := (["table", "many"] : List Str)) (fun _ _ _ _ _ _ us h => ?_) rfl ?_
  · match us, h with
    | [a1, b1], _ => rfl
  · obtain ⟨oc, od, dV, kV, doc, pm, an, cdv, ct, osl, rfl, lk, hcd, _, _⟩ := F.ex
    refine okG (k := 5) (N := (["table", "many", "found", "row", "number"] : List Str)) (fb := b_two_rows) lk hcd sc_two_rows fun A outer s H E c hL G R tk => ?_
    exact (pss_cons' (ps_expr' (pe_callO G.toBase tk hL c_need_table (R.mono (by decide)) (po_cons (po_name (i := 0) rfl (Or.inl rfl)) po_nil)))
    (pss_cons' (ps_if' (pt_com G.toBase (op_neD' G.toBase.u64) (po_d (pe_de (pe_blt G.toBase cr_len (by rfl) T.g_len bt_len (po_cons (po_name (i := 0) rfl (Or.inl rfl)) po_nil)))) (po_d pd_int) (by rfl)) (pss_one' (ps_raise' G tk T.g_NoTable)) pss_nil')
    (pss_cons' (ps_if' (pt_not' (pt_bool (pe_callO G.toBase tk hL c_is_between (R.mono (by decide)) (po_cons (po_name (i := 1) rfl (Or.inl rfl)) (po_cons (po_d pd_int) (po_cons (po_d (pd_gint (by rfl) T.g_MOST_STEPS)) po_nil)))))) (pss_one' (ps_raise' G tk T.g_NoNumber)) pss_nil')
    (pss_cons' (ps_set' G.toBase (i := 2) rfl (Or.inl rfl) (pe_callO G.toBase tk hL c_two_rows_of (R.mono (by decide)) (po_cons (po_d (pe_de (pe_blt G.toBase cr_abs (by rfl) T.g_abs bt_abs (po_cons (po_d (pe_de (pe_ix' G.toBase (po_d (pe_de (pe_ix' G.toBase (po_name (i := 0) rfl (Or.inl rfl)) (po_d pd_int) (fun _ _ => rfl)))) (po_d pd_int) (fun _ _ => rfl)))) po_nil)))) (po_cons (po_d (pe_de (pe_blt G.toBase cr_abs (by rfl) T.g_abs bt_abs (po_cons (po_d (pe_de (pe_ix' G.toBase (po_d (pe_de (pe_ix' G.toBase (po_name (i := 0) rfl (Or.inl rfl)) (po_d pd_int) (fun _ _ => rfl)))) (po_d pd_int) (fun _ _ => rfl)))) po_nil)))) (po_cons (po_name (i := 1) rfl (Or.inl rfl)) po_nil)))))
    (pss_cons' (ps_if' (pt_bool (pe_blt G.toBase (cr_anyD G.calm) (by rfl) T.g_any bt_any (po_cons (po_d (pe_de (pe_lc2' G (pi_seq' G.toBase (pe_de (pe_name (i := 2) rfl (Or.inl rfl)))) (blkOk_by (N := (["table", "many", "found", "row", "number"] : List Str)) (sc := defScope s_two_rows) (own := [("row", 3), ("number", 4)]) (by decide +kernel)) (vs1 := [4]) (by decide) (by decide) (by decide) (fun s H C cl fp => (pg_name' (G).blk.toBase (i := 3) rfl (Or.inl rfl))) (fun s H C cl fp => pts_nil') (fun s H C cl fp => (pi_seq' (G).blk.toBase (pe_de (pe_name (i := 3) rfl (Or.inl rfl))))) (fun s H C cl fp => (pg_name' (G).blk.toBase (i := 4) rfl (Or.inl rfl))) (fun s H C cl fp => pts_nil') (fun s H C cl fp => (pe_de (pe_com (G).blk.toBase op_gtD (po_d (pe_de (pe_blt (G).blk.toBase cr_abs (by rfl) T.g_abs bt_abs (po_cons (po_name (i := 4) rfl (Or.inl rfl)) po_nil)))) (po_d (pd_gint (by rfl) T.g_GREATEST)) (by rfl))))))) po_nil))) (pss_one' (ps_raise' G tk T.g_TooGreat)) pss_nil')
    (pss_one' (ps_ret' (pe_blty G.toBase cr_tuple (by rfl) T.g_tuple bt_tuple (po_cons (po_name (i := 2) rfl (Or.inl rfl)) po_nil)))))))))
theorem sc__law_hand : FnScope (["script", "cells", "cell"] : List Str) (["script"] : List Str) (defScope s__law_hand) := ⟨rfl, rfl, rfl, by decide +kernel, rfl, by decide +kernel, by decide +kernel⟩
theorem ok__law_hand (T : Tx K mg) {fd : FuncData} (F : FunD K "_law_hand" "_law_hand" (defArgs s__law_hand) (defBody s__law_hand) (defScope s__law_hand) [] [] (He.ga K "_law_hand") fd)  : Okf P w K mg base L 1 "_law_hand" 1 m__law_hand := by
  refine okf_of F T.f__law_hand (ps := (["script"] : List Str)) (fun _ _ _ _ _ _ us h => ?_) rfl ?_
  · match us, h with
    | [a1], _ => rfl
  · obtain ⟨oc, od, dV, kV, doc, pm, an, cdv, ct, osl, rfl, lk, hcd, _, _⟩ := F.ex
    refine okG (k := 0) (N := (["script", "cells", "cell"] : List Str)) (fb := b__law_hand) lk hcd sc__law_hand fun A outer s H E c hL G R tk => ?_
    exact (pss_cons' (ps_setLc' G (i := 1) rfl rfl (sw_true rfl rfl rfl (by decide +kernel)) (pi_seq' G.toBase (pe_de (pe_slScr G.toBase (i := 0) rfl (Or.inl rfl) po_none' (po_some' pd_int)))) (blkOk_by (N := (["script", "cells", "cell"] : List Str)) (sc := defScope s__law_hand) (own := [("cell", 2)]) (by decide +kernel)) (by decide) (fun s H C cl fp => (pg_name' (G).blk.toBase (i := 2) rfl (Or.inl rfl))) (fun s H C cl fp => pts_nil') (fun s H C cl fp => (pe_de (pe_bin (G).blk.toBase op_modD (po_d (pe_de (pe_blty (G).blk.toBase cr_int (by rfl) T.g_int bt_int (po_cons (po_d (pe_de (pe_blt (G).blk.toBase cr_abs (by rfl) T.g_abs bt_abs (po_cons (po_d (pe_de (pe_blty (G).blk.toBase cr_int (by rfl) T.g_int bt_int (po_cons (po_name (i := 2) rfl (Or.inl rfl)) po_nil)))) po_nil)))) po_nil)))) (po_d (pe_de (pe_bin (G).blk.toBase op_powD (po_d pd_int) (po_d pd_int))))))))
    (pss_one' (ps_ret' (pe_lst' (pl_cons (pe_de (pe_name (i := 1) rfl (Or.inl rfl))) (pl_cons pd_int (pl_cons pd_int (pl_cons (pe_de (pe_bin G.toBase op_addD (po_d pd_int) (po_d (pe_de (pe_bin G.toBase op_mulD (po_d pd_int) (po_d (pe_de (pe_blt G.toBase cr_len (by rfl) T.g_len bt_len (po_cons (po_name (i := 1) rfl (Or.inl rfl)) po_nil))))))))) (pl_cons pd_int pl_nil)))))))))
theorem sc__law_draw : FnScope (["hand", "many", "cell", "digit", "number"] : List Str) (["hand", "many"] : List Str) (defScope s__law_draw) := ⟨rfl, rfl, rfl, by decide +kernel, rfl, by decide +kernel, by decide +kernel⟩
theorem ok__law_draw (T : Tx K mg) {fd : FuncData} (F : FunD K "_law_draw" "_law_draw" (defArgs s__law_draw) (defBody s__law_draw) (defScope s__law_draw) [] [] (He.ga K "_law_draw") fd)  : Okf P w K mg base L 1 "_law_draw" 2 m__law_draw := by
  refine okf_of F T.f__law_draw (ps := (["hand", "many"] : List Str)) (fun _ _ _ _ _ _ us h => ?_) rfl ?_
  · match us, h with
    | [a1, b1], _ => rfl
  · obtain ⟨oc, od, dV, kV, doc, pm, an, cdv, ct, osl, rfl, lk, hcd, _, _⟩ := F.ex
    refine okG (k := 0) (N := (["hand", "many", "cell", "digit", "number"] : List Str)) (fb := b__law_draw) lk hcd sc__law_draw fun A outer s H E c hL G R tk => ?_
    exact (pss_cons' (ps_if' (pw_and' (pt_com G.toBase (op_eqD' G.toBase.u64) (po_d (pe_de (pe_ix' G.toBase (po_name (i := 0) rfl (Or.inl rfl)) (po_d pd_int) (fun _ _ => rfl)))) (po_d pd_int) (by rfl)) (pw_one_and (pt_com G.toBase op_ltD (po_d (pe_de (pe_ix' G.toBase (po_name (i := 0) rfl (Or.inl rfl)) (po_d pd_int) (fun _ _ => rfl)))) (po_d (pe_de (pe_blt G.toBase cr_len (by rfl) T.g_len bt_len (po_cons (po_d (pe_de (pe_ix' G.toBase (po_name (i := 0) rfl (Or.inl rfl)) (po_d pd_int) (fun _ _ => rfl)))) po_nil)))) (by rfl)))).pt (pss_cons' (ps_set' G.toBase (i := 2) rfl (Or.inl rfl) (pe_ix' G.toBase (po_d (pe_de (pe_ix' G.toBase (po_name (i := 0) rfl (Or.inl rfl)) (po_d pd_int) (fun _ _ => rfl)))) (po_d (pe_de (pe_ix' G.toBase (po_name (i := 0) rfl (Or.inl rfl)) (po_d pd_int) (fun _ _ => rfl)))) (fun _ _ => rfl)))
    (pss_cons' (ps_setIx G.toBase (i := 0) rfl (Or.inl rfl) pd_int (pe_de (pe_bin G.toBase op_addD (po_d (pe_de (pe_ix' G.toBase (po_name (i := 0) rfl (Or.inl rfl)) (po_d pd_int) (fun _ _ => rfl)))) (po_d pd_int))))
    (pss_cons' (ps_setIx G.toBase (i := 0) rfl (Or.inl rfl) pd_int (pe_de (pe_bin G.toBase op_modD (po_d (pe_de (pe_blty G.toBase cr_int (by rfl) T.g_int bt_int (po_cons (po_d (pe_de (pe_bin G.toBase op_addD (po_d (pe_de (pe_bin G.toBase op_addD (po_d (pe_de (pe_bin G.toBase op_mulD (po_d (pe_de (pe_ix' G.toBase (po_name (i := 0) rfl (Or.inl rfl)) (po_d pd_int) (fun _ _ => rfl)))) (po_d pd_int)))) (po_d (pe_de (pe_bin G.toBase op_mulD (po_name (i := 2) rfl (Or.inl rfl)) (po_d pd_int))))))) (po_d pd_int)))) po_nil)))) (po_d pd_int))))
    (pss_one' (ps_if' (pt_com G.toBase op_geD (po_name (i := 2) rfl (Or.inl rfl)) (po_d (pe_de (pe_bin G.toBase op_powD (po_d pd_int) (po_d pd_int)))) (by rfl)) (pss_one' (ps_setIx G.toBase (i := 0) rfl (Or.inl rfl) pd_int (pe_de (pe_name (i := 2) rfl (Or.inl rfl))))) pss_nil'))))) pss_nil')
    (pss_cons' (ps_if' (pt_com G.toBase op_gtD (po_d (pe_de (pe_ix' G.toBase (po_name (i := 0) rfl (Or.inl rfl)) (po_d pd_int) (fun _ _ => rfl)))) (po_d pd_int) (by rfl)) (pss_cons' (ps_set' G.toBase (i := 3) rfl (Or.inl rfl) (pe_bin G.toBase op_modD (po_d (pe_de (pe_blty G.toBase cr_int (by rfl) T.g_int bt_int (po_cons (po_d (pe_de (pe_ix' G.toBase (po_name (i := 0) rfl (Or.inl rfl)) (po_d pd_int) (fun _ _ => rfl)))) po_nil)))) (po_name (i := 1) rfl (Or.inl rfl))))
    (pss_cons' (ps_setIx G.toBase (i := 0) rfl (Or.inl rfl) pd_int (pe_de (pe_bin G.toBase op_fdivD (po_d (pe_de (pe_ix' G.toBase (po_name (i := 0) rfl (Or.inl rfl)) (po_d pd_int) (fun _ _ => rfl)))) (po_name (i := 1) rfl (Or.inl rfl)))))
    (pss_one' (ps_retName (i := 3) rfl (Or.inl rfl))))) pss_nil')
    (pss_cons' (ps_setIx G.toBase (i := 0) rfl (Or.inl rfl) pd_int (pe_de (pe_bin G.toBase op_addD (po_d (pe_de (pe_ix' G.toBase (po_name (i := 0) rfl (Or.inl rfl)) (po_d pd_int) (fun _ _ => rfl)))) (po_d pd_int))))
    (pss_cons' (ps_set' G.toBase (i := 4) rfl (Or.inl rfl) (pe_bin G.toBase op_modD (po_d (pe_de (pe_blty G.toBase cr_int (by rfl) T.g_int bt_int (po_cons (po_d (pe_de (pe_bin G.toBase op_mulD (po_d (pe_de (pe_blty G.toBase cr_int (by rfl) T.g_int bt_int (po_cons (po_d (pe_de (pe_bin G.toBase op_addD (po_d (pe_de (pe_ix' G.toBase (po_name (i := 0) rfl (Or.inl rfl)) (po_d pd_int) (fun _ _ => rfl)))) (po_d (pe_de (pe_bin G.toBase op_mulD (po_d pd_int) (po_d (pe_de (pe_ix' G.toBase (po_name (i := 0) rfl (Or.inl rfl)) (po_d pd_int) (fun _ _ => rfl)))))))))) po_nil)))) (po_d pd_int)))) po_nil)))) (po_d pd_int)))
    (pss_cons' (ps_set' G.toBase (i := 4) rfl (Or.inl rfl) (pe_bin G.toBase op_modD (po_d (pe_de (pe_blty G.toBase cr_int (by rfl) T.g_int bt_int (po_cons (po_d (pe_de (pe_bin G.toBase op_mulD (po_name (i := 4) rfl (Or.inl rfl)) (po_d (pe_de (pe_bin G.toBase op_addD (po_d (pe_de (pe_bin G.toBase op_fdivD (po_name (i := 4) rfl (Or.inl rfl)) (po_d pd_int)))) (po_d pd_int))))))) po_nil)))) (po_d pd_int)))
    (pss_cons' (ps_set' G.toBase (i := 4) rfl (Or.inl rfl) (pe_bin G.toBase op_modD (po_d (pe_de (pe_blty G.toBase cr_int (by rfl) T.g_int bt_int (po_cons (po_d (pe_de (pe_bin G.toBase op_mulD (po_name (i := 4) rfl (Or.inl rfl)) (po_d (pe_de (pe_bin G.toBase op_addD (po_d (pe_de (pe_bin G.toBase op_fdivD (po_name (i := 4) rfl (Or.inl rfl)) (po_d pd_int)))) (po_d pd_int))))))) po_nil)))) (po_d pd_int)))
    (pss_one' (ps_ret' (pe_bin G.toBase op_modD (po_d (pe_de (pe_blty G.toBase cr_int (by rfl) T.g_int bt_int (po_cons (po_d (pe_de (pe_bin G.toBase op_fdivD (po_name (i := 4) rfl (Or.inl rfl)) (po_d pd_int)))) po_nil)))) (po_name (i := 1) rfl (Or.inl rfl)))))))))))
theorem sc__law_any : FnScope (["hand", "some"] : List Str) (["hand", "some"] : List Str) (defScope s__law_any) := ⟨rfl, rfl, rfl, by decide +kernel, rfl, by decide +kernel, by decide +kernel⟩
theorem ok__law_any (T : Tx K mg) {fd : FuncData} (F : FunD K "_law_any" "_law_any" (defArgs s__law_any) (defBody s__law_any) (defScope s__law_any) [] [] (He.ga K "_law_any") fd) (c__law_draw : Okf P w K mg base L 1 "_law_draw" 2 m__law_draw) : Okf P w K mg base L 2 "_law_any" 2 m__law_any := by
  refine okf_of F T.f__law_any (ps := (["hand", "some"] : List Str)) (fun _ _ _ _ _ _ us h => ?_) rfl ?_
  · match us, h with
    | [a1, b1], _ => rfl
  · obtain ⟨oc, od, dV, kV, doc, pm, an, cdv, ct, osl, rfl, lk, hcd, _, _⟩ := F.ex
    refine okG (k := 1) (N := (["hand", "some"] : List Str)) (fb := b__law_any) lk hcd sc__law_any fun A outer s H E c hL G R tk => ?_
    exact (pss_one' (ps_ret' (pe_ix' G.toBase (po_name (i := 1) rfl (Or.inl rfl)) (po_d (pe_de (pe_callO G.toBase tk hL c__law_draw (R.mono (by decide)) (po_cons (po_name (i := 0) rfl (Or.inl rfl)) (po_cons (po_d (pe_de (pe_blt G.toBase cr_len (by rfl) T.g_len bt_len (po_cons (po_name (i := 1) rfl (Or.inl rfl)) po_nil)))) po_nil))))) (fun _ _ => rfl))))
theorem sc__law_is : FnScope (["told", "due"] : List Str) (["told", "due"] : List Str) (defScope s__law_is) := ⟨rfl, rfl, rfl, by decide +kernel, rfl, by decide +kernel, by decide +kernel⟩
theorem ok__law_is (T : Tx K mg) {fd : FuncData} (F : FunD K "_law_is" "_law_is" (defArgs s__law_is) (defBody s__law_is) (defScope s__law_is) [] [] (He.ga K "_law_is") fd)  : Okf P w K mg base L 1 "_law_is" 2 m__law_is := by
  refine okf_of F T.f__law_is (ps := (["told", "due"] : List Str)) (fun _ _ _ _ _ _ us h => ?_) rfl ?_
  · match us, h with
    | [a1, b1], _ => rfl
  · obtain ⟨oc, od, dV, kV, doc, pm, an, cdv, ct, osl, rfl, lk, hcd, _, _⟩ := F.ex
    refine okG (k := 0) (N := (["told", "due"] : List Str)) (fb := b__law_is) lk hcd sc__law_is fun A outer s H E c hL G R tk => ?_
    exact (pss_one' (ps_ret' (pe_com G.toBase (op_eqD' G.toBase.u64) (po_d (pe_de (pe_blt G.toBase (cr_repr G.toBase.gd G.toBase.u100) (by rfl) T.g_repr bt_repr (po_cons (po_name (i := 0) rfl (Or.inl rfl)) po_nil)))) (po_d (pe_de (pe_blt G.toBase (cr_repr G.toBase.gd G.toBase.u100) (by rfl) T.g_repr bt_repr (po_cons (po_name (i := 1) rfl (Or.inl rfl)) po_nil)))) (by rfl))))
theorem sc__law_drawn : FnScope (["hand", "pairs", "one", "other", "step", "sign"] : List Str) (["hand"] : List Str) (defScope s__law_drawn) := ⟨rfl, rfl, rfl, by decide +kernel, rfl, by decide +kernel, by decide +kernel⟩
theorem ok__law_drawn (T : Tx K mg) {fd : FuncData} (F : FunD K "_law_drawn" "_law_drawn" (defArgs s__law_drawn) (defBody s__law_drawn) (defScope s__law_drawn) [] [] (He.ga K "_law_drawn") fd) (c__law_any : Okf P w K mg base L 2 "_law_any" 2 m__law_any) (c__law_draw : Okf P w K mg base L 1 "_law_draw" 2 m__law_draw) : Okf P w K mg base L 3 "_law_drawn" 1 m__law_drawn := by
  refine okf_of F T.f__law_drawn (ps := (["hand"] : List Str)) (fun _ _ _ _ _ _ us h => ?_) rfl ?_
  · match us, h with
    | [a1], _ => rfl
  · obtain ⟨oc, od, dV, kV, doc, pm, an, cdv, ct, osl, rfl, lk, hcd, _, _⟩ := F.ex
    refine okG (k := 2) (N := (["hand", "pairs", "one", "other", "step", "sign"] : List Str)) (fb := b__law_drawn) lk hcd sc__law_drawn fun A outer s H E c hL G R tk => ?_
    exact (pss_cons' (ps_set' G.toBase (i := 1) rfl (Or.inl rfl) (pe_lst' (pl_cons (pe_de (pe_tup' (pl_cons pd_int (pl_cons pd_int pl_nil)))) (pl_cons (pe_de (pe_tup' (pl_cons pd_int (pl_cons pd_int pl_nil)))) (pl_cons (pe_de (pe_tup' (pl_cons pd_int (pl_cons pd_int pl_nil)))) (pl_cons (pe_de (pe_tup' (pl_cons pd_int (pl_cons pd_int pl_nil)))) (pl_cons (pe_de (pe_tup' (pl_cons pd_int (pl_cons pd_int pl_nil)))) (pl_cons (pe_de (pe_tup' (pl_cons pd_int (pl_cons pd_int pl_nil)))) (pl_cons (pe_de (pe_tup' (pl_cons pd_int (pl_cons pd_int pl_nil)))) (pl_cons (pe_de (pe_tup' (pl_cons pd_int (pl_cons pd_int pl_nil)))) (pl_cons (pe_de (pe_tup' (pl_cons pd_int (pl_cons pd_int pl_nil)))) (pl_cons (pe_de (pe_tup' (pl_cons pd_int (pl_cons pd_int pl_nil)))) (pl_cons (pe_de (pe_tup' (pl_cons pd_int (pl_cons pd_int pl_nil)))) (pl_cons (pe_de (pe_tup' (pl_cons pd_int (pl_cons pd_int pl_nil)))) (pl_cons (pe_de (pe_tup' (pl_cons pd_int (pl_cons pd_int pl_nil)))) pl_nil)))))))))))))))
    (pss_cons' (ps_asg' (pe_de (pe_callO G.toBase tk hL c__law_any (R.mono (by decide)) (po_cons (po_name (i := 0) rfl (Or.inl rfl)) (po_cons (po_name (i := 1) rfl (Or.inl rfl)) po_nil)))) (pg_tup' G (pgs_cons' (pg_name' G.toBase (i := 2) rfl (Or.inl rfl)) (pgs_cons' (pg_name' G.toBase (i := 3) rfl (Or.inl rfl)) pgs_nil'))))
    (pss_cons' (ps_if' (pt_com G.toBase (op_eqD' G.toBase.u64) (po_d (pe_de (pe_callO G.toBase tk hL c__law_draw (R.mono (by decide)) (po_cons (po_name (i := 0) rfl (Or.inl rfl)) (po_cons (po_d pd_int) po_nil))))) (po_d pd_int) (by rfl)) (pss_cons' (ps_par' G (i := 2) (j := 3) rfl rfl (by decide) rfl rfl (pe_bin G.toBase op_addD (po_d pd_int) (po_d (pe_de (pe_callO G.toBase tk hL c__law_draw (R.mono (by decide)) (po_cons (po_name (i := 0) rfl (Or.inl rfl)) (po_cons (po_d (pe_de (pe_bin G.toBase op_powD (po_d pd_int) (po_d pd_int)))) po_nil)))))) (pe_bin G.toBase op_addD (po_d pd_int) (po_d (pe_de (pe_callO G.toBase tk hL c__law_draw (R.mono (by decide)) (po_cons (po_name (i := 0) rfl (Or.inl rfl)) (po_cons (po_d (pe_de (pe_bin G.toBase op_powD (po_d pd_int) (po_d pd_int)))) po_nil)))))) (by rfl))
    (pss_one' (ps_for' (passes_of rfl) G (pi_range1' G.toBase (by rfl) T.g_range (pl_cons (pe_de (pe_callO G.toBase tk hL c__law_draw (R.mono (by decide)) (po_cons (po_name (i := 0) rfl (Or.inl rfl)) (po_cons (po_d pd_int) po_nil)))) pl_nil)) (pg_name' G.toBase (i := 4) rfl (Or.inl rfl)) (pss_one' (ps_par' G (i := 2) (j := 3) rfl rfl (by decide) rfl rfl (pe_bin G.toBase op_mulD (po_name (i := 2) rfl (Or.inl rfl)) (po_d (pe_de (pe_bin G.toBase op_addD (po_d pd_int) (po_d (pe_de (pe_callO G.toBase tk hL c__law_draw (R.mono (by decide)) (po_cons (po_name (i := 0) rfl (Or.inl rfl)) (po_cons (po_d (pe_de (pe_bin G.toBase op_powD (po_d pd_int) (po_d pd_int)))) po_nil))))))))) (pe_bin G.toBase op_mulD (po_name (i := 3) rfl (Or.inl rfl)) (po_d (pe_de (pe_bin G.toBase op_addD (po_d pd_int) (po_d (pe_de (pe_callO G.toBase tk hL c__law_draw (R.mono (by decide)) (po_cons (po_name (i := 0) rfl (Or.inl rfl)) (po_cons (po_d (pe_de (pe_bin G.toBase op_powD (po_d pd_int) (po_d pd_int)))) po_nil))))))))) (by rfl)))))) pss_nil')
    (pss_cons' (ps_set' G.toBase (i := 5) rfl (Or.inl rfl) (pe_callO G.toBase tk hL c__law_any (R.mono (by decide)) (po_cons (po_name (i := 0) rfl (Or.inl rfl)) (po_cons (po_d (pe_de (pe_lst' (pl_cons pd_int (pl_cons (pe_de (pe_una G.toBase un_negD (po_d pd_int))) pl_nil))))) po_nil))))
    (pss_one' (ps_ret' (pe_tup' (pl_cons (pe_de (pe_tup' (pl_cons pd_int (pl_cons (pe_de (pe_bin G.toBase op_mulD (po_name (i := 5) rfl (Or.inl rfl)) (po_name (i := 2) rfl (Or.inl rfl)))) pl_nil)))) (pl_cons (pe_de (pe_tup' (pl_cons (pe_de (pe_bin G.toBase op_subD (po_d pd_int) (po_d (pe_de (pe_bin G.toBase op_mulD (po_name (i := 5) rfl (Or.inl rfl)) (po_name (i := 3) rfl (Or.inl rfl))))))) (pl_cons pd_int pl_nil)))) pl_nil)))))))))
theorem sc__law_rows : FnScope (["table", "many", "found", "most", "place", "times", "row", "one", "less"] : List Str) (["table", "many"] : List Str) (defScope s__law_rows) := ⟨rfl, rfl, rfl, by decide +kernel, rfl, by decide +kernel, by decide +kernel⟩
theorem ok__law_rows (T : Tx K mg) {fd : FuncData} (F : FunD K "_law_rows" "_law_rows" (defArgs s__law_rows) (defBody s__law_rows) (defScope s__law_rows) [] [] (He.ga K "_law_rows") fd)  : Okf P w K mg base L 1 "_law_rows" 2 m__law_rows := by
  refine okf_of F T.f__law_rows (ps := (["table", "many"] : List Str)) (fun _ _ _ _ _ _ us h => ?_) rfl ?_
  · match us, h with
    | [a1, b1], _ => rfl
  · obtain ⟨oc, od, dV, kV, doc, pm, an, cdv, ct, osl, rfl, lk, hcd, _, _⟩ := F.ex
    refine okG (k := 0) (N := (["table", "many", "found", "most", "place", "times", "row", "one", "less"] : List Str)) (fb := b__law_rows) lk hcd sc__law_rows fun A outer s H E c hL G R tk => ?_
    exact (pss_cons' (ps_par' G (i := 2) (j := 3) rfl rfl (by decide) rfl rfl (pe_lst' (pl_cons (pe_de (pe_tup' (pl_cons (pe_de (pe_una G.toBase un_negD (po_d pd_int))) (pl_cons pd_int pl_nil)))) (pl_cons (pe_de (pe_tup' (pl_cons pd_int (pl_cons (pe_de (pe_una G.toBase un_negD (po_d pd_int))) pl_nil)))) pl_nil))) (pe_bin G.toBase op_mulD (po_d (pe_de (pe_bin G.toBase op_powD (po_d pd_int) (po_d pd_int)))) (po_d (pe_de (pe_bin G.toBase op_powD (po_d pd_int) (po_d pd_int))))) (by rfl))
    (pss_cons' (ps_while' 1000000 (passes_of rfl) (pt_com G.toBase op_ltD (po_d (pe_de (pe_blt G.toBase cr_len (by rfl) T.g_len bt_len (po_cons (po_name (i := 2) rfl (Or.inl rfl)) po_nil)))) (po_name (i := 1) rfl (Or.inl rfl)) (by rfl)) (pss_cons' (ps_set' G.toBase (i := 4) rfl (Or.inl rfl) (pe_bin G.toBase op_modD (po_d (pe_de (pe_blty G.toBase cr_int (by rfl) T.g_int bt_int (po_cons (po_d (pe_de (pe_blt G.toBase cr_len (by rfl) T.g_len bt_len (po_cons (po_name (i := 2) rfl (Or.inl rfl)) po_nil)))) po_nil)))) (po_d pd_int)))
    (pss_cons' (ps_set' G.toBase (i := 5) rfl (Or.inr rfl) (pe_blt G.toBase cr_abs (by rfl) T.g_abs bt_abs (po_cons (po_d (pe_de (pe_ix' G.toBase (po_d (pe_de (pe_ix' G.toBase (po_name (i := 0) rfl (Or.inl rfl)) (po_d (pe_de (pe_bin G.toBase op_subD (po_d pd_int) (po_name (i := 4) rfl (Or.inl rfl))))) (fun _ _ => rfl)))) (po_name (i := 4) rfl (Or.inl rfl)) (fun _ _ => rfl)))) po_nil)))
    (pss_cons' (ps_set' G.toBase (i := 6) rfl (Or.inl rfl) (pe_blty G.toBase cr_tuple (by rfl) T.g_tuple bt_tuple (po_cons (po_d (pe_de (pe_lc' G (pi_zip' G.toBase (by rfl) T.g_zip (pl_cons (pe_de (pe_ix' G.toBase (po_name (i := 2) rfl (Or.inl rfl)) (po_d (pe_de (pe_una G.toBase un_negD (po_d pd_int)))) (fun _ _ => rfl))) (pl_cons (pe_de (pe_ix' G.toBase (po_name (i := 2) rfl (Or.inl rfl)) (po_d (pe_de (pe_una G.toBase un_negD (po_d pd_int)))) (fun _ _ => rfl))) pl_nil))) (blkOk_by (N := (["table", "many", "found", "most", "place", "times", "row", "one", "less"] : List Str)) (sc := defScope s__law_rows) (own := [("one", 7), ("less", 8)]) (by decide +kernel)) (by decide) (fun s H C cl fp => (pg_tup' (G).blk (pgs_cons' (pg_name' (G).blk.toBase (i := 7) rfl (Or.inl rfl)) (pgs_cons' (pg_name' (G).blk.toBase (i := 8) rfl (Or.inl rfl)) pgs_nil')))) (fun s H C cl fp => pts_nil') (fun s H C cl fp => (pe_de (pe_bin (G).blk.toBase op_subD (po_d (pe_de (pe_blt (G).blk.toBase (cr_maxD' (G).blk.calm) (by rfl) T.g_max bt_max (po_cons (po_d pd_int) (po_cons (po_d (pe_de (pe_bin (G).blk.toBase op_mulD (po_name (i := 5) rfl (Or.inr (Or.inl rfl))) (po_name (i := 7) rfl (Or.inl rfl))))) po_nil))))) (po_name (i := 8) rfl (Or.inl rfl)))))))) po_nil)))
    (pss_cons' (ps_if' (pt_com G.toBase op_gtD (po_d (pe_de (pe_blt G.toBase (cr_maxD' G.calm) (by rfl) T.g_max bt_max (po_cons (po_d (pe_de (pe_lc' G (pi_seq' G.toBase (pe_de (pe_name (i := 6) rfl (Or.inl rfl)))) (blkOk_by (N := (["table", "many", "found", "most", "place", "times", "row", "one", "less"] : List Str)) (sc := defScope s__law_rows) (own := [("one", 7)]) (by decide +kernel)) (by decide) (fun s H C cl fp => (pg_name' (G).blk.toBase (i := 7) rfl (Or.inl rfl))) (fun s H C cl fp => pts_nil') (fun s H C cl fp => (pe_de (pe_blt (G).blk.toBase cr_abs (by rfl) T.g_abs bt_abs (po_cons (po_name (i := 7) rfl (Or.inl rfl)) po_nil))))))) po_nil)))) (po_name (i := 3) rfl (Or.inl rfl)) (by rfl)) (pss_one' (ps_ret' (pe_tup' (pl_cons (pe_de (pe_blty G.toBase cr_tuple (by rfl) T.g_tuple bt_tuple (po_cons (po_name (i := 2) rfl (Or.inl rfl)) po_nil))) (pl_cons (pe_de (pe_blt G.toBase cr_len (by rfl) T.g_len bt_len (po_cons (po_name (i := 2) rfl (Or.inl rfl)) po_nil))) pl_nil))))) pss_nil')
    (pss_one' (ps_expr' (pe_mtL G.toBase PySem.F.slot_list_append PySem.F.type_list_append mt_append mg_app (i := 2) rfl (Or.inl rfl) (pl_cons (pe_de (pe_name (i := 6) rfl (Or.inl rfl))) pl_nil)))))))))
    (pss_one' (ps_ret' (pe_tup' (pl_cons (pe_de (pe_blty G.toBase cr_tuple (by rfl) T.g_tuple bt_tuple (po_cons (po_name (i := 2) rfl (Or.inl rfl)) po_nil))) (pl_cons (pe_de (pe_name (i := 1) rfl (Or.inl rfl))) pl_nil)))))))
theorem sc__law_word : FnScope (["call", "error", "flags"] : List Str) (["call"] : List Str) (defScope s__law_word) := ⟨rfl, rfl, rfl, by decide +kernel, rfl, by decide +kernel, by decide +kernel⟩
theorem ok__law_word (T : Tx K mg) {fd : FuncData} (F : FunD K "_law_word" "_law_word" (defArgs s__law_word) (defBody s__law_word) (defScope s__law_word) [] [] (He.ga K "_law_word") fd) (k : Nat) : Okt P w K mg base L k "_law_word" "call" 2 b__law_word :=
  okt_of F T.f__law_word (Ng := (["call", "error", "flags"] : List Str)) rfl rfl (Or.inl rfl) sc__law_word (fun _ _ _ _ _ _ us h => match us, h with | [a1], _ => rfl) fun cdv A outer s H E c hL G R tk act =>
    (pss_cons' (ps_tryAs G tk rfl rfl (i := 1) rfl rfl ⟨rfl, by decide, .inl T.gc_SeedError⟩ (fun e b cls h1 h2 => T.te_SeedError e b cls h1 ((congrFun (G).mg _).trans h2))
    (fun W pn xe tk' po' => (pss_one' (ps_expr' (pe_act' act tk'))))
    (fun a oe cls d pn e cS hz hf hmg hd su => (pss_cons' (ps_set' (Base.suite (G.toBase) su) (i := 2) rfl (Or.inl rfl) (pe_lst' (pl_cons (pe_de (pe_isE' (C := "NoTable") (G).k (G).mg hz hf hmg hd su T.ie_NoTable T.gc_NoTable (i := 1) rfl (Or.inl rfl) T.g_isinstance)) (pl_cons (pe_de (pe_isE' (C := "NoNumber") (G).k (G).mg hz hf hmg hd su T.ie_NoNumber T.gc_NoNumber (i := 1) rfl (Or.inl rfl) T.g_isinstance)) (pl_cons (pe_de (pe_isE' (C := "TooGreat") (G).k (G).mg hz hf hmg hd su T.ie_TooGreat T.gc_TooGreat (i := 1) rfl (Or.inl rfl) T.g_isinstance)) pl_nil)))))
    (pss_one' (ps_ret' (pe_if' (pt_com (Base.suite (G.toBase) su) (op_eqD' (Base.suite (G.toBase) su).u64) (po_d (pe_de (pe_mtD (Base.suite (G.toBase) su) PySem.F.plainAttrs_list PySem.F.slot_list_count PySem.F.type_list_count (mt_countD (Base.suite (G.toBase) su).u65) (.inl rfl) (md_countB (Base.suite (G.toBase) su)) (po_name (i := 2) rfl (Or.inl rfl)) (pl_cons pd_bl pl_nil)))) (po_d pd_int) (by rfl)) (pe_ix' (Base.suite (G.toBase) su) (po_d (pe_de (pe_lst' (pl_cons pd_str (pl_cons pd_str (pl_cons pd_str pl_nil)))))) (po_d (pe_de (pe_mtD (Base.suite (G.toBase) su) PySem.F.plainAttrs_list PySem.F.slot_list_index PySem.F.type_list_index (mt_indexD (Base.suite (G.toBase) su).u65) (.inl rfl) (md_indexB (Base.suite (G.toBase) su)) (po_name (i := 2) rfl (Or.inl rfl)) (pl_cons pd_bl pl_nil)))) (fun _ _ => rfl)) (pe_en pd_str)))))))
    (pss_one' (ps_ret' (pe_en pd_str))))
theorem sc__law_is_right : FnScope (["hand", "table", "rows", "let", "product", "kept", "many", "back", "sums", "row", "at"] : List Str) (["hand", "table"] : List Str) (defScope s__law_is_right) := ⟨rfl, rfl, rfl, by decide +kernel, rfl, by decide +kernel, by decide +kernel⟩
theorem ok__law_is_right (T : Tx K mg) {fd : FuncData} (F : FunD K "_law_is_right" "_law_is_right" (defArgs s__law_is_right) (defBody s__law_is_right) (defScope s__law_is_right) [] [] (He.ga K "_law_is_right") fd) (c__law_draw : Okf P w K mg base L 1 "_law_draw" 2 m__law_draw) (c_two_rows : Okf P w K mg base L 6 "two_rows" 2 m_two_rows) (c__law_is : Okf P w K mg base L 1 "_law_is" 2 m__law_is) (c__law_rows : Okf P w K mg base L 1 "_law_rows" 2 m__law_rows) (u__law_word : Okt P w K mg base L 6 "_law_word" "call" 2 b__law_word) (tb : Tb K mg base L "_law_is_right") : Okf P w K mg base L 9 "_law_is_right" 2 m__law_is_right := by
  refine okf_of F T.f__law_is_right (ps := (["hand", "table"] : List Str)) (fun _ _ _ _ _ _ us h => ?_) rfl ?_
  · match us, h with
    | [a1, b1], _ => rfl
  · obtain ⟨oc, od, dV, kV, doc, pm, an, cdv, ct, osl, rfl, lk, hcd, _, _⟩ := F.ex
    obtain ⟨cc, rfl⟩ := He.codeIn_ref hcd
    have hcc : He.codeOf K ("_law_is_right", none) = cc := He.codeOf_eq lk rfl
    refine okG (k := 8) (N := (["hand", "table", "rows", "let", "product", "kept", "many", "back", "sums", "row", "at"] : List Str)) (fb := b__law_is_right) lk hcd sc__law_is_right fun A outer s H E c hL G R tk => ?_
    exact (pss_cons' (ps_asg' (pe_de (pe_callO G.toBase tk hL c__law_rows (R.mono (by decide)) (po_cons (po_name (i := 1) rfl (Or.inr (Or.inl rfl))) (po_cons (po_d pd_int) po_nil)))) (pg_tup' G (pgs_cons' (pg_name' G.toBase (i := 2) rfl (Or.inl rfl)) (pgs_cons' (pg_name' G.toBase (i := 3) rfl (Or.inl rfl)) pgs_nil'))))
    (pss_cons' (ps_par' G (i := 4) (j := 5) rfl rfl (by decide) rfl rfl (pe_blt G.toBase cr_abs (by rfl) T.g_abs bt_abs (po_cons (po_d (pe_de (pe_bin G.toBase op_mulD (po_d (pe_de (pe_ix' G.toBase (po_d (pe_de (pe_ix' G.toBase (po_name (i := 1) rfl (Or.inr (Or.inl rfl))) (po_d pd_int) (fun _ _ => rfl)))) (po_d pd_int) (fun _ _ => rfl)))) (po_d (pe_de (pe_ix' G.toBase (po_d (pe_de (pe_ix' G.toBase (po_name (i := 1) rfl (Or.inr (Or.inl rfl))) (po_d pd_int) (fun _ _ => rfl)))) (po_d pd_int) (fun _ _ => rfl))))))) po_nil)) (pe_blt G.toBase (cr_repr G.toBase.gd G.toBase.u100) (by rfl) T.g_repr bt_repr (po_cons (po_name (i := 1) rfl (Or.inr (Or.inl rfl))) po_nil)) (by rfl))
    (pss_cons' (ps_for' (passes_of rfl) G (pi_seq' G.toBase (pe_de (pe_tup' (pl_cons pd_int (pl_cons pd_int (pl_cons pd_int (pl_cons (pe_de (pe_name (i := 3) rfl (Or.inl rfl))) (pl_cons (pe_de (pe_blt G.toBase (cr_minD' G.calm) (by rfl) T.g_min bt_min (po_cons (po_d pd_int) (po_cons (po_d (pe_de (pe_bin G.toBase op_addD (po_name (i := 3) rfl (Or.inl rfl)) (po_d pd_int)))) po_nil)))) (pl_cons (pe_de (pe_bin G.toBase op_addD (po_d pd_int) (po_d (pe_de (pe_callO G.toBase tk hL c__law_draw (R.mono (by decide)) (po_cons (po_name (i := 0) rfl (Or.inl rfl)) (po_cons (po_d pd_int) po_nil))))))) pl_nil))))))))) (pg_name' G.toBase (i := 6) rfl (Or.inr rfl)) (pss_one' (ps_if' (pt_com G.toBase op_gtD (po_name (i := 6) rfl (Or.inr (Or.inl rfl))) (po_name (i := 3) rfl (Or.inl rfl)) (by rfl)) (pss_one' (ps_if' (pt_com G.toBase (op_neD' G.toBase.u64) (po_d (pe_de (pe_thunkO G tk hL u__law_word tb hcc rfl rfl (R.mono (by decide)) (frz := [1, 6]) (lmS_by (N := (["hand", "table", "rows", "let", "product", "kept", "many", "back", "sums", "row", "at"] : List Str)) (sc := defScope s__law_is_right) (by decide +kernel)) (dfOf0 rfl) (bdOf_nil (fun _ _ _ _ _ => rfl)) (fun A' outer' s' H' E' f' c' cL hK' hm' hT' G' R' tk' => (pe_callO G'.toBase tk' (hT'.trans hL) c_two_rows (R'.mono (by decide)) (po_cons (po_name (i := 1) rfl (Or.inr (Or.inr rfl))) (po_cons (po_name (i := 6) rfl (Or.inr (Or.inr rfl))) po_nil))))))) (po_d pd_str) (by rfl)) (pss_one' (ps_ret' (pe_en pd_bl))) pss_nil')) (pss_one' (ps_if' (pt_not' (pt_bool (pe_callO G.toBase tk hL c__law_is (R.mono (by decide)) (po_cons (po_d (pe_de (pe_callO G.toBase tk hL c_two_rows (R.mono (by decide)) (po_cons (po_name (i := 1) rfl (Or.inr (Or.inl rfl))) (po_cons (po_name (i := 6) rfl (Or.inr (Or.inl rfl))) po_nil))))) (po_cons (po_d (pe_de (pe_slice' G.toBase (po_name (i := 2) rfl (Or.inl rfl)) po_none' (po_some' (pe_de (pe_name (i := 6) rfl (Or.inr (Or.inl rfl)))))))) po_nil))))) (pss_one' (ps_ret' (pe_en pd_bl))) pss_nil')))))
    (pss_cons' (ps_if' (pt_com G.toBase op_ltD (po_name (i := 4) rfl (Or.inl rfl)) (po_d pd_int) (by rfl)) (pss_cons' (ps_set' G.toBase (i := 7) rfl (Or.inl rfl) (pe_ix' G.toBase (po_d (pe_de (pe_lst' (pl_cons pd_int (pl_cons pd_int (pl_cons pd_int (pl_cons pd_int pl_nil))))))) (po_name (i := 4) rfl (Or.inl rfl)) (fun _ _ => rfl)))
    (pss_one' (ps_ret' (pe_and' (pe_com G.toBase (op_eqD' G.toBase.u64) (po_d (pe_de (pe_slice' G.toBase (po_name (i := 2) rfl (Or.inl rfl)) (po_some' (pe_de (pe_name (i := 7) rfl (Or.inl rfl)))) po_none'))) (po_d (pe_de (pe_slice' G.toBase (po_name (i := 2) rfl (Or.inl rfl)) po_none' (po_some' (pe_de (pe_bin G.toBase op_subD (po_d pd_int) (po_name (i := 7) rfl (Or.inl rfl)))))))) (by rfl)) (pe_one' (pe_com G.toBase (op_eqD' G.toBase.u64) (po_d (pe_de (pe_blt G.toBase (cr_repr G.toBase.gd G.toBase.u100) (by rfl) T.g_repr bt_repr (po_cons (po_name (i := 1) rfl (Or.inr (Or.inl rfl))) po_nil)))) (po_name (i := 5) rfl (Or.inl rfl)) (by rfl))))))) pss_nil')
    (pss_cons' (ps_set' G.toBase (i := 8) rfl (Or.inr rfl) (pe_lc' G (pi_seq' G.toBase (pe_de (pe_name (i := 2) rfl (Or.inl rfl)))) (blkOk_by (N := (["hand", "table", "rows", "let", "product", "kept", "many", "back", "sums", "row", "at"] : List Str)) (sc := defScope s__law_is_right) (own := [("row", 9)]) (by decide +kernel)) (by decide) (fun s H C cl fp => (pg_name' (G).blk.toBase (i := 9) rfl (Or.inl rfl))) (fun s H C cl fp => pts_nil') (fun s H C cl fp => (pe_de (pe_blt (G).blk.toBase (cr_sumD (G).blk.calm) (by rfl) T.g_sum bt_sum (po_cons (po_name (i := 9) rfl (Or.inl rfl)) po_nil))))))
    (pss_one' (ps_ret' (pe_and' (pe_blt G.toBase (cr_allD G.calm) (by rfl) T.g_all bt_all (po_cons (po_d (pe_de (pe_lc' G (pi_range2' G.toBase (by rfl) T.g_range (pl_cons pd_int (pl_cons (pe_de (pe_bin G.toBase op_subD (po_name (i := 3) rfl (Or.inl rfl)) (po_d pd_int))) pl_nil))) (blkOk_by (N := (["hand", "table", "rows", "let", "product", "kept", "many", "back", "sums", "row", "at"] : List Str)) (sc := defScope s__law_is_right) (own := [("at", 10)]) (by decide +kernel)) (by decide) (fun s H C cl fp => (pg_name' (G).blk.toBase (i := 10) rfl (Or.inl rfl))) (fun s H C cl fp => pts_nil') (fun s H C cl fp => (pe_de (pe_com (G).blk.toBase op_ltD (po_d (pe_de (pe_ix' (G).blk.toBase (po_name (i := 8) rfl (Or.inr (Or.inl rfl))) (po_name (i := 10) rfl (Or.inl rfl)) (fun _ _ => rfl)))) (po_d (pe_de (pe_ix' (G).blk.toBase (po_name (i := 8) rfl (Or.inr (Or.inl rfl))) (po_d (pe_de (pe_bin (G).blk.toBase op_addD (po_name (i := 10) rfl (Or.inl rfl)) (po_d pd_int)))) (fun _ _ => rfl)))) (by rfl))))))) po_nil)) (pe_one' (pe_com G.toBase (op_eqD' G.toBase.u64) (po_d (pe_de (pe_blt G.toBase (cr_repr G.toBase.gd G.toBase.u100) (by rfl) T.g_repr bt_repr (po_cons (po_name (i := 1) rfl (Or.inr (Or.inl rfl))) po_nil)))) (po_name (i := 5) rfl (Or.inl rfl)) (by rfl)))))))))))
theorem sc__law_are_refused : FnScope (["hand", "table", "some", "bad", "far"] : List Str) (["hand", "table"] : List Str) (defScope s__law_are_refused) := ⟨rfl, rfl, rfl, by decide +kernel, rfl, by decide +kernel, by decide +kernel⟩
theorem ok__law_are_refused (T : Tx K mg) {fd : FuncData} (F : FunD K "_law_are_refused" "_law_are_refused" (defArgs s__law_are_refused) (defBody s__law_are_refused) (defScope s__law_are_refused) [] [] (He.ga K "_law_are_refused") fd) (c_two_rows : Okf P w K mg base L 6 "two_rows" 2 m_two_rows) (c__law_any : Okf P w K mg base L 2 "_law_any" 2 m__law_any) (u__law_word : Okt P w K mg base L 6 "_law_word" "call" 2 b__law_word) (tb : Tb K mg base L "_law_are_refused") : Okf P w K mg base L 9 "_law_are_refused" 2 m__law_are_refused := by
  refine okf_of F T.f__law_are_refused (ps := (["hand", "table"] : List Str)) (fun _ _ _ _ _ _ us h => ?_) rfl ?_
  · match us, h with
    | [a1, b1], _ => rfl
  · obtain ⟨oc, od, dV, kV, doc, pm, an, cdv, ct, osl, rfl, lk, hcd, _, _⟩ := F.ex
    obtain ⟨cc, rfl⟩ := He.codeIn_ref hcd
    have hcc : He.codeOf K ("_law_are_refused", none) = cc := He.codeOf_eq lk rfl
    refine okG (k := 8) (N := (["hand", "table", "some", "bad", "far"] : List Str)) (fb := b__law_are_refused) lk hcd sc__law_are_refused fun A outer s H E c hL G R tk => ?_
    exact (pss_cons' (ps_set' G.toBase (i := 2) rfl (Or.inl rfl) (pe_lst' (pl_cons pd_non (pl_cons (pe_de (pe_tup' pl_nil)) (pl_cons (pe_de (pe_tup' (pl_cons (pe_de (pe_tup' (pl_cons pd_int pl_nil))) pl_nil))) (pl_cons (pe_de (pe_tup' (pl_cons (pe_de (pe_tup' (pl_cons pd_int (pl_cons pd_int pl_nil)))) (pl_cons (pe_de (pe_tup' (pl_cons pd_int (pl_cons pd_int pl_nil)))) pl_nil)))) (pl_cons (pe_de (pe_tup' (pl_cons (pe_de (pe_tup' (pl_cons pd_int (pl_cons pd_int (pl_cons pd_int pl_nil))))) (pl_cons (pe_de (pe_tup' (pl_cons (pe_de (pe_una G.toBase un_negD (po_d pd_int))) (pl_cons pd_int (pl_cons pd_int pl_nil))))) (pl_cons (pe_de (pe_tup' (pl_cons pd_int (pl_cons (pe_de (pe_una G.toBase un_negD (po_d pd_int))) (pl_cons pd_int pl_nil))))) pl_nil))))) (pl_cons (pe_de (pe_lst' (pl_cons (pe_de (pe_tup' (pl_cons pd_int (pl_cons pd_int pl_nil)))) (pl_cons (pe_de (pe_tup' (pl_cons (pe_de (pe_una G.toBase un_negD (po_d pd_int))) (pl_cons pd_int pl_nil)))) pl_nil)))) (pl_cons (pe_de (pe_tup' (pl_cons (pe_de (pe_tup' (pl_cons pd_int (pl_cons pd_int pl_nil)))) (pl_cons (pe_de (pe_tup' (pl_cons pd_int (pl_cons pd_int pl_nil)))) pl_nil)))) (pl_cons pd_int pl_nil))))))))))
    (pss_cons' (ps_asg' (pe_de (pe_tup' (pl_cons (pe_de (pe_callO G.toBase tk hL c__law_any (R.mono (by decide)) (po_cons (po_name (i := 0) rfl (Or.inl rfl)) (po_cons (po_name (i := 2) rfl (Or.inl rfl)) po_nil)))) (pl_cons (pe_de (pe_callO G.toBase tk hL c__law_any (R.mono (by decide)) (po_cons (po_name (i := 0) rfl (Or.inl rfl)) (po_cons (po_d (pe_de (pe_lst' (pl_cons pd_int (pl_cons pd_int (pl_cons (pe_de (pe_una G.toBase un_negD (po_d pd_int))) (pl_cons pd_bl (pl_cons pd_non (pl_cons pd_str (pl_cons (pe_de (pe_tup' (pl_cons pd_int pl_nil))) pl_nil)))))))))) po_nil)))) pl_nil)))) (pg_tup' G (pgs_cons' (pg_name' G.toBase (i := 3) rfl (Or.inr rfl)) (pgs_cons' (pg_name' G.toBase (i := 4) rfl (Or.inr rfl)) pgs_nil'))))
    (pss_one' (ps_ret' (pe_com G.toBase (op_eqD' G.toBase.u64) (po_d (pe_de (pe_lst' (pl_cons (pe_de (pe_thunkO G tk hL u__law_word tb hcc rfl rfl (R.mono (by decide)) (frz := [3, 4]) (lmS_by (N := (["hand", "table", "some", "bad", "far"] : List Str)) (sc := defScope s__law_are_refused) (by decide +kernel)) (dfOf0 rfl) (bdOf_nil (fun _ _ _ _ _ => rfl)) (fun A' outer' s' H' E' f' c' cL hK' hm' hT' G' R' tk' => (pe_callO G'.toBase tk' (hT'.trans hL) c_two_rows (R'.mono (by decide)) (po_cons (po_name (i := 3) rfl (Or.inr (Or.inr rfl))) (po_cons (po_name (i := 4) rfl (Or.inr (Or.inr rfl))) po_nil)))))) (pl_cons (pe_de (pe_thunkO G tk hL u__law_word tb hcc rfl rfl (R.mono (by decide)) (frz := [1, 4]) (lmS_by (N := (["hand", "table", "some", "bad", "far"] : List Str)) (sc := defScope s__law_are_refused) (by decide +kernel)) (dfOf1 rfl) (bdOf_one (fun _ _ _ _ _ _ => ⟨_, rfl, fun _ => rfl⟩) rfl) (fun A' outer' s' H' E' f' c' cL hK' hm' hT' G' R' tk' => (pe_callO G'.toBase tk' (hT'.trans hL) c_two_rows (R'.mono (by decide)) (po_cons (po_name (i := 1) rfl (Or.inr (Or.inr rfl))) (po_cons (po_name (i := 4) rfl (Or.inr (Or.inr rfl))) po_nil)))))) pl_nil))))) (po_d (pe_de (pe_lst' (pl_cons pd_str (pl_cons pd_str pl_nil))))) (by rfl))))))
theorem sc_law : FnScope (["script", "hand", "due", "step", "table"] : List Str) (["script"] : List Str) (defScope s_law) := ⟨rfl, rfl, rfl, by decide +kernel, rfl, by decide +kernel, by decide +kernel⟩
theorem okl_law (T : Tx K mg) {fd : FuncData} (F : FunD K "law" "law" (defArgs s_law) (defBody s_law) (defScope s_law) [] [] (He.ga K "law") fd) (c__law_are_refused : Okf P w K mg base L 9 "_law_are_refused" 2 m__law_are_refused) (c__law_is_right : Okf P w K mg base L 9 "_law_is_right" 2 m__law_is_right) (c__law_drawn : Okf P w K mg base L 3 "_law_drawn" 1 m__law_drawn) (c__law_rows : Okf P w K mg base L 1 "_law_rows" 2 m__law_rows) (c__law_is : Okf P w K mg base L 1 "_law_is" 2 m__law_is) (c_two_rows : Okf P w K mg base L 6 "two_rows" 2 m_two_rows) (c__law_hand : Okf P w K mg base L 1 "_law_hand" 1 m__law_hand) : FnG P w K mg base 10 (He.ga K "law") fd (["script"] : List Str) (spM K mg L 1 m_law) := by
  refine fnG_len (n := 1) (ps := (["script"] : List Str)) rfl ?_
  · obtain ⟨oc, od, dV, kV, doc, pm, an, cdv, ct, osl, rfl, lk, hcd, _, _⟩ := F.ex
    refine okG (k := 9) (N := (["script", "hand", "due", "step", "table"] : List Str)) (fb := b_law) lk hcd sc_law fun A outer s H E c hL G R tk => ?_
    exact (pss_cons' (ps_set' G.toBase (i := 1) rfl (Or.inl rfl) (pe_callO G.toBase tk hL c__law_hand (R.mono (by decide)) (po_cons (po_name (i := 0) rfl (Or.inl rfl)) po_nil)))
    (pss_cons' (ps_set' G.toBase (i := 2) rfl (Or.inl rfl) (pe_tup' (pl_cons (pe_de (pe_tup' (pl_cons (pe_de (pe_una G.toBase un_negD (po_d pd_int))) (pl_cons pd_int pl_nil)))) (pl_cons (pe_de (pe_tup' (pl_cons pd_int (pl_cons (pe_de (pe_una G.toBase un_negD (po_d pd_int))) pl_nil)))) (pl_cons (pe_de (pe_tup' (pl_cons pd_int (pl_cons pd_int pl_nil)))) (pl_cons (pe_de (pe_tup' (pl_cons pd_int (pl_cons pd_int pl_nil)))) (pl_cons (pe_de (pe_tup' (pl_cons pd_int (pl_cons pd_int pl_nil)))) (pl_cons (pe_de (pe_tup' (pl_cons (pe_de (pe_una G.toBase un_negD (po_d pd_int))) (pl_cons pd_int pl_nil)))) (pl_cons (pe_de (pe_tup' (pl_cons pd_int (pl_cons (pe_de (pe_una G.toBase un_negD (po_d pd_int))) pl_nil)))) pl_nil)))))))))
    (pss_cons' (ps_if' (pw_or' (pt_not' (pt_bool (pe_callO G.toBase tk hL c__law_is (R.mono (by decide)) (po_cons (po_d (pe_de (pe_callO G.toBase tk hL c_two_rows (R.mono (by decide)) (po_cons (po_d (pe_de (pe_tup' (pl_cons (pe_de (pe_tup' (pl_cons pd_int (pl_cons pd_int pl_nil)))) (pl_cons (pe_de (pe_tup' (pl_cons (pe_de (pe_una G.toBase un_negD (po_d pd_int))) (pl_cons pd_int pl_nil)))) pl_nil))))) (po_cons (po_d pd_int) po_nil))))) (po_cons (po_name (i := 2) rfl (Or.inl rfl)) po_nil))))) (pw_one_or (pt_com G.toBase (op_neD' G.toBase.u64) (po_d (pe_de (pe_slice' G.toBase (po_d (pe_de (pe_ix' G.toBase (po_d (pe_de (pe_callO G.toBase tk hL c__law_rows (R.mono (by decide)) (po_cons (po_d (pe_de (pe_tup' (pl_cons (pe_de (pe_tup' (pl_cons pd_int (pl_cons pd_int pl_nil)))) (pl_cons (pe_de (pe_tup' (pl_cons (pe_de (pe_una G.toBase un_negD (po_d pd_int))) (pl_cons pd_int pl_nil)))) pl_nil))))) (po_cons (po_d pd_int) po_nil))))) (po_d pd_int) (fun _ _ => rfl)))) (po_some' pd_int) po_none'))) (po_d (pe_de (pe_tup' (pl_cons (pe_de (pe_tup' (pl_cons pd_int (pl_cons pd_int pl_nil)))) (pl_cons (pe_de (pe_tup' (pl_cons pd_int (pl_cons pd_int pl_nil)))) pl_nil))))) (by rfl)))).pt (pss_one' (ps_ret' (pe_en pd_bl))) pss_nil')
    (pss_cons' (ps_for' (passes_of rfl) G (pi_range1' G.toBase (by rfl) T.g_range (pl_cons pd_int pl_nil)) (pg_name' G.toBase (i := 3) rfl (Or.inl rfl)) (pss_cons' (ps_set' G.toBase (i := 4) rfl (Or.inl rfl) (pe_callO G.toBase tk hL c__law_drawn (R.mono (by decide)) (po_cons (po_name (i := 1) rfl (Or.inl rfl)) po_nil)))
    (pss_one' (ps_if' (pw_or' (pt_not' (pt_bool (pe_callO G.toBase tk hL c__law_is_right (R.mono (by decide)) (po_cons (po_name (i := 1) rfl (Or.inl rfl)) (po_cons (po_name (i := 4) rfl (Or.inl rfl)) po_nil))))) (pw_one_or (pt_not' (pt_bool (pe_callO G.toBase tk hL c__law_are_refused (R.mono (by decide)) (po_cons (po_name (i := 1) rfl (Or.inl rfl)) (po_cons (po_name (i := 4) rfl (Or.inl rfl)) po_nil))))))).pt (pss_one' (ps_ret' (pe_en pd_bl))) pss_nil'))))
    (pss_one' (ps_ret' (pe_en pd_bl)))))))
end Lw
end
section
namespace Mr
open PySem PySem.Spec L2 Eg
open PyProof.Rows hiding St
def isInt : D → Bool
  | .int _ => true
  | _ => false
theorem is_integer_spec (d : D) : m_is_integer [.d d] = .ok (.d (.bool (isInt d)), [.no]) := by cases d <;> rfl
theorem is_between_int (i a b : Int) : m_is_between [.d (.int i), .d (.int a), .d (.int b)] = .ok (.d (.bool (decide (a ≤ i ∧ i ≤ b))), [.no, .no, .no]) := by
  by_cases h1 : a ≤ i <;> by_cases h2 : i ≤ b <;> simp [m_is_between, b_is_between, is_integer_spec, isInt, h1, h2]
theorem sign_of_spec (i : Int) : m_sign_of [.d (.int i)] = .ok (.d (.int i.sign), [.no]) := by
  by_cases h1 : i = 0
  · subst h1; rfl
  · by_cases h2 : 0 < i
    · simp [m_sign_of, b_sign_of, h1, h2]
      exact (Int.sign_eq_one_of_pos h2).symm
    · simp [m_sign_of, b_sign_of, h1, h2]
      exact (Int.sign_eq_neg_one_of_neg (by omega)).symm
abbrev T2 (a b : Int) : D := .tuple [.tuple [.int 0, .int a], .tuple [.int b, .int 0]]
@[simp] theorem intB (d : Int) : isInt (.int d) = true := rfl
theorem are_integers2 (a b : Int) : m_are_integers [.d (.tuple [.int a, .int b]), .d (.int 2)] = .ok (.d (.bool true), [.no, .no]) := by rfl
theorem grid2 (a b : Int) (ha : a.natAbs ≤ 10 ^ 100) (hb : b.natAbs ≤ 10 ^ 100) : m_is_grid [.d (T2 a b)] = .ok (.d (.bool true), [.no]) := by
  have h1 : ((a.natAbs : Nat) : Int) ≤ 10000000000000000000000000000000000000000000000000000000000000000000000000000000000000000000000000000 := by omega
  have h2 : ((b.natAbs : Nat) : Int) ≤ 10000000000000000000000000000000000000000000000000000000000000000000000000000000000000000000000000000 := by omega
  simp [m_is_grid, b_is_grid, are_integers2, h1, h2, isiTup, sizeLine]
end Mr
end
section
namespace Mr
open PySem PySem.Spec L2 Eg
open PyProof.Rows hiding St
@[simp] theorem atI2_0 {α : Type} (x y : α) : atI [x, y] 0 = some x := rfl
@[simp] theorem atI2_1 {α : Type} (x y : α) : atI [x, y] 1 = some y := rfl
@[simp] theorem atI1_0 {α : Type} (x : α) : atI [x] 0 = some x := rfl
theorem wrong2 (a b : Int) (hs : a.sign = -b.sign) : m_wrong_pair [.d (T2 a b)] = .ok (.d .none, [.no]) := by
  simp [m_wrong_pair, b_wrong_pair, fb1_wrong_pair, fb2_wrong_pair, sizeLine, okR, upto_succ, sign_of_spec, hs]
theorem beside20 (a b : Int) (h : a ≠ 0) : m_places_beside [.d (T2 a b), .d (.int 0)] = .ok (.w (.l [.int 1]), [.no, .no]) := by
  simp [m_places_beside, b_places_beside, sizeLine, okR, upto_succ, h]
theorem beside20' (b : Int) : m_places_beside [.d (T2 0 b), .d (.int 0)] = .ok (.w (.l []), [.no, .no]) := by
  simp [m_places_beside, b_places_beside, sizeLine, okR, upto_succ]
theorem beside21 (a b : Int) (h : b ≠ 0) : m_places_beside [.d (T2 a b), .d (.int 1)] = .ok (.w (.l [.int 0]), [.no, .no]) := by
  simp [m_places_beside, b_places_beside, sizeLine, okR, upto_succ, h]
theorem beside21' (a : Int) : m_places_beside [.d (T2 a 0), .d (.int 1)] = .ok (.w (.l []), [.no, .no]) := by
  simp [m_places_beside, b_places_beside, sizeLine, okR, upto_succ]
theorem log2_lt {n k : Nat} (h : n < 2 ^ k) (hk : 0 < k) : n.log2 < k := by
  by_cases h0 : n = 0
  · subst h0; simpa using hk
  · exact (Nat.log2_lt h0).mpr h
theorem lowest_spec (a b : Nat) (ha : 0 < a) (hb : 0 < b) (h1 : a < 2 ^ 8999) : m_lowest [.d (.int a), .d (.int b)] = .ok (.d (.tuple [.int (a / Nat.gcd a b : Nat), .int (b / Nat.gcd a b : Nat)]), [.no, .no]) := by
  have hg : 0 < Nat.gcd a b := Nat.gcd_pos_of_pos_left _ ha
  have hl : (Nat.gcd a b).log2 < 9000 := by
    have : Nat.gcd a b ≤ a := Nat.gcd_le_left _ ha
    have := log2_lt (n := Nat.gcd a b) (k := 8999) (by omega) (by decide)
    omega
  have hg2 : (0 : Int) < ((Nat.gcd a b : Nat) : Int) := by omega
  simp [m_lowest, b_lowest, sizeLine, hg, hl, hg2]
end Mr
end
section
set_option maxHeartbeats 2000000
namespace Mr
open PySem PySem.Spec L2 Eg
open PyProof.Rows hiding St
theorem while_1000000 {t : Fn Bool} {f : Fn Fl} {γ : Eg.Env} : whileS t f 1000000 γ = (t γ).bind fun b γ1 => if b = true then (f γ1).bind fun fl γ2 => match fl with
      | .nx => whileS t f 999999 γ2
      | .ct => whileS t f 999999 γ2
      | .bk => .ok .nx γ2
      | .rt r => .ok (.rt r) γ2
    else .ok .nx γ1 := while_step (by decide)
theorem while_999999 {t : Fn Bool} {f : Fn Fl} {γ : Eg.Env} : whileS t f 999999 γ = (t γ).bind fun b γ1 => if b = true then (f γ1).bind fun fl γ2 => match fl with
      | .nx => whileS t f 999998 γ2
      | .ct => whileS t f 999998 γ2
      | .bk => .ok .nx γ2
      | .rt r => .ok (.rt r) γ2
    else .ok .nx γ1 := while_step (by decide)
theorem while_999998 {t : Fn Bool} {f : Fn Fl} {γ : Eg.Env} : whileS t f 999998 γ = (t γ).bind fun b γ1 => if b = true then (f γ1).bind fun fl γ2 => match fl with
      | .nx => whileS t f 999997 γ2
      | .ct => whileS t f 999997 γ2
      | .bk => .ok .nx γ2
      | .rt r => .ok (.rt r) γ2
    else .ok .nx γ1 := while_step (by decide)
theorem okMul_small {i j : Int} (h1 : i.natAbs < 2 ^ 1000) (h2 : j.natAbs < 2 ^ 1000) : okMul i j = true := by
  unfold okMul
  have := log2_lt h1 (by decide)
  have := log2_lt h2 (by decide)
  rw [Bool.or_eq_true]
  right
  exact decide_eq_true (by omega)
abbrev q2 (a b : Int) (x : Nat) : Int := ((x / Nat.gcd a.natAbs b.natAbs : Nat) : Int)
theorem spread20 (a b : Int) (h : a ≠ 0) (h' : b ≠ 0) (ha : a.natAbs < 2 ^ 1000) (hb : b.natAbs < 2 ^ 1000) : m_spread_from [.d (T2 a b), .d (.int 0)] =
    .ok (.d (.tuple [.dict [(.int 0, .tuple [.int 1, .int 1]), (.int 1, .tuple [.int (q2 a b a.natAbs), .int (q2 a b b.natAbs)])], .dict [(.int 0, .none), (.int 1, .int 0)]]), [.no, .no]) := by
  have e1 : okMul 1 (a.natAbs : Int) = true := okMul_small (by decide) (by omega)
  have e2 : okMul 1 (b.natAbs : Int) = true := okMul_small (by decide) (by omega)
  have e3 := lowest_spec a.natAbs b.natAbs (by omega) (by omega) (by omega)
  simp [m_spread_from, b_spread_from, wt1_spread_from, wb1_spread_from, fb1_spread_from, while_1000000, while_999999, while_999998, sizeLine, keysOf, mergeD, putD, lookD, beside20 a b h, beside21 a b h', e1, e2, e3]
theorem spread200 : m_spread_from [.d (T2 0 0), .d (.int 0)] = .ok (.d (.tuple [.dict [(.int 0, .tuple [.int 1, .int 1])], .dict [(.int 0, .none)]]), [.no, .no]) := by
  simp [m_spread_from, b_spread_from, wt1_spread_from, wb1_spread_from, fb1_spread_from, while_1000000, while_999999, while_999998, sizeLine, keysOf, mergeD, putD, lookD, beside20']
theorem spread210 : m_spread_from [.d (T2 0 0), .d (.int 1)] = .ok (.d (.tuple [.dict [(.int 1, .tuple [.int 1, .int 1])], .dict [(.int 1, .none)]]), [.no, .no]) := by
  simp [m_spread_from, b_spread_from, wt1_spread_from, wb1_spread_from, fb1_spread_from, while_1000000, while_999999, while_999998, sizeLine, keysOf, mergeD, putD, lookD, beside21']
end Mr
end
section
set_option maxHeartbeats 2000000
set_option exponentiation.threshold 2000
namespace Mr
open PySem PySem.Spec L2 Eg
open PyProof.Rows hiding St
theorem q2_lt (a b : Int) (x : Nat) (h : x < 2 ^ 1000) : (q2 a b x).natAbs < 2 ^ 1000 := by
  show ((((x / Nat.gcd a.natAbs b.natAbs : Nat) : Int)).natAbs) < _
  rw [Int.natAbs_natCast]
  exact Nat.lt_of_le_of_lt (Nat.div_le_self _ _) h
theorem q2_pos (a b : Int) (h : b ≠ 0) : 0 < q2 a b b.natAbs := by
  have hb : 0 < b.natAbs := by omega
  have : 0 < b.natAbs / Nat.gcd a.natAbs b.natAbs := Nat.div_pos (Nat.gcd_le_right _ hb) (Nat.gcd_pos_of_pos_right _ hb)
  show (0 : Int) < ((_ : Nat) : Int)
  omega
theorem q2_pos' (a b : Int) (h : a ≠ 0) : 0 < q2 a b a.natAbs := by
  have hb : 0 < a.natAbs := by omega
  have : 0 < a.natAbs / Nat.gcd a.natAbs b.natAbs := Nat.div_pos (Nat.gcd_le_left _ hb) (Nat.gcd_pos_of_pos_left _ hb)
  show (0 : Int) < ((_ : Nat) : Int)
  omega
theorem q2_cross (a b : Int) : q2 a b b.natAbs * (a.natAbs : Int) = q2 a b a.natAbs * (b.natAbs : Int) := by
  have h1 := Nat.gcd_dvd_left a.natAbs b.natAbs
  have h2 := Nat.gcd_dvd_right a.natAbs b.natAbs
  have : b.natAbs / Nat.gcd a.natAbs b.natAbs * a.natAbs = a.natAbs / Nat.gcd a.natAbs b.natAbs * b.natAbs := by
    rw [Nat.mul_comm, ← Nat.mul_div_assoc _ h2, Nat.mul_comm (a.natAbs / _), ← Nat.mul_div_assoc _ h1, Nat.mul_comm]
  show ((_ : Nat) : Int) * _ = ((_ : Nat) : Int) * _
  rw [← Int.natCast_mul, ← Int.natCast_mul, this]
abbrev told2 (A B : Int) : List (D × D) := [(.int 0, .tuple [.int 1, .int 1]), (.int 1, .tuple [.int A, .int B])]
theorem unlike2 (a b A B : Int) (h : a ≠ 0) (h' : b ≠ 0) (p1 : a.natAbs < 2 ^ 1000) (p2 : b.natAbs < 2 ^ 1000) (qa : A.natAbs < 2 ^ 1000) (qb : B.natAbs < 2 ^ 1000) (e : B * (a.natAbs : Int) = A * (b.natAbs : Int)) : m_unlike_pair [.d (T2 a b), .d (.dict (told2 A B))] = .ok (.d .none, [.no, .no]) := by
  have na : ((a.natAbs : Int)).natAbs < 2 ^ 1000 := by omega
  have nb : ((b.natAbs : Int)).natAbs < 2 ^ 1000 := by omega
  have one : (1 : Int).natAbs < 2 ^ 1000 := by decide
  have o1 := okMul_small one qb
  have o2 := okMul_small one qa
  have o3 := okMul_small qa one
  have o4 := okMul_small qb one
  have o5 := okMul_small qa nb
  have o6 := okMul_small qb na
  simp [m_unlike_pair, b_unlike_pair, fb1_unlike_pair, fb2_unlike_pair, sizeLine, lookD, sortI, insI, beside20 a b h, beside21 a b h', o1, o2, o3, o4, o5, o6, Int.one_mul, Int.mul_one, e]
theorem unlike200 : m_unlike_pair [.d (T2 0 0), .d (.dict [(.int 0, .tuple [.int 1, .int 1])])] = .ok (.d .none, [.no, .no]) := by
  simp [m_unlike_pair, b_unlike_pair, fb1_unlike_pair, fb2_unlike_pair, sizeLine, lookD, sortI, insI, beside20']
theorem unlike210 : m_unlike_pair [.d (T2 0 0), .d (.dict [(.int 1, .tuple [.int 1, .int 1])])] = .ok (.d .none, [.no, .no]) := by
  simp [m_unlike_pair, b_unlike_pair, fb1_unlike_pair, fb2_unlike_pair, sizeLine, lookD, sortI, insI, beside21']
theorem fdivOk {i : Int} (h : 0 < i) (h2 : i.natAbs < 2 ^ 1000) : 0 < i ∧ i.natAbs.log2 < 9000 := ⟨h, by have := log2_lt h2 (by decide); omega⟩
@[simp] theorem log2_1 : Nat.log2 1 < 9000 := by decide
@[simp] theorem pair_ap (a b : D) : Eg.pairD (a, b) = .tuple [a, b] := rfl
theorem scaled2 (A B : Int) (pa : 0 < A) (pb : 0 < B) (qa : A.natAbs < 2 ^ 1000) (qb : B.natAbs < 2 ^ 1000) : ∃ x y, m_scaled [.d (.dict (told2 A B))] = .ok (.w (.k [(.int 0, .int x), (.int 1, .int y)]), [.no]) := by
  have one : (1 : Int).natAbs < 2 ^ 1000 := by decide
  have f1 : (0 : Int) < B ∧ B.natAbs.log2 < 9000 := fdivOk pb qb
  have g1 : (1 : Nat).gcd B.natAbs = 1 := Nat.gcd_one_left _
  have g2 : 0 < B.natAbs.gcd A.natAbs := Nat.gcd_pos_of_pos_left _ (by omega)
  have g3 : B.natAbs.gcd A.natAbs ≤ B.natAbs := Nat.gcd_le_left _ (by omega)
  have f2 := fdivOk (i := ((B.natAbs.gcd A.natAbs : Nat) : Int)) (by omega) (by omega)
  rw [Int.natAbs_natCast] at f2
  have f3 := f2.2
  have e1 : okMul B A = true := okMul_small qb qa
  have e2 : okMul 1 B = true := okMul_small one qb
  have e3 : okMul B 1 = true := okMul_small qb one
  have e4 : B / B = 1 := Int.ediv_self (by omega)
  have e5 : okMul 1 A = true := okMul_small one qa
  have e6 : okMul 1 1 = true := by decide
  simp [m_scaled, b_scaled, fb1_scaled, fb2_scaled, sizeLine, lookD, mergeD, putD, f1, g1, f2, f3, e1, e2, e3, e4, e5, e6, g2]
end Mr
end
section
set_option maxHeartbeats 2000000
set_option exponentiation.threshold 2000
namespace Mr
open PySem PySem.Spec L2 Eg
open PyProof.Rows hiding St
theorem scaled200 (i : Int) : m_scaled [.d (.dict [(.int i, .tuple [.int 1, .int 1])])] = .ok (.w (.k [(.int i, .int 1)]), [.no]) := by
  have e6 : okMul 1 1 = true := by decide
  simp [m_scaled, b_scaled, fb1_scaled, fb2_scaled, sizeLine, lookD, mergeD, putD, e6]
theorem spread2 (a b : Int) (h : a ≠ 0) (h' : b ≠ 0) (p1 : a.natAbs < 2 ^ 1000) (p2 : b.natAbs < 2 ^ 1000) : ∃ A B : Int, 0 < A ∧ 0 < B ∧ A.natAbs < 2 ^ 1000 ∧ B.natAbs < 2 ^ 1000 ∧ B * (a.natAbs : Int) = A * (b.natAbs : Int) ∧
    m_spread_from [.d (T2 a b), .d (.int 0)] = .ok (.d (.tuple [.dict [(.int 0, .tuple [.int 1, .int 1]), (.int 1, .tuple [.int A, .int B])], .dict [(.int 0, .none), (.int 1, .int 0)]]), [.no, .no]) :=
  ⟨_, _, q2_pos' a b h, q2_pos a b h', q2_lt a b _ p1, q2_lt a b _ p2, q2_cross a b, spread20 a b h h' p1 p2⟩
theorem evened2 (a b : Int) (h : a ≠ 0) (h' : b ≠ 0) (p1 : a.natAbs < 2 ^ 1000) (p2 : b.natAbs < 2 ^ 1000) : ∃ x y, m_evened [.d (T2 a b)] = .ok (.d (.tuple [.tuple [.int x, .int y], .none]), [.no]) := by
  obtain ⟨A, B, pa, pb, qa, qb, hx, e1⟩ := spread2 a b h h' p1 p2
  obtain ⟨x, y, e4⟩ := scaled2 A B pa pb qa qb
  have e2 := unlike2 a b A B h h' p1 p2 qa qb hx
  refine ⟨x, y, ?_⟩
  simp [m_evened, b_evened, fb1_evened, sizeLine, lookD, okR, upto_succ, e1, e2, e4, mergeP, putD]
theorem evened20 : ∃ x y, m_evened [.d (T2 0 0)] = .ok (.d (.tuple [.tuple [.int x, .int y], .none]), [.no]) := by
  refine ⟨1, 1, ?_⟩
  simp [m_evened, b_evened, fb1_evened, sizeLine, lookD, okR, upto_succ, spread200, spread210, unlike200, unlike210, scaled200, mergeP, putD]
/-- the table's numbers -/
structure Ok2 (a b : Int) : Prop where
  la : a.natAbs ≤ 10 ^ 100
  lb : b.natAbs ≤ 10 ^ 100
  sg : a.sign = -b.sign
theorem table2 {a b : Int} (h : Ok2 a b) : m_is_table [.d (T2 a b)] = .ok (.d (.bool true), [.no]) := by
  have e1 := grid2 a b h.la h.lb
  have e2 := wrong2 a b h.sg
  have h1 := h.la
  have h2 := h.lb
  have e3 : ∃ x y, m_evened [.d (T2 a b)] = .ok (.d (.tuple [.tuple [.int x, .int y], .none]), [.no]) := by
    have hs := h.sg
    have p : (10 : Nat) ^ 100 < 2 ^ 1000 := by decide
    by_cases ha : a = 0
    · subst ha
      have hb : b = 0 := by
        have : b.sign = 0 := by simp at hs; simpa using hs.symm
        exact Int.sign_eq_zero_iff_zero.mp this
      subst hb
      exact evened20
    · have hb : b ≠ 0 := fun z => by subst z; simp at hs; exact ha hs
      exact evened2 a b ha hb (by omega) (by omega)
  obtain ⟨x, y, e3⟩ := e3
  simp [m_is_table, b_is_table, e1, e2, e3, sizeLine]
theorem need2 {a b : Int} (h : Ok2 a b) : m_need_table [.d (T2 a b)] = .ok (.d .none, [.no]) := by
  simp [m_need_table, b_need_table, table2 h]
end Mr
end
section
set_option maxHeartbeats 2000000
set_option exponentiation.threshold 2000
namespace Mr
open PySem PySem.Spec L2 Eg
open PyProof.Rows hiding St
/-! ### the rows -/
def stepR (t : Int) (x y : Int × Int) : Int × Int := (max 0 (t * x.1) - y.1, max 0 (t * x.2) - y.2)
/-- the row at n, and the one behind it -/
def RR (one other : Int) : Nat → (Int × Int) × (Int × Int)
  | 0 => ((-1, 0), (0, -1))
  | n + 1 => ((RR one other n).2, stepR (if n % 2 = 0 then other else one) (RR one other n).2 (RR one other n).1)
def Rw (one other : Int) (n : Nat) : Int × Int := (RR one other n).1
theorem Rw_succ2 (one other : Int) (n : Nat) : Rw one other (n + 2) = stepR (if n % 2 = 0 then other else one) (Rw one other (n + 1)) (Rw one other n) := rfl
abbrev pr (x : Int × Int) : D := .tuple [.int x.1, .int x.2]
def rowsD (one other : Int) (n : Nat) : List D := (List.range n).map fun k => pr (Rw one other k)
theorem rowsD_succ (one other : Int) (n : Nat) : rowsD one other (n + 1) = rowsD one other n ++ [pr (Rw one other n)] := by
  unfold rowsD
  rw [List.range_succ, List.map_append]; rfl
theorem rowsD_len (one other : Int) (n : Nat) : (rowsD one other n).length = n := by unfold rowsD; simp
/-- bounds -/
theorem Rw_lt {one other : Int} (h1 : one.natAbs < 2 ^ 400) (h2 : other.natAbs < 2 ^ 400) : ∀ n, (Rw one other n).1.natAbs < 2 ^ (402 * (n + 1)) ∧ (Rw one other n).2.natAbs < 2 ^ (402 * (n + 1)) := by
  have two : ∀ n, ((Rw one other n).1.natAbs < 2 ^ (402 * (n + 1)) ∧ (Rw one other n).2.natAbs < 2 ^ (402 * (n + 1))) ∧ (Rw one other (n + 1)).1.natAbs < 2 ^ (402 * (n + 1 + 1)) ∧ (Rw one other (n + 1)).2.natAbs < 2 ^ (402 * (n + 1 + 1)) := by
    intro n
    induction n with
    | zero =>
      have : ∀ k, 0 < k → 1 < 2 ^ k := fun k hk => Nat.one_lt_two_pow (by omega)
      refine ⟨⟨this _ (by omega), Nat.two_pow_pos _⟩, Nat.two_pow_pos _, this _ (by omega)⟩
    | succ n ih =>
      refine ⟨ih.2, ?_⟩
      rw [Rw_succ2]
      generalize ht : (if n % 2 = 0 then other else one) = t
      have htl : t.natAbs < 2 ^ 400 := by rw [← ht]; split <;> assumption
      have key : ∀ x y : Int, x.natAbs < 2 ^ (402 * (n + 1 + 1)) → y.natAbs < 2 ^ (402 * (n + 1)) → (max 0 (t * x) - y).natAbs < 2 ^ (402 * (n + 1 + 1 + 1)) := by
        intro x y hx hy
        have e1 : (t * x).natAbs = t.natAbs * x.natAbs := Int.natAbs_mul _ _
        have e2 : t.natAbs * x.natAbs < 2 ^ 400 * 2 ^ (402 * (n + 1 + 1)) := Nat.mul_lt_mul'' htl hx
        have e3 : (2 : Nat) ^ 400 * 2 ^ (402 * (n + 1 + 1)) * 4 = 2 ^ (402 * (n + 1 + 1 + 1)) := by
          rw [show (4 : Nat) = 2 ^ 2 from rfl, ← Nat.pow_add, ← Nat.pow_add]; congr 1; omega
        have e4 : (2 : Nat) ^ (402 * (n + 1)) ≤ 2 ^ 400 * 2 ^ (402 * (n + 1 + 1)) := by
          rw [← Nat.pow_add]; exact Nat.pow_le_pow_right (by decide) (by omega)
        omega
      exact ⟨key _ _ ih.2.1 ih.1.1, key _ _ ih.2.2 ih.1.2⟩
  exact fun n => (two n).1
theorem okMul_wide {i j : Int} {k : Nat} (h1 : i.natAbs < 2 ^ 400) (h2 : j.natAbs < 2 ^ k) (hk : 0 < k) (hk2 : k < 100000) : okMul i j = true := by
  unfold okMul
  have := log2_lt h1 (by decide)
  have := log2_lt h2 hk
  rw [Bool.or_eq_true]
  right
  exact decide_eq_true (by omega)
theorem atI_last {xs : List D} {a b : D} : atI (xs ++ [a, b]) (-1) = some b := by
  unfold atI ixN
  rw [if_neg (by omega), if_pos (by simp only [List.length_append, List.length_cons, List.length_nil]; omega)]
  have : ((-1 : Int) + ((xs ++ [a, b]).length : Nat)).toNat = xs.length + 1 := by simp; omega
  rw [this]
  simp
theorem atI_elder {xs : List D} {a b : D} : atI (xs ++ [a, b]) (-2) = some a := by
  unfold atI ixN
  rw [if_neg (by omega), if_pos (by simp only [List.length_append, List.length_cons, List.length_nil]; omega)]
  have : ((-2 : Int) + ((xs ++ [a, b]).length : Nat)).toNat = xs.length := by simp; omega
  rw [this]
  simp
theorem bitAnd_one (n : Nat) : Builtin.bitAnd (n : Int) 1 = ((n % 2 : Nat) : Int) := by
  unfold Builtin.bitAnd
  rw [decide_eq_true (by omega : (0 : Int) ≤ n)]
  show (((n : Int).toNat &&& (1 : Int).toNat : Nat) : Int) = _
  rw [Int.toNat_natCast, show (1 : Int).toNat = 1 from rfl, Nat.and_one_is_mod]
@[simp] theorem andD_int {a b : Int} : andD (.int a) (.int b) = .ok (.d (.int (Builtin.bitAnd a b))) := rfl
theorem rowsD_2 (one other : Int) (n : Nat) : rowsD one other (n + 2) = rowsD one other n ++ [pr (Rw one other n), pr (Rw one other (n + 1))] := by
  rw [rowsD_succ, rowsD_succ, List.append_assoc]; rfl
theorem cut_front {α : Type} {xs : List α} {n : Nat} : Eg.cutD xs none (some (n : Int)) = xs.take n := by
  unfold Eg.cutD
  rw [HT.sIx_nat, HT.sIx_none]
  simp only [List.drop_zero, Nat.sub_zero]
  rw [List.take_eq_take_iff]
  omega
@[simp] theorem slD_list {ds : List D} {lo hi : Option Int} : slD (.list ds) lo hi = .ok (.w (.l (Eg.cutD ds lo hi))) := rfl
@[simp] theorem slD_tuple {ds : List D} {lo hi : Option Int} : slD (.tuple ds) lo hi = .ok (.d (.tuple (Eg.cutD ds lo hi))) := rfl
end Mr
end
section
set_option maxHeartbeats 2000000
set_option exponentiation.threshold 2000
namespace Mr
open PySem PySem.Spec L2 Eg
open PyProof.Rows hiding St
theorem two_body {one other : Int} {n : Nat} {x : D} {a b c : Sl} (ha : canSet a = true) (hb : canSet b = true) (hc : canSet c = true) (h1 : one.natAbs < 2 ^ 400) (h2 : other.natAbs < 2 ^ 400) (hn : n < 100) :
    ∃ a' b' c', wb1_two_rows_of [.d (.int one), .d (.int other), .d x, .w (.l (rowsD one other (n + 2))), a, b, c, .no, .no] = .ok .nx [.d (.int one), .d (.int other), .d x, .w (.l (rowsD one other (n + 3))), .d a', .d b', .d c', .no, .no] := by
  have hl : rowsD one other (n + 3) = rowsD one other (n + 2) ++ [pr (Rw one other (n + 2))] := rowsD_succ _ _ _
  have hlen := rowsD_len one other (n + 2)
  have hlt : n + 2 < 16777216 := by omega
  have hbit : Builtin.bitAnd ((n : Int) + 2) 1 = ((n % 2 : Nat) : Int) := by
    have := bitAnd_one (n + 2)
    rw [show (n + 2) % 2 = n % 2 by omega] at this
    exact this
  have e1 : atI (rowsD one other (n + 2)) (-1) = some (pr (Rw one other (n + 1))) := by rw [rowsD_2]; exact atI_last
  have e2 : atI (rowsD one other (n + 2)) (-2) = some (pr (Rw one other n)) := by rw [rowsD_2]; exact atI_elder
  have b1 := Rw_lt h1 h2 (n + 1)
  have hw := Rw_succ2 one other n
  have par : (n + 2) % 2 = n % 2 := by omega
  by_cases hp : n % 2 = 0
  · have m1 := okMul_wide (k := 402 * (n + 1 + 1)) h2 b1.1 (by omega) (by omega)
    have m2 := okMul_wide (k := 402 * (n + 1 + 1)) h2 b1.2 (by omega) (by omega)
    rw [if_pos hp] at hw
    refine ⟨.int other, pr (Rw one other (n + 1)), pr (Rw one other n), ?_⟩
    simp [wb1_two_rows_of, hlen, hbit, hp, ha, hb, hc, e1, e2, m1, m2, sizeLine, hlt, hl, hw, stepR, pr]
  · have hp1 : n % 2 = 1 := by omega
    have m1 := okMul_wide (k := 402 * (n + 1 + 1)) h1 b1.1 (by omega) (by omega)
    have m2 := okMul_wide (k := 402 * (n + 1 + 1)) h1 b1.2 (by omega) (by omega)
    rw [if_neg hp] at hw
    refine ⟨.int one, pr (Rw one other (n + 1)), pr (Rw one other n), ?_⟩
    simp [wb1_two_rows_of, hlen, hbit, hp1, ha, hb, hc, e1, e2, m1, m2, sizeLine, hlt, hl, hw, stepR, pr]
theorem two_rows_of_spec {one other : Int} {many : Nat} (h1 : one.natAbs < 2 ^ 400) (h2 : other.natAbs < 2 ^ 400) (ho : 0 ≤ other) (hm : many ≤ 60) (hm2 : 2 ≤ many) :
    m_two_rows_of [.d (.int one), .d (.int other), .d (.int many)] = .ok (.w (.l (rowsD one other many)), [.no, .no, .no]) := by
  let P : Nat → Eg.Env → Prop := fun m γ => ∃ n a b c, γ = [.d (.int one), .d (.int other), .d (.int many), .w (.l (rowsD one other (n + 3))), a, b, c, .no, .no] ∧ canSet a = true ∧ canSet b = true ∧ canSet c = true ∧ m = many - (n + 3) ∧ n ≤ 60
  let J : Eg.Env → Prop := fun γ => ∃ n a b c, γ = [.d (.int one), .d (.int other), .d (.int many), .w (.l (rowsD one other (n + 3))), a, b, c, .no, .no] ∧ many ≤ n + 3
  have step : ∀ (m : Nat) (γ : Eg.Env), P m γ → ∃ b γ1, wt1_two_rows_of γ = .ok b γ1 ∧ match b with
      | false => J γ1
      | true => 0 < m ∧ ∃ fl γ2, wb1_two_rows_of γ1 = .ok fl γ2 ∧ match fl with
        | .nx => P (m - 1) γ2
        | .ct => P (m - 1) γ2
        | .bk => J γ2
        | .rt r => False := by
    rintro m γ ⟨n, a, b, c, rfl, ha, hb, hc, rfl, hn⟩
    by_cases hlt : n + 3 < many
    · obtain ⟨a', b', c', e⟩ := two_body (n := n + 1) (x := .int many) ha hb hc h1 h2 (by omega)
      refine ⟨true, _, ?_, by omega, .nx, _, e, n + 1, .d a', .d b', .d c', rfl, rfl, rfl, rfl, by omega, by omega⟩
      have : (n : Int) + 3 < many := by omega
      simp [wt1_two_rows_of, rowsD_len, this]
    · refine ⟨false, _, ?_, n, a, b, c, rfl, by omega⟩
      have : ¬ (n : Int) + 3 < many := by omega
      simp [wt1_two_rows_of, rowsD_len, this]
  have start : P (many - 3) [.d (.int one), .d (.int other), .d (.int many), .w (.l (rowsD one other 3)), .no, .no, .no, .no, .no] := ⟨0, .no, .no, .no, rfl, rfl, rfl, rfl, rfl, by omega⟩
  have e3 : rowsD one other 3 = [.tuple [.int (-1), .int 0], .tuple [.int 0, .int (-1)], .tuple [.int 1, .int 0]] := by
    have hw := Rw_succ2 one other 0
    show [pr (Rw one other 0), pr (Rw one other 1), pr (Rw one other 2)] = _
    rw [hw]
    have : stepR (if 0 % 2 = 0 then other else one) (Rw one other (0 + 1)) (Rw one other 0) = (1, 0) := by
      show (max 0 (other * 0) - (-1), max 0 (other * (-1)) - 0) = ((1, 0) : Int × Int)
      have : max 0 (other * (-1)) = 0 := by omega
      rw [this]; simp
    rw [this]; rfl
  rcases while_inv P J (fun _ _ => False) step (many - 3) 1000000 _ (by omega) start with ⟨γ', e, n, a, b, c, rfl, hn⟩ | ⟨_, _, _, q⟩
  · rw [e3] at e
    have cut : Eg.cutD (rowsD one other (n + 3)) none (some (many : Int)) = rowsD one other many := by
      rw [cut_front]
      unfold rowsD
      rw [← List.map_take, List.take_range]
      congr 2
      omega
    simp [m_two_rows_of, b_two_rows_of, sizeLine, e, cut]
  · exact q.elim
end Mr
end
section
set_option maxHeartbeats 2000000
set_option exponentiation.threshold 2000
namespace Mr
open PySem PySem.Spec L2 Eg
open PyProof.Rows hiding St
/-- greatest -/
abbrev GG : Nat := 10000000000000000000000000000000000000000000000000000000000000000000000000000000000000000000000000000
def bigR (x : Int × Int) : Bool := decide (GG < x.1.natAbs) || decide (GG < x.2.natAbs)
def greatR (one other : Int) (n : Nat) : Bool := (List.range n).any fun k => bigR (Rw one other k)
abbrev exTable : Xn := ⟨"NoTable", none⟩
abbrev exNumber : Xn := ⟨"NoNumber", none⟩
abbrev exGreat : Xn := ⟨"TooGreat", none⟩
def itD : D → List D
  | .tuple ds => ds
  | _ => []
def bigD : D → Bool
  | .int i => decide (GG < i.natAbs)
  | _ => false
theorem hGG : GG = 10 ^ 100 := by decide
theorem flat_bools (l : List D) : (l.map fun d => (itD d).map fun e => PyData.bool (bigD e)).flatten = ((l.map fun d => (itD d).map bigD).flatten).map .bool := by
  induction l with
  | nil => rfl
  | cons d l ih =>
    rw [List.map_cons, List.flatten_cons, ih, List.map_cons, List.flatten_cons, List.map_append, List.map_map]
    rfl
theorem rows_sum (one other : Int) (n : Nat) : ((rowsD one other n).map fun d => (itD d).length).sum = 2 * n := by
  induction n with
  | zero => rfl
  | succ n ih =>
    rw [rowsD_succ, List.map_append, List.sum_append, ih]
    show 2 * n + (2 + 0) = _
    omega
theorem any_rows (one other : Int) (n : Nat) : (((rowsD one other n).map fun d => (itD d).map bigD).flatten.any id) = greatR one other n := by
  unfold rowsD greatR
  rw [List.any_flatten, List.any_map, List.any_map]
  congr 1
  funext k
  simp [itD, bigD, bigR]
theorem two_rows_spec {a b : Int} {many : Nat} (h : Ok2 a b) (hm : many ≤ 60) (hm2 : 2 ≤ many) :
    m_two_rows [.d (T2 a b), .d (.int many)] = if greatR a.natAbs b.natAbs many then .ex exGreat else .ok (.d (.tuple (rowsD a.natAbs b.natAbs many)), [.no, .no]) := by
  have h1 := h.la
  have h2 := h.lb
  have p : (10 : Nat) ^ 100 < 2 ^ 400 := by decide
  have e1 := need2 h
  have e2 := two_rows_of_spec (one := a.natAbs) (other := b.natAbs) (many := many) (by omega) (by omega) (by omega) hm hm2
  have e3 : m_is_between [.d (.int many), .d (.int 2), .d (.int 60)] = .ok (.d (.bool true), [.no, .no, .no]) := by
    rw [is_between_int, decide_eq_true (by omega)]
  have e4 : lc2S [3, 4] [4] (seqSrc (deS (nameS 2))) (tgN 3) yesB (seqSrc (deS (nameS 3))) (tgN 4) yesB (deS (op2 gtD (opD (deS (callP absD (consF (opN 4) nilF)))) (opD (pureD (.int 10000000000000000000000000000000000000000000000000000000000000000000000000000000000000000000000000000))))) [.d (T2 a b), .d (.int many), .w (.l (rowsD a.natAbs b.natAbs many)), .no, .no] =
      .ok (.w (.l ((rowsD a.natAbs b.natAbs many).map fun d => (itD d).map fun e => PyData.bool (bigD e)).flatten)) [.d (T2 a b), .d (.int many), .d (.list (rowsD a.natAbs b.natAbs many)), .no, .no] := by
    refine lc2S_map (fun d => [.d (T2 a b), .d (.int many), .d (.list (rowsD a.natAbs b.natAbs many)), .d d, .no]) (fun d e => [.d (T2 a b), .d (.int many), .d (.list (rowsD a.natAbs b.natAbs many)), .d d, .d e]) itD (fun _ e => .bool (bigD e)) rfl ?_ rfl rfl ?_ ?_
    · rw [rows_sum]
      show 2 * many ≤ sizeLine
      unfold sizeLine; omega
    · intro d hd
      obtain ⟨k, _, rfl⟩ := List.mem_map.mp hd
      exact ⟨rfl, rfl, rfl, rfl, rfl, rfl⟩
    · intro d hd e he
      obtain ⟨k, _, rfl⟩ := List.mem_map.mp hd
      rcases List.mem_cons.mp he with rfl | he
      · refine ⟨rfl, rfl, rfl, ?_, rfl, rfl, rfl⟩
        have := hGG
        simp [bigD]
        omega
      · cases List.mem_singleton.mp he
        refine ⟨rfl, rfl, rfl, ?_, rfl, rfl, rfl⟩
        have := hGG
        simp [bigD]
        omega
  rw [flat_bools] at e4
  have e6 := any_rows a.natAbs b.natAbs many
  generalize hg : greatR a.natAbs b.natAbs many = g at e6
  generalize ((rowsD a.natAbs b.natAbs many).map fun d => (itD d).map bigD).flatten = fl at e4 e6
  cases g <;> simp [m_two_rows, b_two_rows, -ev_lc2S, sizeLine, e1, e2, e3, e4, e6]
end Mr
end
section
set_option maxHeartbeats 2000000
set_option exponentiation.threshold 2000
namespace Mr
open PySem PySem.Spec L2 Eg
open PyProof.Rows hiding St
/-- the hand -/
structure Hand where
  cells : List Int
  p : Int
  g : Int
  m : Int
  s : Int
abbrev Hand.sl (h : Hand) : Md := .l [.list (h.cells.map .int), .int h.p, .int h.g, .int h.m, .int h.s]
@[simp] theorem atI5_0 {α : Type} (a b c d e : α) : atI [a, b, c, d, e] 0 = some a := rfl
@[simp] theorem atI5_1 {α : Type} (a b c d e : α) : atI [a, b, c, d, e] 1 = some b := rfl
@[simp] theorem atI5_2 {α : Type} (a b c d e : α) : atI [a, b, c, d, e] 2 = some c := rfl
@[simp] theorem atI5_3 {α : Type} (a b c d e : α) : atI [a, b, c, d, e] 3 = some d := rfl
@[simp] theorem atI5_4 {α : Type} (a b c d e : α) : atI [a, b, c, d, e] 4 = some e := rfl
@[simp] theorem ixN5_1 : ixN 5 1 = some 1 := rfl
@[simp] theorem ixN5_2 : ixN 5 2 = some 2 := rfl
@[simp] theorem ixN5_3 : ixN 5 3 = some 3 := rfl
@[simp] theorem ixN5_4 : ixN 5 4 = some 4 := rfl
theorem okMul_lit {i j : Int} (h : small64 j = true) : okMul i j = true := by unfold okMul; rw [h]; simp
theorem okMul_lit' {i j : Int} (h : small64 i = true) : okMul i j = true := by unfold okMul; rw [h]; simp
theorem atI_some {α : Type} {xs : List α} {i : Int} (h1 : 0 ≤ i) (h2 : i < xs.length) : ∃ x, atI xs i = some x ∧ x ∈ xs := by
  unfold atI ixN
  rw [if_pos h1, if_pos h2]
  have : i.toNat < xs.length := by omega
  exact ⟨xs[i.toNat], by simp [this], List.getElem_mem _⟩
def x1P (m s : Int) : Int := ((m + 7919 * (s + 1)) * 40692) % 2147483647
def x2P (m s : Int) : Int := (x1P m s * (x1P m s / 1009 + 69621)) % 2147483647
def x3P (m s : Int) : Int := (x2P m s * (x2P m s / 2003 + 40014)) % 2147483563
theorem draw_spec (h : Hand) (n : Int) (hp : 0 ≤ h.p) (hn : 1 ≤ n) (hn2 : n.natAbs.log2 < 9000) : ∃ (r : Int) (h' : Hand), m__law_draw [.io h.sl, .d (.int n)] = .ok (.d (.int r), [.io h'.sl, .no]) ∧ 0 ≤ r ∧ r < n ∧ 0 ≤ h'.p := by
  obtain ⟨cells, p, g, m, s⟩ := h
  have hp : 0 ≤ p := hp
  have e1 : ∀ i : Int, okMul i 69621 = true := fun i => okMul_lit (by decide)
  have e2 : ∀ i : Int, okMul i 48271 = true := fun i => okMul_lit (by decide)
  have e3 : okMul 7919 (s + 1) = true := okMul_lit' (by decide)
  have e4 : ∀ i : Int, okMul i 40692 = true := fun i => okMul_lit (by decide)
  have e5 : ∀ i j : Int, okMul (i % 2147483647) j = true := fun i j => okMul_lit' (decide_eq_true (by omega))
  have n0 : 0 < n := by omega
  have fin : ∀ x : Int, 0 ≤ x % n ∧ x % n < n := fun x => ⟨Int.emod_nonneg _ (by omega), Int.emod_lt_of_pos _ n0⟩
  have l1 : Nat.log2 1009 < 9000 := by decide
  have l2 : Nat.log2 2003 < 9000 := by decide
  have l3 : Nat.log2 16 < 9000 := by decide
  by_cases hA : g = 0 ∧ p < cells.length
  · obtain ⟨rfl, hl⟩ := hA
    obtain ⟨cell, ec, _⟩ := atI_some (xs := cells) hp hl
    have ec' : atI (cells.map PyData.int) p = some (.int cell) := by
      unfold atI at ec ⊢
      rw [List.length_map]
      cases q : ixN cells.length p with
      | none => rw [q] at ec; cases ec
      | some j => rw [q] at ec; simp only [Option.bind] at ec ⊢; rw [List.getElem?_map, ec]; rfl
    by_cases hc : 1000000000000000000 ≤ cell
    · have hg : 0 < cell := by omega
      refine ⟨cell % n, ⟨cells, p + 1, cell / n, (m * 69621 + cell * 48271 + 479) % 2147483629, s⟩, ?_, (fin _).1, (fin _).2, by show 0 ≤ p + 1; omega⟩
      simp [m__law_draw, b__law_draw, hl, ec', hc, hg, n0, hn2, e1, e2]
    · have hc' : ¬ (1000000000000000000 ≤ cell) := hc
      refine ⟨(x3P ((m * 69621 + cell * 48271 + 479) % 2147483629) s / 16) % n, ⟨cells, p + 1, 0, (m * 69621 + cell * 48271 + 479) % 2147483629, s + 1⟩, ?_, (fin _).1, (fin _).2, by show 0 ≤ p + 1; omega⟩
      simp [m__law_draw, b__law_draw, hl, ec', hc', n0, hn2, e1, e2, e3, e4, e5, l1, l2, l3, x3P, x2P, x1P]
  · have hB : g = 0 → ¬ (p < cells.length) := fun z => fun y => hA ⟨z, y⟩
    by_cases hg : 0 < g
    · have hg0 : g ≠ 0 := by omega
      refine ⟨g % n, ⟨cells, p, g / n, m, s⟩, ?_, (fin _).1, (fin _).2, hp⟩
      simp [m__law_draw, b__law_draw, hg, hg0, n0, hn2]
    · refine ⟨(x3P m s / 16) % n, ⟨cells, p, g, m, s + 1⟩, ?_, (fin _).1, (fin _).2, hp⟩
      by_cases hg0 : g = 0
      · have hl := hB hg0
        subst hg0
        simp [m__law_draw, b__law_draw, hl, n0, hn2, e1, e2, e3, e4, e5, l1, l2, l3, x3P, x2P, x1P]
      · simp [m__law_draw, b__law_draw, hg, hg0, n0, hn2, e1, e2, e3, e4, e5, l1, l2, l3, x3P, x2P, x1P]
theorem hand_spec (ns : List Int) (hl : ns.length ≤ 63) : ∃ h : Hand, m__law_hand [.scr ns] = .ok (.w h.sl, [.no]) ∧ 0 ≤ h.p := by
  have ec : Eg.cutD ns none (some (63 : Int)) = ns := by
    have := cut_front (xs := ns) (n := 63)
    rw [show ((63 : Nat) : Int) = 63 from rfl] at this
    rw [this, List.take_of_length_le hl]
  have lc : lcS [2] (seqSrc (deS (slScr 0 noI (someI (pureD (.int 63)))))) (tgN 2) yesB (deS (op2 modD (opD (deS (callP intD (consF (opD (deS (callP absD (consF (opD (deS (callP intD (consF (opN 2) nilF)))) nilF)))) nilF)))) (opD (deS (op2 powD (opD (pureD (.int 10))) (opD (pureD (.int 60)))))))) [.scr ns, .no, .no] =
      .ok (.w (.l ((ns.map PyData.int).map fun d => match d with
        | .int i => .int ((i.natAbs : Int) % 10 ^ 60)
        | d => d))) [.scr ns, .no, .no] := by
    refine lcS_map (fun d => [.scr ns, .no, .d d]) _ ?_ ?_ rfl rfl ?_
    · simp [ec]
    · rw [List.length_map]; unfold sizeLine; omega
    · intro d hd
      obtain ⟨i, _, rfl⟩ := List.mem_map.mp hd
      refine ⟨rfl, rfl, rfl, rfl, ?_⟩
      simp
  have e2 : okMul 29 (ns.length : Int) = true := okMul_lit' (by decide)
  have em : ((ns.map PyData.int).map fun d => match d with
        | .int i => .int ((i.natAbs : Int) % 10 ^ 60)
        | d => d) = (ns.map fun i : Int => (i.natAbs : Int) % 10 ^ 60).map PyData.int := by
    rw [List.map_map, List.map_map]; rfl
  rw [em] at lc
  refine ⟨⟨ns.map fun i : Int => (i.natAbs : Int) % 10 ^ 60, 0, 0, 171201 + 29 * ns.length, 0⟩, ?_, Int.le_refl _⟩
  generalize hcs : (ns.map fun i : Int => (i.natAbs : Int) % 10 ^ 60) = cs at lc
  have hlen : cs.length = ns.length := by rw [← hcs, List.length_map]
  simp [m__law_hand, b__law_hand, -ev_lcS, lc, hlen, e2, sizeLine]
end Mr
end
section
set_option maxHeartbeats 2000000
set_option exponentiation.threshold 2000
namespace Mr
open PySem PySem.Spec L2 Eg
open PyProof.Rows hiding St
theorem len_log {n : Nat} (h : n < 2 ^ 64) : ((n : Int)).natAbs.log2 < 9000 := by
  rw [Int.natAbs_natCast]
  have := log2_lt h (by decide)
  omega
theorem any_io (h : Hand) (xs : List D) (hp : 0 ≤ h.p) (h1 : xs ≠ []) (h2 : xs.length < 2 ^ 64) : ∃ (x : D) (h' : Hand), x ∈ xs ∧ m__law_any [.io h.sl, .io (.l xs)] = .ok (.d x, [.io h'.sl, .io (.l xs)]) ∧ 0 ≤ h'.p := by
  have hl : 0 < xs.length := List.length_pos_iff.mpr h1
  obtain ⟨r, h', e, r0, r1, p'⟩ := draw_spec h (xs.length : Int) hp (by omega) (len_log h2)
  obtain ⟨x, ex, hx⟩ := atI_some r0 r1
  exact ⟨x, h', hx, by simp [m__law_any, b__law_any, e, ex], p'⟩
theorem any_d (h : Hand) (xs : List D) (hp : 0 ≤ h.p) (h1 : xs ≠ []) (h2 : xs.length < 2 ^ 64) : ∃ (x : D) (h' : Hand), x ∈ xs ∧ m__law_any [.io h.sl, .d (.list xs)] = .ok (.d x, [.io h'.sl, .no]) ∧ 0 ≤ h'.p := by
  have hl : 0 < xs.length := List.length_pos_iff.mpr h1
  obtain ⟨r, h', e, r0, r1, p'⟩ := draw_spec h (xs.length : Int) hp (by omega) (len_log h2)
  obtain ⟨x, ex, hx⟩ := atI_some r0 r1
  exact ⟨x, h', hx, by simp [m__law_any, b__law_any, e, ex], p'⟩
theorem is_spec {a b : D} (ha : Shows a) (hb : Shows b) : m__law_is [.d a, .d b] = .ok (.d (.bool (decide (a.shown = b.shown))), [.no, .no]) := by
  simp [m__law_is, b__law_is, ha.repr, hb.repr]
/-! ### the table -/
/-- the drawn numbers -/
structure Two (one other : Int) : Prop where
  o : 0 ≤ one ∧ one ≤ 10 ^ 100
  t : 0 ≤ other ∧ other ≤ 10 ^ 100
  z : one = 0 ↔ other = 0
theorem sgn_ok {s one other : Int} (hs : s = 1 ∨ s = -1) (h : Two one other) : Ok2 (s * one) (0 - s * other) := by
  obtain ⟨⟨h1, h2⟩, ⟨h3, h4⟩, hz⟩ := h
  have e : (s * one).natAbs = one.natAbs ∧ (0 - s * other).natAbs = other.natAbs := by
    rcases hs with rfl | rfl <;> constructor <;> omega
  refine ⟨?_, ?_, ?_⟩
  · rw [e.1]; omega
  · rw [e.2]; omega
  · by_cases h0 : one = 0
    · have := hz.mp h0
      subst h0 this
      simp
    · have h0' : other ≠ 0 := fun z => h0 (hz.mpr z)
      have p1 : 0 < one := by omega
      have p2 : 0 < other := by omega
      rcases hs with rfl | rfl
      · rw [Int.sign_eq_one_of_pos (by omega), Int.sign_eq_neg_one_of_neg (by omega)]; rfl
      · rw [Int.sign_eq_neg_one_of_neg (by omega), Int.sign_eq_one_of_pos (by omega)]
theorem pw6 (k : Nat) : (1 : Int) ≤ (10 ^ 6) ^ k := by
  have : 0 < (10 ^ 6 : Int) ^ k := Int.pow_pos (by decide)
  omega
theorem fac_le {x r : Int} {k : Nat} (h1 : 1 ≤ x) (h2 : x ≤ (10 ^ 6) ^ k) (h3 : 0 ≤ r) (h4 : r < 10 ^ 6) : 1 ≤ x * (1 + r) ∧ x * (1 + r) ≤ (10 ^ 6) ^ (k + 1) := by
  refine ⟨?_, ?_⟩
  · have := Int.mul_le_mul h1 (show (1 : Int) ≤ 1 + r by omega) (by decide) (by omega)
    omega
  · rw [Int.pow_succ]
    exact Int.mul_le_mul h2 (by omega) (by omega) (by have := pw6 k; omega)
theorem draw6 (h : Hand) (hp : 0 ≤ h.p) : ∃ (r : Int) (h' : Hand), m__law_draw [.io h.sl, .d (.int 1000000)] = .ok (.d (.int r), [.io h'.sl, .no]) ∧ 0 ≤ r ∧ r < 10 ^ 6 ∧ 0 ≤ h'.p := draw_spec h 1000000 hp (by decide) (by decide)
theorem drawn_step {h : Hand} {prs : Md} {one other : Int} {k : Nat} {st : Sl} (hp : 0 ≤ h.p) (o1 : 1 ≤ one) (o2 : one ≤ (10 ^ 6) ^ k) (t1 : 1 ≤ other) (t2 : other ≤ (10 ^ 6) ^ k) : ∃ (h' : Hand) (one' other' : Int), 0 ≤ h'.p ∧ 1 ≤ one' ∧ one' ≤ (10 ^ 6) ^ (k + 1) ∧ 1 ≤ other' ∧ other' ≤ (10 ^ 6) ^ (k + 1) ∧
    fb1__law_drawn [.io h.sl, .w prs, .d (.int one), .d (.int other), st, .no] = .ok .nx [.io h'.sl, .w prs, .d (.int one'), .d (.int other'), st, .no] := by
  obtain ⟨r, h1, e1, r0, r1, p1⟩ := draw6 h hp
  obtain ⟨q, h2, e2, q0, q1, p2⟩ := draw6 h1 p1
  have m1 : okMul one (1 + r) = true := okMul_lit (decide_eq_true (by omega))
  have m2 : okMul other (1 + q) = true := okMul_lit (decide_eq_true (by omega))
  have f1 := fac_le o1 o2 r0 r1
  have f2 := fac_le t1 t2 q0 q1
  exact ⟨h2, one * (1 + r), other * (1 + q), p2, f1.1, f1.2, f2.1, f2.2, by simp [fb1__law_drawn, e1, e2, m1, m2]⟩
theorem drawn_loop {h : Hand} {prs : Md} {one other : Int} (n : Nat) (hp : 0 ≤ h.p) (o1 : 1 ≤ one) (o2 : one ≤ 10 ^ 6) (t1 : 1 ≤ other) (t2 : other ≤ 10 ^ 6) : ∃ (h' : Hand) (one' other' : Int) (st' : Sl), 0 ≤ h'.p ∧ 1 ≤ one' ∧ one' ≤ (10 ^ 6) ^ (n + 1) ∧ 1 ≤ other' ∧ other' ≤ (10 ^ 6) ^ (n + 1) ∧
    forL (tgN 4) fb1__law_drawn (upto 0 n) [.io h.sl, .w prs, .d (.int one), .d (.int other), .no, .no] = .ok .nx [.io h'.sl, .w prs, .d (.int one'), .d (.int other'), st', .no] := by
  obtain ⟨γ', e, h', one', other', st', rfl, q⟩ := forL_run (t := tgN 4) (f := fb1__law_drawn) (fun j γ => ∃ (h' : Hand) (one' other' : Int) (st' : Sl), γ = [.io h'.sl, .w prs, .d (.int one'), .d (.int other'), st', .no] ∧ canSet st' = true ∧ 0 ≤ h'.p ∧ 1 ≤ one' ∧ one' ≤ (10 ^ 6) ^ (j + 1) ∧ 1 ≤ other' ∧ other' ≤ (10 ^ 6) ^ (j + 1))
    (upto 0 n) [.io h.sl, .w prs, .d (.int one), .d (.int other), .no, .no] ⟨h, one, other, .no, rfl, rfl, hp, o1, by simpa using o2, t1, by simpa using t2⟩ (by
      rintro j d γ hj ⟨h', one', other', st', rfl, cs, p', a1, a2, b1, b2⟩
      obtain ⟨h2, one2, other2, p2, c1, c2, d1, d2, e⟩ := drawn_step (prs := prs) (st := .d d) p' a1 a2 b1 b2
      exact ⟨_, _, by simp [cs], e, h2, one2, other2, .d d, rfl, rfl, p2, c1, c2, d1, d2⟩)
  have hl : (upto 0 n).length = n := by unfold upto; simp
  rw [hl] at q
  exact ⟨h', one', other', st', q.2.1, q.2.2.1, q.2.2.2.1, q.2.2.2.2.1, q.2.2.2.2.2, e⟩
theorem sgn_any (h : Hand) (hp : 0 ≤ h.p) : ∃ (s : Int) (h' : Hand), (s = 1 ∨ s = -1) ∧ m__law_any [.io h.sl, .d (.list [.int 1, .int (-1)])] = .ok (.d (.int s), [.io h'.sl, .no]) ∧ 0 ≤ h'.p := by
  obtain ⟨x, h', hx, e, p⟩ := any_d h [.int 1, .int (-1)] hp (by decide) (by decide)
  simp only [List.mem_cons, List.not_mem_nil, or_false] at hx
  rcases hx with rfl | rfl
  · exact ⟨1, h', .inl rfl, e, p⟩
  · exact ⟨-1, h', .inr rfl, e, p⟩
theorem drawn_spec (h : Hand) (hp : 0 ≤ h.p) : ∃ (a b : Int) (h' : Hand), m__law_drawn [.io h.sl] = .ok (.d (T2 a b), [.io h'.sl]) ∧ 0 ≤ h'.p ∧ Ok2 a b := by
  obtain ⟨x, h1, hx, e1, p1⟩ := any_io h [.tuple [.int 0, .int 0], .tuple [.int 1, .int 1], .tuple [.int 1, .int 2], .tuple [.int 3, .int 1], .tuple [.int 2, .int 1], .tuple [.int 1, .int 3], .tuple [.int 2, .int 2], .tuple [.int 1, .int 4], .tuple [.int 4, .int 1], .tuple [.int 3, .int 3], .tuple [.int 1, .int 5], .tuple [.int 5, .int 5], .tuple [.int 12, .int 1]] hp (by decide) (by decide)
  obtain ⟨o0, t0, rfl, z0⟩ : ∃ o0 t0 : Int, x = .tuple [.int o0, .int t0] ∧ Two o0 t0 := by
    simp only [List.mem_cons, List.not_mem_nil, or_false] at hx
    rcases hx with rfl | rfl | rfl | rfl | rfl | rfl | rfl | rfl | rfl | rfl | rfl | rfl | rfl <;> exact ⟨_, _, rfl, ⟨by decide, by decide⟩, ⟨by decide, by decide⟩, by decide⟩
  obtain ⟨r, h2, e2, r0, r1, p2⟩ := draw_spec h1 4 p1 (by decide) (by decide)
  by_cases hr : r = 0
  · subst hr
    obtain ⟨u, h3, e3, u0, u1, p3⟩ := draw6 h2 p2
    obtain ⟨v, h4, e4, v0, v1, p4⟩ := draw6 h3 p3
    obtain ⟨k, h5, e5, k0, k1, p5⟩ := draw_spec h4 7 p4 (by decide) (by decide)
    obtain ⟨h6, one, other, st, p6, a1, a2, b1, b2, e6⟩ := drawn_loop (h := h5) (prs := .l [.tuple [.int 0, .int 0], .tuple [.int 1, .int 1], .tuple [.int 1, .int 2], .tuple [.int 3, .int 1], .tuple [.int 2, .int 1], .tuple [.int 1, .int 3], .tuple [.int 2, .int 2], .tuple [.int 1, .int 4], .tuple [.int 4, .int 1], .tuple [.int 3, .int 3], .tuple [.int 1, .int 5], .tuple [.int 5, .int 5], .tuple [.int 12, .int 1]]) (one := 1 + u) (other := 1 + v) k.toNat p5 (by omega) (by omega) (by omega) (by omega)
    obtain ⟨s, h7, hs, e7, p7⟩ := sgn_any h6 p6
    have le : ((10 : Int) ^ 6) ^ (k.toNat + 1) ≤ 10 ^ 100 := by
      have all : ∀ n : Nat, n ≤ 6 → ((10 : Int) ^ 6) ^ (n + 1) ≤ 10 ^ 100 := by decide
      exact all _ (by omega)
    have two : Two one other := ⟨by omega, by omega, by omega⟩
    have m1 : okMul s one = true := okMul_lit' (decide_eq_true (by omega))
    have m2 : okMul s other = true := okMul_lit' (decide_eq_true (by omega))
    have kr : okR k = true := decide_eq_true (by omega)
    refine ⟨_, _, h7, ?_, p7, sgn_ok hs two⟩
    simp [m__law_drawn, b__law_drawn, sizeLine, e1, e2, e3, e4, e5, e6, e7, m1, m2, kr]
  · obtain ⟨s, h7, hs, e7, p7⟩ := sgn_any h2 p2
    have m1 : okMul s o0 = true := okMul_lit' (decide_eq_true (by omega))
    have m2 : okMul s t0 = true := okMul_lit' (decide_eq_true (by omega))
    refine ⟨_, _, h7, ?_, p7, sgn_ok hs z0⟩
    simp [m__law_drawn, b__law_drawn, sizeLine, e1, e2, hr, e7, m1, m2]
end Mr
end
section
set_option maxHeartbeats 2000000
set_option exponentiation.threshold 2000
namespace Mr
open PySem PySem.Spec L2 Eg
open PyProof.Rows hiding St
abbrev GI : Int := 10000000000000000000000000000000000000000000000000000000000000000000000000000000000000000000000000000
theorem bigR_iff (x : Int × Int) : bigR x = decide (GI < max ((x.1.natAbs : Nat) : Int) ((x.2.natAbs : Nat) : Int)) := by
  unfold bigR
  have hG : (GI : Int) = ((GG : Nat) : Int) := by decide
  rw [hG, Bool.eq_iff_iff]
  simp only [Bool.or_eq_true, decide_eq_true_eq]
  omega
theorem rows_body {a b : Int} {n : Nat} {many : Int} {p t r : Sl} (hp : canSet p = true) (ht : canSet t = true) (hr : canSet r = true) (h1 : a.natAbs < 2 ^ 400) (h2 : b.natAbs < 2 ^ 400) (hn : n < 100) :
    ∃ p' t' r', wb1__law_rows [.d (T2 a b), .d (.int many), .w (.l (rowsD a.natAbs b.natAbs (n + 2))), .d (.int GI), p, t, r, .no, .no] =
      if bigR (Rw a.natAbs b.natAbs (n + 2)) = true then .ok (.rt (.d (.tuple [.tuple (rowsD a.natAbs b.natAbs (n + 2)), .int (n + 2 : Nat)]))) [.d (T2 a b), .d (.int many), .w (.l (rowsD a.natAbs b.natAbs (n + 2))), .d (.int GI), .d p', .d t', .d r', .no, .no]
      else .ok .nx [.d (T2 a b), .d (.int many), .w (.l (rowsD a.natAbs b.natAbs (n + 3))), .d (.int GI), .d p', .d t', .d r', .no, .no] := by
  have g1 : ((a.natAbs : Int)).natAbs < 2 ^ 400 := by rw [Int.natAbs_natCast]; exact h1
  have g2 : ((b.natAbs : Int)).natAbs < 2 ^ 400 := by rw [Int.natAbs_natCast]; exact h2
  have hl : rowsD a.natAbs b.natAbs (n + 3) = rowsD a.natAbs b.natAbs (n + 2) ++ [pr (Rw a.natAbs b.natAbs (n + 2))] := rowsD_succ _ _ _
  have hlen := rowsD_len a.natAbs b.natAbs (n + 2)
  have hlt : n + 2 < 16777216 := by omega
  have e1 : atI (rowsD a.natAbs b.natAbs (n + 2)) (-1) = some (pr (Rw a.natAbs b.natAbs (n + 1))) := by rw [rowsD_2]; exact atI_last
  have e2 : atI (rowsD a.natAbs b.natAbs (n + 2)) (-2) = some (pr (Rw a.natAbs b.natAbs n)) := by rw [rowsD_2]; exact atI_elder
  have b1 := Rw_lt g1 g2 (n + 1)
  have hw := Rw_succ2 (a.natAbs : Int) (b.natAbs : Int) n
  have hb := bigR_iff (Rw a.natAbs b.natAbs (n + 2))
  by_cases hpar : n % 2 = 0
  · have m1 := okMul_wide (k := 402 * (n + 1 + 1)) g2 b1.1 (by omega) (by omega)
    have m2 := okMul_wide (k := 402 * (n + 1 + 1)) g2 b1.2 (by omega) (by omega)
    have hmod : ((n : Int) + 2) % 2 = 0 := by omega
    rw [if_pos hpar] at hw
    generalize Rw a.natAbs b.natAbs (n + 2) = w at hw hl hb
    generalize Rw a.natAbs b.natAbs (n + 1) = y at e1 m1 m2 hw
    generalize Rw a.natAbs b.natAbs n = z at e2 hw
    subst hw
    refine ⟨.int 0, .int b.natAbs, pr (stepR b.natAbs y z), ?_⟩
    rw [hb]
    by_cases hbig : GI < max (((stepR b.natAbs y z).1.natAbs : Nat) : Int) (((stepR b.natAbs y z).2.natAbs : Nat) : Int)
    · rw [decide_eq_true hbig, if_pos rfl]
      simp only [stepR] at hbig
      simp [wb1__law_rows, hlen, hmod, hp, ht, hr, e1, e2, m1, m2, sizeLine, hlt, stepR, pr, hbig]
    · rw [decide_eq_false hbig, if_neg Bool.false_ne_true, hl]
      simp only [stepR] at hbig
      simp [wb1__law_rows, hlen, hmod, hp, ht, hr, e1, e2, m1, m2, sizeLine, hlt, stepR, pr, hbig]
  · have m1 := okMul_wide (k := 402 * (n + 1 + 1)) g1 b1.1 (by omega) (by omega)
    have m2 := okMul_wide (k := 402 * (n + 1 + 1)) g1 b1.2 (by omega) (by omega)
    have hmod : ((n : Int) + 2) % 2 = 1 := by omega
    rw [if_neg hpar] at hw
    generalize Rw a.natAbs b.natAbs (n + 2) = w at hw hl hb
    generalize Rw a.natAbs b.natAbs (n + 1) = y at e1 m1 m2 hw
    generalize Rw a.natAbs b.natAbs n = z at e2 hw
    subst hw
    refine ⟨.int 1, .int a.natAbs, pr (stepR a.natAbs y z), ?_⟩
    rw [hb]
    by_cases hbig : GI < max (((stepR a.natAbs y z).1.natAbs : Nat) : Int) (((stepR a.natAbs y z).2.natAbs : Nat) : Int)
    · rw [decide_eq_true hbig, if_pos rfl]
      simp only [stepR] at hbig
      simp [wb1__law_rows, hlen, hmod, hp, ht, hr, e1, e2, m1, m2, sizeLine, hlt, stepR, pr, hbig]
    · rw [decide_eq_false hbig, if_neg Bool.false_ne_true, hl]
      simp only [stepR] at hbig
      simp [wb1__law_rows, hlen, hmod, hp, ht, hr, e1, e2, m1, m2, sizeLine, hlt, stepR, pr, hbig]
end Mr
end
section
set_option maxHeartbeats 2000000
set_option exponentiation.threshold 2000
namespace Mr
open PySem PySem.Spec L2 Eg
open PyProof.Rows hiding St
def noBig (A B : Int) (n : Nat) : Prop := ∀ k, k < n → bigR (Rw A B k) = false
theorem noBig2 (A B : Int) : noBig A B 2 := fun k hk => by
  match k, hk with
  | 0, _ => exact (show bigR ((-1, 0) : Int × Int) = false by decide)
  | 1, _ => exact (show bigR ((0, -1) : Int × Int) = false by decide)
theorem noBig_great {A B : Int} {n : Nat} (h : noBig A B n) : greatR A B n = false := by
  unfold greatR
  rw [List.any_eq_false]
  intro k hk
  rw [h k (List.mem_range.mp hk)]
  decide
theorem great_of {A B : Int} {n m : Nat} (h : bigR (Rw A B n) = true) (hn : n < m) : greatR A B m = true := by
  unfold greatR
  rw [List.any_eq_true]
  exact ⟨n, List.mem_range.mpr hn, h⟩
theorem rows_spec {a b : Int} {many : Nat} (ho : Ok2 a b) (hm : 2 ≤ many) (hm2 : many ≤ 60) : ∃ n : Nat, 2 ≤ n ∧ n ≤ many ∧ noBig a.natAbs b.natAbs n ∧ (n < many → bigR (Rw a.natAbs b.natAbs n) = true) ∧
    m__law_rows [.d (T2 a b), .d (.int many)] = .ok (.d (.tuple [.tuple (rowsD a.natAbs b.natAbs n), .int n]), [.no, .no]) := by
  have p : (10 : Nat) ^ 100 < 2 ^ 400 := by decide
  have h1 : a.natAbs < 2 ^ 400 := by have := ho.la; omega
  have h2 : b.natAbs < 2 ^ 400 := by have := ho.lb; omega
  let env : Nat → Sl → Sl → Sl → Eg.Env := fun n p t r => [.d (T2 a b), .d (.int many), .w (.l (rowsD a.natAbs b.natAbs n)), .d (.int GI), p, t, r, .no, .no]
  let P : Nat → Eg.Env → Prop := fun m γ => ∃ n p t r, γ = env (n + 2) p t r ∧ canSet p = true ∧ canSet t = true ∧ canSet r = true ∧ m = many - (n + 2) ∧ n + 2 ≤ many ∧ noBig a.natAbs b.natAbs (n + 2)
  let J : Eg.Env → Prop := fun γ => ∃ p t r, γ = env many p t r ∧ noBig a.natAbs b.natAbs many
  let Q : Sl → Eg.Env → Prop := fun r γ => ∃ n p t s, 2 ≤ n ∧ n < many ∧ noBig a.natAbs b.natAbs n ∧ bigR (Rw a.natAbs b.natAbs n) = true ∧ r = .d (.tuple [.tuple (rowsD a.natAbs b.natAbs n), .int n]) ∧ γ = env n p t s
  have step : ∀ (m : Nat) (γ : Eg.Env), P m γ → ∃ b γ1, wt1__law_rows γ = .ok b γ1 ∧ match b with
      | false => J γ1
      | true => 0 < m ∧ ∃ fl γ2, wb1__law_rows γ1 = .ok fl γ2 ∧ match fl with
        | .nx => P (m - 1) γ2
        | .ct => P (m - 1) γ2
        | .bk => J γ2
        | .rt r => Q r γ2 := by
    rintro m γ ⟨n, p, t, r, rfl, hp, ht, hr, rfl, hn, nb⟩
    by_cases hlt : n + 2 < many
    · obtain ⟨p', t', r', e⟩ := rows_body (many := many) hp ht hr h1 h2 (show n < 100 by omega)
      have ht : wt1__law_rows (env (n + 2) p t r) = .ok true (env (n + 2) p t r) := by
        have : (n : Int) + 2 < many := by omega
        simp [wt1__law_rows, env, rowsD_len, this]
      by_cases hb : bigR (Rw a.natAbs b.natAbs (n + 2)) = true
      · rw [if_pos hb] at e
        exact ⟨true, _, ht, by omega, _, _, e, n + 2, _, _, _, by omega, hlt, nb, hb, rfl, rfl⟩
      · rw [if_neg hb] at e
        refine ⟨true, _, ht, by omega, _, _, e, n + 1, _, _, _, rfl, rfl, rfl, rfl, by omega, by omega, fun k hk => ?_⟩
        by_cases hk2 : k < n + 2
        · exact nb k hk2
        · have : k = n + 2 := by omega
          subst this
          simpa using hb
    · have e : n + 2 = many := by omega
      have ht : wt1__law_rows (env (n + 2) p t r) = .ok false (env (n + 2) p t r) := by
        have : ¬ (n : Int) + 2 < many := by omega
        simp [wt1__law_rows, env, rowsD_len, this]
      exact ⟨false, _, ht, p, t, r, by rw [e], by rw [← e]; exact nb⟩
  have e2 : rowsD a.natAbs b.natAbs 2 = [.tuple [.int (-1), .int 0], .tuple [.int 0, .int (-1)]] := rfl
  have m1 : okMul 100000000000000000000000000000000000000000000000000 100000000000000000000000000000000000000000000000000 = true := by decide
  rcases while_inv P J Q step (many - 2) 1000000 (env 2 .no .no .no) (by omega) ⟨0, .no, .no, .no, rfl, rfl, rfl, rfl, rfl, hm, noBig2 _ _⟩ with ⟨γ', e, p', t', r', rfl, nb⟩ | ⟨r, γ', e, n, p', t', s', hn, hlt, nb, hb, rfl, rfl⟩
  · refine ⟨many, hm, Nat.le_refl _, nb, fun z => absurd z (Nat.lt_irrefl _), ?_⟩
    simp only [env] at e
    rw [e2] at e
    simp [m__law_rows, b__law_rows, sizeLine, m1, e]
  · refine ⟨n, hn, by omega, nb, fun _ => hb, ?_⟩
    simp only [env] at e
    rw [e2] at e
    simp [m__law_rows, b__law_rows, sizeLine, m1, e]
end Mr
end
section
set_option maxHeartbeats 2000000
set_option exponentiation.threshold 2000
namespace Mr
open PySem PySem.Spec L2 Eg
open PyProof.Rows hiding St
theorem word_told (d : D) : runT 2 b__law_word (.ok d) = .ok (.d (.str "told")) := rfl
theorem word_table : runT 2 b__law_word (.ex exTable) = .ok (.d (.str "table")) := by kernel_rfl
theorem word_number : runT 2 b__law_word (.ex exNumber) = .ok (.d (.str "number")) := by kernel_rfl
theorem word_great : runT 2 b__law_word (.ex exGreat) = .ok (.d (.str "great")) := by kernel_rfl
@[simp] theorem ev_thkS {mg : R D → R Sl} {frz : List Nat} {ft : Fn Sl} {γ : Eg.Env} : thkS mg frz ft γ = match mg (thR (ft (hideE (frzE frz γ)))) with
  | .ok s => .ok s (frzE frz γ)
  | .ex e => .ex e (frzE frz γ)
  | .bad => .bad := rfl
@[simp] theorem frzE_nil {γ : Eg.Env} : frzE [] γ = γ := rfl
@[simp] theorem frzE_cons {i : Nat} {l : List Nat} {γ : Eg.Env} : frzE (i :: l) γ = frzE l (match γ[i]? with
    | some (.w m) => γ.set i (.d m.data)
    | _ => γ) := rfl
@[simp] theorem hide_nil : hideE [] = [] := rfl
@[simp] theorem hide_cons {s : Sl} {γ : Eg.Env} : hideE (s :: γ) = hide1 s :: hideE γ := rfl
@[simp] theorem hide1_d {x : D} : hide1 (.d x) = .d x := rfl
@[simp] theorem hide1_no : hide1 .no = .no := rfl
@[simp] theorem hide1_w {x : Md} : hide1 (.w x) = .no := rfl
@[simp] theorem hide1_io {x : Md} : hide1 (.io x) = .no := rfl
@[simp] theorem thR_ex {e : Xn} {γ : Eg.Env} : thR (.ex e γ) = .ex e := rfl
/-! ### texts of rows -/
theorem small_log {i : Int} (h : i.natAbs ≤ GG) : i.natAbs.log2 < 1920 := by
  have : GG < 2 ^ 1000 := by decide
  have := log2_lt (n := i.natAbs) (k := 1000) (by omega) (by decide)
  omega
theorem rows_show {A B : Int} : ∀ n, noBig A B n → noDicts (rowsD A B n) = true ∧ PyData.showableAll (rowsD A B n) = true ∧ PyData.canLayAll0 (rowsD A B n) = true ∧ PyData.depthAll (rowsD A B n) ≤ 1 ∧ PyData.bulkAll (rowsD A B n) = 3 * n := by
  intro n hn
  have gen : ∀ l : List Nat, (∀ k ∈ l, k < n) → noDicts (l.map fun k => pr (Rw A B k)) = true ∧ PyData.showableAll (l.map fun k => pr (Rw A B k)) = true ∧ PyData.canLayAll0 (l.map fun k => pr (Rw A B k)) = true ∧ PyData.depthAll (l.map fun k => pr (Rw A B k)) ≤ 1 ∧ PyData.bulkAll (l.map fun k => pr (Rw A B k)) = 3 * l.length := by
    intro l
    induction l with
    | nil => intro _; exact ⟨rfl, rfl, rfl, Nat.zero_le _, rfl⟩
    | cons k l ih =>
      intro hl
      obtain ⟨i1, i2, i3, i4, i5⟩ := ih fun x hx => hl x (List.mem_cons_of_mem _ hx)
      have hb := hn k (hl k List.mem_cons_self)
      unfold bigR at hb
      simp only [Bool.or_eq_false_iff, decide_eq_false_iff_not, Nat.not_lt] at hb
      have s1 := small_log hb.1
      have s2 := small_log hb.2
      refine ⟨?_, ?_, ?_, ?_, ?_⟩
      · show (noDict (pr (Rw A B k)) && noDicts _) = true
        rw [i1]; rfl
      · simp only [List.map_cons, PyData.showableAll, PyData.showable, i2, Bool.and_true, decide_eq_true_eq, Bool.and_eq_true]
        exact ⟨s1, s2⟩
      · simp only [List.map_cons, PyData.canLayAll0, PyData.canLay0, i3, Bool.and_true]
      · simp only [List.map_cons, PyData.depthAll, PyData.depth]
        omega
      · simp only [List.map_cons, PyData.bulkAll, PyData.bulk, i5, List.length_cons]
        omega
  have := gen (List.range n) fun k hk => List.mem_range.mp hk
  rw [List.length_range] at this
  exact this
theorem shows_rows {A B : Int} {n : Nat} (h : noBig A B n) (hn : n ≤ 60) : Shows (.tuple (rowsD A B n)) := by
  obtain ⟨h1, h2, h3, h4, h5⟩ := rows_show n h
  refine ⟨h1, by simpa only [PyData.showable] using h2, by simpa only [PyData.canLay0] using h3, ?_, ?_⟩
  · simp only [PyData.depth]; omega
  · simp only [PyData.bulk]; omega
theorem shows_T2 {a b : Int} (h : Ok2 a b) : Shows (T2 a b) := by
  have s1 := small_log (i := a) (by have := h.la; have := hGG; omega)
  have s2 := small_log (i := b) (by have := h.lb; have := hGG; omega)
  refine ⟨rfl, ?_, rfl, by simp [PyData.depth, PyData.depthAll], by simp [PyData.bulk, PyData.bulkAll]⟩
  simp only [PyData.showable, PyData.showableAll, Bool.and_true, decide_eq_true_eq, Bool.and_eq_true]
  exact ⟨⟨by decide, s1⟩, s2, by decide⟩
theorem cut_rows {A B : Int} {n m : Nat} (h : m ≤ n) : Eg.cutD (rowsD A B n) none (some (m : Int)) = rowsD A B m := by
  rw [cut_front]
  unfold rowsD
  rw [← List.map_take, List.take_range]
  congr 2
  omega
theorem noBig_le {A B : Int} {n m : Nat} (h : noBig A B n) (hm : m ≤ n) : noBig A B m := fun k hk => h k (by omega)
/-! ### one number of letters -/
theorem right_body {a b : Int} {n : Nat} {hd : Md} {pd kp : D} {m : Nat} (ho : Ok2 a b) (hn : n ≤ 60) (nb : noBig a.natAbs b.natAbs n) (hbig : n < 60 → bigR (Rw a.natAbs b.natAbs n) = true) (h2 : 2 ≤ m) (h60 : m ≤ 60) :
    fb1__law_is_right [.io hd, .d (T2 a b), .d (.tuple (rowsD a.natAbs b.natAbs n)), .d (.int n), .d pd, .d kp, .d (.int m), .no, .no, .no, .no] = .ok .nx [.io hd, .d (T2 a b), .d (.tuple (rowsD a.natAbs b.natAbs n)), .d (.int n), .d pd, .d kp, .d (.int m), .no, .no, .no, .no] := by
  have e1 := two_rows_spec ho h60 h2
  by_cases hm : n < m
  · have g := great_of (hbig (by omega)) hm
    rw [g, if_pos rfl] at e1
    have lt : (n : Int) < m := by omega
    simp [fb1__law_is_right, lt, e1, word_great]
  · have nbm := noBig_le nb (show m ≤ n by omega)
    have g := noBig_great nbm
    rw [g, if_neg (by decide)] at e1
    have lt : ¬ (n : Int) < m := by omega
    have cut := cut_rows (A := a.natAbs) (B := b.natAbs) (show m ≤ n by omega)
    have sh := shows_rows nbm h60
    have e2 := is_spec sh sh
    simp [fb1__law_is_right, lt, e1, cut, e2]
end Mr
end
section
set_option maxHeartbeats 2000000
set_option exponentiation.threshold 2000
namespace Mr
open PySem PySem.Spec L2 Eg
open PyProof.Rows hiding St
/-! ### sums get greater -/
theorem grows {f : Nat → Int} {t : Nat → Int} {P : Int} (ht : ∀ n, t (n + 2) = t n) (tp : ∀ n, 0 ≤ t n) (hP : ∀ n, t n * t (n + 1) = P) (h4 : 4 ≤ P) (rec : ∀ n, f (n + 2) = max 0 (t n * f (n + 1)) - f n) {n0 : Nat}
    (h0 : 0 ≤ f n0) (h1 : 0 ≤ f (n0 + 1)) (h2 : f n0 < f (n0 + 2)) (h3 : f (n0 + 1) < f (n0 + 3)) : ∀ k, 0 ≤ f (n0 + k) ∧ 0 ≤ f (n0 + k + 1) ∧ f (n0 + k) < f (n0 + k + 2) ∧ f (n0 + k + 1) < f (n0 + k + 3) := by
  intro k
  induction k with
  | zero => exact ⟨h0, h1, h2, h3⟩
  | succ k ih =>
    obtain ⟨i0, i1, i2, i3⟩ := ih
    rw [show n0 + (k + 1) = n0 + k + 1 by omega]
    generalize n0 + k = n at i0 i1 i2 i3 ⊢
    show 0 ≤ f (n + 1) ∧ 0 ≤ f (n + 2) ∧ f (n + 1) < f (n + 3) ∧ f (n + 2) < f (n + 4)
    refine ⟨i1, by omega, i3, ?_⟩
    have r4 := rec (n + 2)
    have r3 := rec (n + 1)
    have r2 := rec n
    rw [ht n] at r4
    have p1 : 0 ≤ t n * f (n + 1) := Int.mul_nonneg (tp n) i1
    have p2 : 0 ≤ t (n + 1) * f (n + 2) := Int.mul_nonneg (tp _) (by omega)
    have p3 : 0 ≤ t n * f (n + 3) := Int.mul_nonneg (tp n) (by omega)
    rw [Int.max_eq_right p1] at r2
    rw [Int.max_eq_right p2] at r3
    have r4 : f (n + 4) = t n * f (n + 3) - f (n + 2) := by rw [Int.max_eq_right p3] at r4; exact r4
    have e : t n * f (n + 3) = P * f (n + 2) - t n * f (n + 1) := by
      have : f (n + 3) = t (n + 1) * f (n + 2) - f (n + 1) := r3
      rw [this, Int.mul_sub, ← Int.mul_assoc, hP]
    have q : 4 * f (n + 2) ≤ P * f (n + 2) := Int.mul_le_mul_of_nonneg_right h4 (by omega)
    omega
theorem sums_grow {A B : Int} (hA : 1 ≤ A) (hB : 1 ≤ B) (h : 4 ≤ A * B) (k : Nat) : (Rw A B (k + 2)).1 + (Rw A B (k + 2)).2 < (Rw A B (k + 4)).1 + (Rw A B (k + 4)).2 := by
  let t : Nat → Int := fun n => if n % 2 = 0 then B else A
  have ht : ∀ n, t (n + 2) = t n := fun n => by simp only [t]; rw [show (n + 2) % 2 = n % 2 by omega]
  have tp : ∀ n, 0 ≤ t n := fun n => by simp only [t]; split <;> omega
  have hP : ∀ n, t n * t (n + 1) = A * B := fun n => by
    simp only [t]
    by_cases h : n % 2 = 0
    · rw [if_pos h, if_neg (by omega), Int.mul_comm]
    · rw [if_neg h, if_pos (by omega)]
  have R2 : Rw A B 2 = (1, 0) := by
    show (max 0 (B * 0) - (-1), max 0 (B * (-1)) - 0) = ((1, 0) : Int × Int)
    rw [Int.mul_zero, Int.max_eq_left (by omega), Int.max_eq_left (by omega)]
    rfl
  have R3 : Rw A B 3 = (A, 1) := by
    rw [Rw_succ2 A B 1, R2]
    show (max 0 (A * 1) - 0, max 0 (A * 0) - (-1)) = ((A, 1) : Int × Int)
    rw [Int.mul_zero, Int.mul_one, Int.max_eq_right (by omega)]
    simp
  have R4 : Rw A B 4 = (A * B - 1, B) := by
    rw [Rw_succ2 A B 2, R3, R2]
    show (max 0 (B * A) - 1, max 0 (B * 1) - 0) = ((A * B - 1, B) : Int × Int)
    rw [Int.mul_one, Int.max_eq_right (show (0 : Int) ≤ B by omega), Int.mul_comm B A, Int.max_eq_right (by omega)]
    simp
  have R5 : Rw A B 5 = (A * (A * B - 1) - A, A * B - 1) := by
    rw [Rw_succ2 A B 3, R4, R3]
    show (max 0 (A * (A * B - 1)) - A, max 0 (A * B) - 1) = _
    rw [Int.max_eq_right (show (0 : Int) ≤ A * B by omega), Int.max_eq_right (Int.mul_nonneg (by omega) (by omega))]
  have e1 := grows (f := fun n => (Rw A B n).1) (t := t) ht tp hP h (fun n => by show (Rw A B (n + 2)).1 = _; rw [Rw_succ2]; rfl) (n0 := 2) (by show 0 ≤ (Rw A B 2).1; rw [R2]; decide) (by show 0 ≤ (Rw A B 3).1; rw [R3]; show 0 ≤ A; omega)
    (by show (Rw A B 2).1 < (Rw A B 4).1; rw [R2, R4]; show 1 < A * B - 1; omega)
    (by
      show (Rw A B 3).1 < (Rw A B 5).1
      rw [R3, R5]
      show A < A * (A * B - 1) - A
      have : A * 3 ≤ A * (A * B - 1) := Int.mul_le_mul_of_nonneg_left (by omega) (by omega)
      omega) k
  have e2 := grows (f := fun n => (Rw A B n).2) (t := t) ht tp hP h (fun n => by show (Rw A B (n + 2)).2 = _; rw [Rw_succ2]; rfl) (n0 := 2) (by show 0 ≤ (Rw A B 2).2; rw [R2]; decide) (by show 0 ≤ (Rw A B 3).2; rw [R3]; show (0 : Int) ≤ 1; decide)
    (by show (Rw A B 2).2 < (Rw A B 4).2; rw [R2, R4]; show 0 < B; omega)
    (by
      show (Rw A B 3).2 < (Rw A B 5).2
      rw [R3, R5]
      show 1 < A * B - 1
      omega) k
  have q1 := e1.2.2.1
  have q2 := e2.2.2.1
  rw [show 2 + k + 2 = k + 4 by omega, show 2 + k = k + 2 by omega] at q1 q2
  omega
/-! ### coming round -/
def backN : Nat → Nat
  | 0 => 4
  | 1 => 5
  | 2 => 6
  | _ => 8
theorem round_case {A B : Nat} (h : (A, B) = (0, 0) ∨ (A, B) = (1, 1) ∨ (A, B) = (1, 2) ∨ (A, B) = (2, 1) ∨ (A, B) = (1, 3) ∨ (A, B) = (3, 1)) : (∀ k, k < 60 → bigR (Rw A B k) = false) ∧ ((List.range 60).map (Rw (A : Int) (B : Int))).drop (backN (A * B)) = (List.range (60 - backN (A * B))).map (Rw A B) := by
  rcases h with h | h | h | h | h | h <;> (cases h; exact ⟨by decide +kernel, by decide +kernel⟩)
theorem pairs_of {A B : Nat} (h : A * B < 4) (hz : A = 0 ↔ B = 0) : (A, B) = (0, 0) ∨ (A, B) = (1, 1) ∨ (A, B) = (1, 2) ∨ (A, B) = (2, 1) ∨ (A, B) = (1, 3) ∨ (A, B) = (3, 1) := by
  by_cases h0 : A = 0
  · have := hz.mp h0; subst h0 this; exact .inl rfl
  · have hB : B ≠ 0 := fun z => h0 (hz.mpr z)
    have a4 : A < 4 := by
      have : A * 1 ≤ A * B := Nat.mul_le_mul_left A (by omega)
      omega
    have b4 : B < 4 := by
      have : 1 * B ≤ A * B := Nat.mul_le_mul_right B (by omega)
      omega
    match A, a4, h0, B, b4, hB, h with
    | 1, _, _, 1, _, _, _ => simp
    | 1, _, _, 2, _, _, _ => simp
    | 1, _, _, 3, _, _, _ => simp
    | 2, _, _, 1, _, _, _ => simp
    | 2, _, _, 2, _, _, h => omega
    | 2, _, _, 3, _, _, h => omega
    | 3, _, _, 1, _, _, _ => simp
    | 3, _, _, 2, _, _, h => omega
    | 3, _, _, 3, _, _, h => omega
end Mr
end
section
set_option maxHeartbeats 4000000
set_option exponentiation.threshold 2000
namespace Mr
open PySem PySem.Spec L2 Eg
open PyProof.Rows hiding St
theorem right_bodyI {a b : Int} {n : Nat} {hd : Md} {pd kp : D} {m : Int} (ho : Ok2 a b) (hn : n ≤ 60) (nb : noBig a.natAbs b.natAbs n) (hbig : n < 60 → bigR (Rw a.natAbs b.natAbs n) = true) (h2 : 2 ≤ m) (h60 : m ≤ 60) :
    fb1__law_is_right [.io hd, .d (T2 a b), .d (.tuple (rowsD a.natAbs b.natAbs n)), .d (.int n), .d pd, .d kp, .d (.int m), .no, .no, .no, .no] = .ok .nx [.io hd, .d (T2 a b), .d (.tuple (rowsD a.natAbs b.natAbs n)), .d (.int n), .d pd, .d kp, .d (.int m), .no, .no, .no, .no] := by
  obtain ⟨k, rfl⟩ : ∃ k : Nat, m = k := ⟨m.toNat, by omega⟩
  exact right_body ho hn nb hbig (by omega) (by omega)
theorem cut_back {α : Type} {xs : List α} {n : Nat} : Eg.cutD xs (some (n : Int)) none = xs.drop n := by
  unfold Eg.cutD
  rw [HT.sIx_nat, HT.sIx_none]
  rw [List.take_of_length_le (by rw [List.length_drop]; omega)]
  by_cases h : n ≤ xs.length
  · rw [Nat.min_eq_left h]
  · rw [Nat.min_eq_right (by omega), List.drop_eq_nil_of_le (by omega), List.drop_eq_nil_of_le (by omega)]
theorem shows_eqok {d : D} (h : Shows d) : okEq d = true := by
  unfold okEq
  rw [h.nd]
  unfold SeqAt.shaped
  rw [h.lay, decide_eq_true h.dp]
  rfl
theorem shows_self {d : D} (h : Shows d) : eqD d d = .ok (.d (.bool true)) := by
  rw [eqD_ok (shows_eqok h) (shows_eqok h), eqv_self d h.nd]
/-- behind p rows they are the same -/
theorem round_rows {A B : Nat} (h : A * B < 4) (hz : A = 0 ↔ B = 0) : (∀ k, k < 60 → bigR (Rw A B k) = false) ∧ Eg.cutD (rowsD A B 60) (some (backN (A * B) : Nat)) none = rowsD A B (60 - backN (A * B)) := by
  obtain ⟨h1, h2⟩ := round_case (pairs_of h hz)
  refine ⟨h1, ?_⟩
  rw [cut_back]
  have e : ∀ n, rowsD A B n = ((List.range n).map (Rw (A : Int) (B : Int))).map pr := fun n => by unfold rowsD; rw [List.map_map]; rfl
  rw [e, e, ← List.map_drop, h2]
def sumP (A B : Int) (k : Nat) : Int := (Rw A B k).1 + (Rw A B k).2
theorem sums_eval {A B : Int} {n : Nat} (hn : n ≤ 60) {s0 s1 s3 s4 s5 s6 s7 : Sl} : lcS [9] (seqSrc (deS (nameS 2))) (tgN 9) yesB (deS (callP sumD (consF (opN 9) nilF))) [s0, s1, .d (.tuple (rowsD A B n)), s3, s4, s5, s6, s7, .no, .no, .no] =
    .ok (.w (.l ((List.range n).map fun k => PyData.int (sumP A B k)))) [s0, s1, .d (.tuple (rowsD A B n)), s3, s4, s5, s6, s7, .no, .no, .no] := by
  have e := lcS_map (vs := [9]) (src := seqSrc (deS (nameS 2))) (t := tgN 9) (te := deS (callP sumD (consF (opN 9) nilF))) (γs := [s0, s1, .d (.tuple (rowsD A B n)), s3, s4, s5, s6, s7, .no, .no, .no]) (γ := [s0, s1, .d (.tuple (rowsD A B n)), s3, s4, s5, s6, s7, .no, .no, .no]) (ds := rowsD A B n)
    (fun d => [s0, s1, .d (.tuple (rowsD A B n)), s3, s4, s5, s6, s7, .no, .d d, .no]) (fun d => match d with
      | .tuple [.int x, .int y] => .int (x + y)
      | d => d) rfl (by rw [rowsD_len]; unfold sizeLine; omega) rfl rfl fun d hd => by
      obtain ⟨k, _, rfl⟩ := List.mem_map.mp hd
      refine ⟨rfl, rfl, rfl, rfl, ?_⟩
      simp
  rw [e]
  unfold rowsD
  rw [List.map_map]
  rfl
theorem atI_range {n : Nat} {f : Nat → D} {i : Nat} (h : i < n) : atI ((List.range n).map f) (i : Int) = some (f i) := by
  unfold atI ixN
  rw [if_pos (by omega), if_pos (by rw [List.length_map, List.length_range]; omega)]
  simp [h]
theorem alls_eval {A B : Int} {n : Nat} (hn : n ≤ 60) (hn2 : 2 ≤ n) (hs : ∀ k, sumP A B (k + 2) < sumP A B (k + 4)) {s0 s1 s2 s4 s5 s6 s7 : Sl} : lcS [10] (rngSrc rng2 (consF (pureD (.int 2)) (consF (deS (op2 subD (opN 3) (opD (pureD (.int 2))))) nilF))) (tgN 10) yesB (deS (op2 ltD (opD (deS (op2 ixD (opN 8) (opN 10)))) (opD (deS (op2 ixD (opN 8) (opD (deS (op2 addD (opN 10) (opD (pureD (.int 2)))))))))))
      [s0, s1, s2, .d (.int n), s4, s5, s6, s7, .w (.l ((List.range n).map fun k => PyData.int (sumP A B k))), .no, .no] =
    .ok (.w (.l ((List.replicate (n - 4) true).map PyData.bool))) [s0, s1, s2, .d (.int n), s4, s5, s6, s7, .w (.l ((List.range n).map fun k => PyData.int (sumP A B k))), .no, .no] := by
  have kr : okR ((n : Int) - 2) = true := decide_eq_true (by omega)
  have e := lcS_map (vs := [10]) (src := rngSrc rng2 (consF (pureD (.int 2)) (consF (deS (op2 subD (opN 3) (opD (pureD (.int 2))))) nilF))) (t := tgN 10) (te := deS (op2 ltD (opD (deS (op2 ixD (opN 8) (opN 10)))) (opD (deS (op2 ixD (opN 8) (opD (deS (op2 addD (opN 10) (opD (pureD (.int 2)))))))))))
    (γs := [s0, s1, s2, .d (.int n), s4, s5, s6, s7, .w (.l ((List.range n).map fun k => PyData.int (sumP A B k))), .no, .no]) (γ := [s0, s1, s2, .d (.int n), s4, s5, s6, s7, .w (.l ((List.range n).map fun k => PyData.int (sumP A B k))), .no, .no]) (ds := upto 2 (n - 4))
    (fun d => [s0, s1, s2, .d (.int n), s4, s5, s6, s7, .w (.l ((List.range n).map fun k => PyData.int (sumP A B k))), .no, .d d]) (fun _ => .bool true)
    (by
      have : ((n : Int) - 2 - 2).toNat = n - 4 := by omega
      have k2 : okR 2 = true := by decide
      simp [kr, k2, this])
    (by unfold upto; simp; unfold sizeLine; omega) rfl rfl fun d hd => by
      obtain ⟨k, hk, rfl⟩ := List.mem_map.mp hd
      have hk := List.mem_range.mp hk
      refine ⟨rfl, rfl, rfl, rfl, ?_⟩
      have a1 : atI ((List.range n).map fun k => PyData.int (sumP A B k)) (2 + (k : Int)) = some (.int (sumP A B (k + 2))) := by
        have := atI_range (n := n) (f := fun k => PyData.int (sumP A B k)) (i := k + 2) (by omega)
        rw [show (2 : Int) + (k : Int) = ((k + 2 : Nat) : Int) by omega]
        exact this
      have a2 : atI ((List.range n).map fun k => PyData.int (sumP A B k)) (2 + (k : Int) + 2) = some (.int (sumP A B (k + 4))) := by
        have := atI_range (n := n) (f := fun k => PyData.int (sumP A B k)) (i := k + 4) (by omega)
        rw [show (2 : Int) + (k : Int) + 2 = ((k + 4 : Nat) : Int) by omega]
        exact this
      have := hs k
      simp [a1, a2, this]
  have er : (upto 2 (n - 4)).map (fun _ => PyData.bool true) = (List.replicate (n - 4) true).map PyData.bool := by
    unfold upto
    rw [List.map_map, List.map_replicate]
    exact List.map_eq_replicate_iff.mpr (fun _ _ => rfl) |>.trans (by rw [List.length_range])
  rw [e, er]
theorem at4 {P : Nat} (h : P < 4) : atI [PyData.int 4, .int 5, .int 6, .int 8] (P : Int) = some (.int ((backN P : Nat) : Int)) := by
  match P, h with
  | 0, _ => rfl
  | 1, _ => rfl
  | 2, _ => rfl
  | 3, _ => rfl
theorem backN_le (P : Nat) : backN P ≤ 8 := by unfold backN; split <;> omega
theorem c2_of {A B : Int} {P n : Nat} (hn : n = 60) : Eg.cutD (rowsD A B n) none (some (60 - ((backN P : Nat) : Int))) = rowsD A B (n - backN P) := by
  subst hn
  have := backN_le P
  have e : ((60 - backN P : Nat) : Int) = 60 - ((backN P : Nat) : Int) := by omega
  rw [← e]
  exact cut_rows (by omega)
theorem zero_iff {a b : Int} (ho : Ok2 a b) : a.natAbs = 0 ↔ b.natAbs = 0 := by
  constructor
  · intro z
    have : a = 0 := by omega
    subst this
    have hs := ho.sg
    have : b.sign = 0 := by simp at hs; simpa using hs.symm
    have := Int.sign_eq_zero_iff_zero.mp this
    omega
  · intro z
    have : b = 0 := by omega
    subst this
    have hs := ho.sg
    have : a.sign = 0 := by simpa using hs
    have := Int.sign_eq_zero_iff_zero.mp this
    omega
theorem is_right_spec {a b : Int} (h : Hand) (hp : 0 ≤ h.p) (ho : Ok2 a b) : ∃ h' : Hand, m__law_is_right [.io h.sl, .d (T2 a b)] = .ok (.d (.bool true), [.io h'.sl, .no]) ∧ 0 ≤ h'.p := by
  obtain ⟨n, n2, n60, nb, hbig, e1⟩ := rows_spec ho (show 2 ≤ 60 by decide) (Nat.le_refl _)
  have e1 : m__law_rows [.d (T2 a b), .d (.int 60)] = .ok (.d (.tuple [.tuple (rowsD a.natAbs b.natAbs n), .int n]), [.no, .no]) := e1
  obtain ⟨r, h1, e2, r0, r1, p1⟩ := draw_spec h 59 hp (by decide) (by decide)
  refine ⟨h1, ?_, p1⟩
  have sh := shows_T2 ho
  have e3 := sh.repr
  have p : (10 : Nat) ^ 100 < 2 ^ 400 := by decide
  have m1 : okMul a b = true := okMul_wide (k := 400) (by have := ho.la; omega) (by have := ho.lb; omega) (by decide) (by decide)
  have bd : ∀ (m : Int), 2 ≤ m → m ≤ 60 → _ := fun m q1 q2 => right_bodyI (hd := h1.sl) (pd := .int ((a * b).natAbs : Int)) (kp := .str (T2 a b).shown) ho n60 nb hbig q1 q2
  have b1 := bd 2 (by decide) (by decide)
  have b2 := bd 3 (by decide) (by decide)
  have b3 := bd 60 (by decide) (by decide)
  have b4 := bd n (by omega) (by omega)
  have b5 := bd (min 60 (n + 1)) (by omega) (by omega)
  have b6 := bd (2 + r) (by omega) (by omega)
  by_cases hlt : (a * b).natAbs < 4
  · -- they come round
    have hm : a.natAbs * b.natAbs < 4 := by rw [← Int.natAbs_mul]; exact hlt
    have hz := zero_iff ho
    obtain ⟨q1, q2⟩ := round_rows hm hz
    have hn : n = 60 := by
      by_cases h : n < 60
      · have := hbig h
        rw [q1 n h] at this
        cases this
      · omega
    have eab : (a * b).natAbs = a.natAbs * b.natAbs := Int.natAbs_mul a b
    rw [← eab] at q2
    have bk := backN_le (a * b).natAbs
    have eqY := shows_self (shows_rows (noBig_le nb (show n - backN (a * b).natAbs ≤ n by omega)) (by omega))
    have c2 := c2_of (A := a.natAbs) (B := b.natAbs) (P := (a * b).natAbs) hn
    have a4 := at4 hlt
    have lt4 : ((a * b).natAbs : Int) < 4 := by omega
    rw [← hn] at q2
    clear q1 hm hz bk eab
    generalize hP : (a * b).natAbs = P at q2 eqY c2 a4 lt4 b1 b2 b3 b4 b5 b6
    simp [m__law_is_right, b__law_is_right, sizeLine, e1, e2, e3, m1, hP, b1, b2, b3, b4, b5, b6, lt4, a4, q2, c2, eqY]
  · have ge4 : ¬ (((a * b).natAbs : Int) < 4) := by omega
    have eab : (a * b).natAbs = a.natAbs * b.natAbs := Int.natAbs_mul a b
    have hs : ∀ k, sumP a.natAbs b.natAbs (k + 2) < sumP a.natAbs b.natAbs (k + 4) := by
      have h4 : 4 ≤ a.natAbs * b.natAbs := by omega
      have ha : 1 ≤ a.natAbs := by
        by_cases z : a.natAbs = 0
        · rw [z] at h4; omega
        · omega
      have hb : 1 ≤ b.natAbs := by
        by_cases z : b.natAbs = 0
        · rw [z] at h4; omega
        · omega
      exact sums_grow (by omega) (by omega) (by rw [← Int.natCast_mul]; omega)
    have s1 := fun s0 s1 s3 s4 s5 s6 s7 => sums_eval (A := a.natAbs) (B := b.natAbs) n60 (s0 := s0) (s1 := s1) (s3 := s3) (s4 := s4) (s5 := s5) (s6 := s6) (s7 := s7)
    have s2 := fun s0 s1 s2 s4 s5 s6 s7 => alls_eval (A := a.natAbs) (B := b.natAbs) n60 n2 hs (s0 := s0) (s1 := s1) (s2 := s2) (s4 := s4) (s5 := s5) (s6 := s6) (s7 := s7)
    have rep : boolsOf (List.replicate (n - 4) (PyData.bool true)) = some (List.replicate (n - 4) true) := by
      have := boolsOf_map (List.replicate (n - 4) true)
      rw [List.map_replicate] at this
      exact this
    generalize hP : (a * b).natAbs = P at *
    simp [m__law_is_right, b__law_is_right, sizeLine, -ev_lcS, e1, e2, e3, m1, hP, b1, b2, b3, b4, b5, b6, ge4, s1, s2, rep]
end Mr
end
section
set_option maxHeartbeats 4000000
set_option exponentiation.threshold 2000
namespace Mr
open PySem PySem.Spec L2 Eg
open PyProof.Rows hiding St
abbrev bads : List D := [.none, .tuple [], .tuple [.tuple [.int 0]], .tuple [.tuple [.int 0, .int 1], .tuple [.int 1, .int 0]], .tuple [.tuple [.int 0, .int 1, .int 0], .tuple [.int (-1), .int 0, .int 1], .tuple [.int 0, .int (-1), .int 0]], .list [.tuple [.int 0, .int 1], .tuple [.int (-1), .int 0]], .tuple [.tuple [.int 1, .int 0], .tuple [.int 0, .int 0]], .int 5]
abbrev fars : List D := [.int 1, .int 61, .int (-1), .bool true, .none, .str "2", .tuple [.int 2]]
theorem bad_of {bad : D} (h : bad ∈ bads) (far : D) : m_two_rows [.d bad, .d far] = .ex exTable := by
  have e0 : m_need_table [.d .none] = .ex exTable := by kernel_rfl
  have e1 : m_need_table [.d (.tuple [])] = .ex exTable := by kernel_rfl
  have e2 : m_need_table [.d (.tuple [.tuple [.int 0]])] = .ok (.d .none, [.no]) := by kernel_rfl
  have e3 : m_need_table [.d (.tuple [.tuple [.int 0, .int 1], .tuple [.int 1, .int 0]])] = .ex exTable := by kernel_rfl
  have e4 : m_need_table [.d (.tuple [.tuple [.int 0, .int 1, .int 0], .tuple [.int (-1), .int 0, .int 1], .tuple [.int 0, .int (-1), .int 0]])] = .ok (.d .none, [.no]) := by kernel_rfl
  have e5 : m_need_table [.d (.list [.tuple [.int 0, .int 1], .tuple [.int (-1), .int 0]])] = .ex exTable := by kernel_rfl
  have e6 : m_need_table [.d (.tuple [.tuple [.int 1, .int 0], .tuple [.int 0, .int 0]])] = .ex exTable := by kernel_rfl
  have e7 : m_need_table [.d (.int 5)] = .ex exTable := by kernel_rfl
  simp only [bads, List.mem_cons, List.not_mem_nil, or_false] at h
  rcases h with rfl | rfl | rfl | rfl | rfl | rfl | rfl | rfl
  · simp [m_two_rows, b_two_rows, e0]
  · simp [m_two_rows, b_two_rows, e1]
  · simp [m_two_rows, b_two_rows, e2]
  · simp [m_two_rows, b_two_rows, e3]
  · simp [m_two_rows, b_two_rows, e4]
  · simp [m_two_rows, b_two_rows, e5]
  · simp [m_two_rows, b_two_rows, e6]
  · simp [m_two_rows, b_two_rows, e7]
theorem far_of {a b : Int} (ho : Ok2 a b) {far : D} (h : far ∈ fars) : m_two_rows [.d (T2 a b), .d far] = .ex exNumber := by
  have e : m_is_between [.d far, .d (.int 2), .d (.int 60)] = .ok (.d (.bool false), [.no, .no, .no]) := by
    simp only [fars, List.mem_cons, List.not_mem_nil, or_false] at h
    rcases h with rfl | rfl | rfl | rfl | rfl | rfl | rfl <;> rfl
  have e1 := need2 ho
  simp [m_two_rows, b_two_rows, e1, e]
theorem words_eq : eqD (.list [.str "table", .str "number"]) (.list [.str "table", .str "number"]) = .ok (.d (.bool true)) := by
  have h : okEq (.list [.str "table", .str "number"]) = true := by decide +kernel
  rw [eqD_ok h h, eqv_self _ (by decide)]
theorem refused_spec {a b : Int} (h : Hand) (hp : 0 ≤ h.p) (ho : Ok2 a b) : ∃ h' : Hand, m__law_are_refused [.io h.sl, .d (T2 a b)] = .ok (.d (.bool true), [.io h'.sl, .no]) ∧ 0 ≤ h'.p := by
  obtain ⟨bad, h1, hb, e1, p1⟩ := any_io h bads hp (by decide) (by decide)
  obtain ⟨far, h2, hf, e2, p2⟩ := any_d h1 fars p1 (by decide) (by decide)
  have e3 := bad_of hb far
  have e4 := far_of ho hf
  refine ⟨h2, ?_, p2⟩
  simp only [bads] at e1
  simp only [fars] at e2
  simp [m__law_are_refused, b__law_are_refused, sizeLine, e1, e2, e3, e4, word_table, word_number, words_eq]
abbrev dueD : D := .tuple [.tuple [.int (-1), .int 0], .tuple [.int 0, .int (-1)], .tuple [.int 1, .int 0], .tuple [.int 1, .int 1], .tuple [.int 0, .int 1], .tuple [.int (-1), .int 0], .tuple [.int 0, .int (-1)]]
theorem law_true : ∀ ns : List Int, ns.length ≤ 63 → ∃ outs, m_law [.scr ns] = .ok (.d (.bool true), outs) := by
  intro ns hl
  obtain ⟨h, e1, p1⟩ := hand_spec ns hl
  have o1 : Ok2 1 (-1) := ⟨by decide, by decide, by decide⟩
  have e2 : m_two_rows [.d (T2 1 (-1)), .d (.int 7)] = .ok (.d dueD, [.no, .no]) := by
    have := two_rows_spec (many := 7) o1 (by decide) (by decide)
    rw [show greatR ((1 : Int).natAbs : Int) ((-1 : Int).natAbs : Int) 7 = false from by decide +kernel, if_neg (by decide)] at this
    exact this
  have shd : Shows dueD := ⟨rfl, by simp [PyData.showable, PyData.showableAll]; decide, rfl, by simp [PyData.depth, PyData.depthAll], by simp [PyData.bulk, PyData.bulkAll]⟩
  have e3 := is_spec shd shd
  have e4 : m__law_rows [.d (T2 3 (-2)), .d (.int 4)] = .ok (.d (.tuple [.tuple [.tuple [.int (-1), .int 0], .tuple [.int 0, .int (-1)], .tuple [.int 1, .int 0], .tuple [.int 3, .int 1]], .int 4]), [.no, .no]) := by kernel_rfl
  have e5 : Eg.cutD [PyData.tuple [.int (-1), .int 0], .tuple [.int 0, .int (-1)], .tuple [.int 1, .int 0], .tuple [.int 3, .int 1]] (some 2) none = [PyData.tuple [.int 1, .int 0], .tuple [.int 3, .int 1]] := rfl
  have e6 : neD (.tuple [.tuple [.int 1, .int 0], .tuple [.int 3, .int 1]]) (.tuple [.tuple [.int 1, .int 0], .tuple [.int 3, .int 1]]) = .ok (.d (.bool false)) := by
    have h : okEq (.tuple [.tuple [.int 1, .int 0], .tuple [.int 3, .int 1]]) = true := by decide +kernel
    rw [neD_ok h h, eqv_self _ (by decide)]
    rfl
  obtain ⟨γ', e7, h', st, tb, rfl, _⟩ := forL_run (t := tgN 3) (f := fb1_law) (fun _ γ => ∃ (h : Hand) (st tb : Sl), γ = [.no, .w h.sl, .d dueD, st, tb] ∧ canSet st = true ∧ canSet tb = true ∧ 0 ≤ h.p) (upto 0 10) [.no, .w h.sl, .d dueD, .no, .no] ⟨h, .no, .no, rfl, rfl, rfl, p1⟩ (by
    rintro j d γ hj ⟨h, st, tb, rfl, c1, c2, p⟩
    obtain ⟨a, b, h1, f1, p1, ho⟩ := drawn_spec h p
    obtain ⟨h2, f2, p2⟩ := is_right_spec h1 p1 ho
    obtain ⟨h3, f3, p3⟩ := refused_spec h2 p2 ho
    exact ⟨[.no, .w h.sl, .d dueD, .d d, tb], [.no, .w h3.sl, .d dueD, .d d, .d (T2 a b)], by simp [c1], by simp [fb1_law, f1, f2, f3, c2], h3, .d d, .d (T2 a b), rfl, rfl, rfl, p3⟩)
  have kr : okR 10 = true := by decide
  have atr : ∀ x y : D, atI [x, y] 0 = some x := fun _ _ => rfl
  have ol : outsOf [Sl.scr ns] [.no, .w h'.sl, .d dueD, st, tb] = [.no] := rfl
  refine ⟨[.no], ?_⟩
  simp [m_law, b_law, sizeLine, e1, e2, e3, e4, e5, e6, kr]
  rw [e7]
  simp [ol]
end Mr
end
section
set_option maxHeartbeats 0
/-! the end, printed by gen.py -/
namespace Lw
open PySem PySem.Spec PyProof.Rows L2 Eg Mr
theorem tg_NoNumber {K : PySem.W.Frag} {mg : Str → Option Value} {h : Heap} (c : He.SaysD fa fn K) (X : K.In h) (G : h.Ns mainGlobals mg) : ∀ q ∈ tt_NoNumber, mg q.1 = some (.ref (He.ga K q.1)) := by
  intro q hq
  simp only [tt_NoNumber, List.mem_cons, List.not_mem_nil, or_false] at hq
  rcases hq with rfl | rfl | rfl | rfl
  · exact He.glo_ok X G (c.fact 29)
  · exact He.glo_ok X G (c.fact 30)
  · exact He.glo_ok X G (c.fact 31)
  · exact He.glo_ok X G (c.fact 32)
theorem tg_NoTable {K : PySem.W.Frag} {mg : Str → Option Value} {h : Heap} (c : He.SaysD fa fn K) (X : K.In h) (G : h.Ns mainGlobals mg) : ∀ q ∈ tt_NoTable, mg q.1 = some (.ref (He.ga K q.1)) := by
  intro q hq
  simp only [tt_NoTable, List.mem_cons, List.not_mem_nil, or_false] at hq
  rcases hq with rfl | rfl | rfl | rfl
  · exact He.glo_ok X G (c.fact 29)
  · exact He.glo_ok X G (c.fact 30)
  · exact He.glo_ok X G (c.fact 31)
  · exact He.glo_ok X G (c.fact 32)
theorem tg_SeedError {K : PySem.W.Frag} {mg : Str → Option Value} {h : Heap} (c : He.SaysD fa fn K) (X : K.In h) (G : h.Ns mainGlobals mg) : ∀ q ∈ tt_SeedError, mg q.1 = some (.ref (He.ga K q.1)) := by
  intro q hq
  simp only [tt_SeedError, List.mem_cons, List.not_mem_nil, or_false] at hq
  rcases hq with rfl | rfl | rfl | rfl
  · exact He.glo_ok X G (c.fact 29)
  · exact He.glo_ok X G (c.fact 30)
  · exact He.glo_ok X G (c.fact 31)
  · exact He.glo_ok X G (c.fact 32)
theorem tg_TooGreat {K : PySem.W.Frag} {mg : Str → Option Value} {h : Heap} (c : He.SaysD fa fn K) (X : K.In h) (G : h.Ns mainGlobals mg) : ∀ q ∈ tt_TooGreat, mg q.1 = some (.ref (He.ga K q.1)) := by
  intro q hq
  simp only [tt_TooGreat, List.mem_cons, List.not_mem_nil, or_false] at hq
  rcases hq with rfl | rfl | rfl | rfl
  · exact He.glo_ok X G (c.fact 29)
  · exact He.glo_ok X G (c.fact 30)
  · exact He.glo_ok X G (c.fact 31)
  · exact He.glo_ok X G (c.fact 32)
theorem tx_of {K : PySem.W.Frag} {mg : Str → Option Value} {h : Heap} (c : He.SaysD fa fn K) (m : ex K = true) (X : K.In h) (G : h.Ns mainGlobals mg) : Tx K mg := by
  unfold ex at m
  simp only [Bool.and_eq_true] at m
  exact {
    g_GREATEST := He.int_ok X G (c.fact 50)
    g_MOST_PLACES := He.int_ok X G (c.fact 49)
    g_MOST_STEPS := He.int_ok X G (c.fact 51)
    g_NoNumber := ⟨He.glo_ok X G (c.fact 32), (He.exc_ok (c.fact 55)).1, (He.exc_ok (c.fact 55)).2.1, (He.exc_ok (c.fact 55)).2.2.1, (He.exc_ok (c.fact 55)).2.2.2⟩
    g_NoTable := ⟨He.glo_ok X G (c.fact 30), (He.exc_ok (c.fact 53)).1, (He.exc_ok (c.fact 53)).2.1, (He.exc_ok (c.fact 53)).2.2.1, (He.exc_ok (c.fact 53)).2.2.2⟩
    g_TooGreat := ⟨He.glo_ok X G (c.fact 31), (He.exc_ok (c.fact 54)).1, (He.exc_ok (c.fact 54)).2.1, (He.exc_ok (c.fact 54)).2.2.1, (He.exc_ok (c.fact 54)).2.2.2⟩
    g_abs := He.free_ok X G (c.fact 34)
    g_all := He.free_ok X G (c.fact 35)
    g_any := He.free_ok X G (c.fact 36)
    g_bool := He.free_ok X G (c.fact 37)
    g_gcd := PySem.W.mg_of X G (He.eqO_ok m.1)
    g_int := He.free_ok X G (c.fact 38)
    g_isinstance := He.free_ok X G (c.fact 39)
    g_len := He.free_ok X G (c.fact 40)
    g_max := He.free_ok X G (c.fact 41)
    g_min := He.free_ok X G (c.fact 42)
    g_range := He.free_ok X G (c.fact 43)
    g_repr := He.free_ok X G (c.fact 44)
    g_sorted := He.free_ok X G (c.fact 45)
    g_sum := He.free_ok X G (c.fact 46)
    g_tuple := He.free_ok X G (c.fact 47)
    g_zip := He.free_ok X G (c.fact 48)
    gc_NoNumber := He.glo_ok X G (c.fact 32)
    gc_NoTable := He.glo_ok X G (c.fact 30)
    gc_SeedError := He.glo_ok X G (c.fact 29)
    gc_TooGreat := He.glo_ok X G (c.fact 31)
    te_SeedError := te_of (tg_SeedError c X G) m.2.1
    ie_NoNumber := ie_of (tg_NoNumber c X G) m.2.2.1
    ie_NoTable := ie_of (tg_NoTable c X G) m.2.2.2.1
    ie_TooGreat := ie_of (tg_TooGreat c X G) m.2.2.2.2.1
    f_is_integer := He.glo_ok X G (c.fact 0)
    f_is_between := He.glo_ok X G (c.fact 1)
    f_is_tuple_of := He.glo_ok X G (c.fact 2)
    f_are_integers := He.glo_ok X G (c.fact 3)
    f_sign_of := He.glo_ok X G (c.fact 4)
    f_is_grid := He.glo_ok X G (c.fact 5)
    f_wrong_pair := He.glo_ok X G (c.fact 6)
    f_places_beside := He.glo_ok X G (c.fact 7)
    f_lowest := He.glo_ok X G (c.fact 8)
    f_spread_from := He.glo_ok X G (c.fact 9)
    f_way_back := He.glo_ok X G (c.fact 10)
    f_ring_between := He.glo_ok X G (c.fact 11)
    f_unlike_pair := He.glo_ok X G (c.fact 12)
    f_scaled := He.glo_ok X G (c.fact 13)
    f_evened := He.glo_ok X G (c.fact 14)
    f_is_table := He.glo_ok X G (c.fact 15)
    f_need_table := He.glo_ok X G (c.fact 16)
    f_two_rows_of := He.glo_ok X G (c.fact 17)
    f_two_rows := He.glo_ok X G (c.fact 18)
    f__law_hand := He.glo_ok X G (c.fact 19)
    f__law_draw := He.glo_ok X G (c.fact 20)
    f__law_any := He.glo_ok X G (c.fact 21)
    f__law_is := He.glo_ok X G (c.fact 22)
    f__law_drawn := He.glo_ok X G (c.fact 23)
    f__law_rows := He.glo_ok X G (c.fact 24)
    f__law_word := He.glo_ok X G (c.fact 25)
    f__law_is_right := He.glo_ok X G (c.fact 26)
    f__law_are_refused := He.glo_ok X G (c.fact 27)
    f_law := He.glo_ok X G (c.fact 28)
  }
theorem nd_of {K : PySem.W.Frag} (m : ex K = true) : (tf.map fun p => (He.cT K p).2).Nodup := by
  unfold ex at m
  simp only [Bool.and_eq_true, decide_eq_true_eq] at m
  exact m.2.2.2.2.2
theorem tb_of {K : PySem.W.Frag} {mg : Str → Option Value} {base : Heap} (m : ex K = true) (tabs : ∀ q ∈ tf.map (He.cT K), LamX.TabB base mg q.1 q.2) {f : Str} (hf : (f, none) ∈ tf) (ht : ∀ p ∈ tf, p.2 = none) : Tb K mg base (tf.map fun p => ((He.cT K p).2, p.1 ++ ".<locals>." ++ "<lambda>")) f := by
  refine ⟨tabs _ (List.mem_map.mpr ⟨_, hf, rfl⟩), List.mem_map.mpr ⟨_, hf, rfl⟩, fun q hq e => ?_⟩
  obtain ⟨p, hp, rfl⟩ := List.mem_map.mp hq
  have h1 := nodup_inj (nd_of m) hp hf e
  rw [h1]
end Lw
namespace Lw
open PySem PySem.Spec PyProof.Rows L2 Eg Mr
theorem facts : ∀ (w : World) (mg : Str → Option Value) (fa0 : Addr) (h : Heap), hk.says w h → h.Ns mainGlobals mg → mg "law" = some (.ref fa0) →
      ∃ (K : PySem.W.Frag) (fd : FuncData) (cs : List (Addr × Addr)) (L : List (Addr × Str)) (mf : Mf), K.In h ∧ (∀ q ∈ cs, h.get? q.2 = some { cls := .none, data := .fields #[] }) ∧ (∀ q ∈ cs, K.lookup q.2 = none) ∧ (∀ q ∈ cs, PySem.W.CodeHd h q.1 q.2) ∧
        (∀ (s : Shared) (u : Value), BindsTo s fd ⟨[u], []⟩ [("script", u)]) ∧ (∀ q ∈ L, ∃ p ∈ cs, q.1 = p.2) ∧ (∀ ns : List Int, ns.length ≤ 63 → ∃ outs, mf [.scr ns] = .ok (.d (.bool true), outs)) ∧
        ∀ base : Heap, K.In base → base.Ns mainGlobals mg → (∀ q ∈ cs, LamX.TabB base mg q.1 q.2) → FnG PySem.Challenge.rw_turnedseeds_k12_whole_rows_of_two_places.prog w K mg base 10 fa0 fd ["script"] (spM K mg L 1 mf) := by
  intro w mg fa0 h Y G0 hl
  obtain ⟨K, X0, c0⟩ := Y
  have c := c0.t.d
  obtain ⟨fd_is_integer, F_is_integer⟩ := c.def_ 0 (d := d_is_integer)
  obtain ⟨fd_is_between, F_is_between⟩ := c.def_ 1 (d := d_is_between)
  obtain ⟨fd_is_tuple_of, F_is_tuple_of⟩ := c.def_ 2 (d := d_is_tuple_of)
  obtain ⟨fd_are_integers, F_are_integers⟩ := c.def_ 3 (d := d_are_integers)
  obtain ⟨fd_sign_of, F_sign_of⟩ := c.def_ 4 (d := d_sign_of)
  obtain ⟨fd_is_grid, F_is_grid⟩ := c.def_ 5 (d := d_is_grid)
  obtain ⟨fd_wrong_pair, F_wrong_pair⟩ := c.def_ 6 (d := d_wrong_pair)
  obtain ⟨fd_places_beside, F_places_beside⟩ := c.def_ 7 (d := d_places_beside)
  obtain ⟨fd_lowest, F_lowest⟩ := c.def_ 8 (d := d_lowest)
  obtain ⟨fd_spread_from, F_spread_from⟩ := c.def_ 9 (d := d_spread_from)
  obtain ⟨fd_way_back, F_way_back⟩ := c.def_ 10 (d := d_way_back)
  obtain ⟨fd_ring_between, F_ring_between⟩ := c.def_ 11 (d := d_ring_between)
  obtain ⟨fd_unlike_pair, F_unlike_pair⟩ := c.def_ 12 (d := d_unlike_pair)
  obtain ⟨fd_scaled, F_scaled⟩ := c.def_ 13 (d := d_scaled)
  obtain ⟨fd_evened, F_evened⟩ := c.def_ 14 (d := d_evened)
  obtain ⟨fd_is_table, F_is_table⟩ := c.def_ 15 (d := d_is_table)
  obtain ⟨fd_need_table, F_need_table⟩ := c.def_ 16 (d := d_need_table)
  obtain ⟨fd_two_rows_of, F_two_rows_of⟩ := c.def_ 17 (d := d_two_rows_of)
  obtain ⟨fd_two_rows, F_two_rows⟩ := c.def_ 18 (d := d_two_rows)
  obtain ⟨fd__law_hand, F__law_hand⟩ := c.def_ 19 (d := d__law_hand)
  obtain ⟨fd__law_draw, F__law_draw⟩ := c.def_ 20 (d := d__law_draw)
  obtain ⟨fd__law_any, F__law_any⟩ := c.def_ 21 (d := d__law_any)
  obtain ⟨fd__law_is, F__law_is⟩ := c.def_ 22 (d := d__law_is)
  obtain ⟨fd__law_drawn, F__law_drawn⟩ := c.def_ 23 (d := d__law_drawn)
  obtain ⟨fd__law_rows, F__law_rows⟩ := c.def_ 24 (d := d__law_rows)
  obtain ⟨fd__law_word, F__law_word⟩ := c.def_ 25 (d := d__law_word)
  obtain ⟨fd__law_is_right, F__law_is_right⟩ := c.def_ 26 (d := d__law_is_right)
  obtain ⟨fd__law_are_refused, F__law_are_refused⟩ := c.def_ 27 (d := d__law_are_refused)
  obtain ⟨fd_law, F_law⟩ := c.def_ 28 (d := d_law)
  refine ⟨K, fd_law, tf.map (He.cT K), tf.map fun p => ((He.cT K p).2, p.1 ++ ".<locals>." ++ "<lambda>"), m_law, X0, fun q hq => ?_, fun q hq => ?_, fun q hq => ?_, fun s u => ?_, fun q hq => ?_, law_true, fun base X G tabs => ?_⟩
  · obtain ⟨p, hp, rfl⟩ := List.mem_map.mp hq; exact c0.empty p hp
  · obtain ⟨p, hp, rfl⟩ := List.mem_map.mp hq; exact c0.out p hp
  · obtain ⟨p, hp, rfl⟩ := List.mem_map.mp hq; exact PySem.W.codeHd_of_K X0 (c0.hd p hp)
  · exact FunD.bindsA (ps := ["script"]) F_law (fun _ _ _ _ _ _ us h => match us, h with | [a1], _ => rfl) s [u] rfl
  · obtain ⟨p, hp, rfl⟩ := List.mem_map.mp hq; exact ⟨_, List.mem_map.mpr ⟨p, hp, rfl⟩, rfl⟩
  have T := tx_of c c0.more X G
  have e := T.f_law
  rw [hl] at e
  cases e
  have o_is_integer := ok_is_integer (P := PySem.Challenge.rw_turnedseeds_k12_whole_rows_of_two_places.prog) (w := w) (base := base) (L := tf.map fun p => ((He.cT K p).2, p.1 ++ ".<locals>." ++ "<lambda>")) T F_is_integer 
  have o_is_between := ok_is_between (P := PySem.Challenge.rw_turnedseeds_k12_whole_rows_of_two_places.prog) (w := w) (base := base) (L := tf.map fun p => ((He.cT K p).2, p.1 ++ ".<locals>." ++ "<lambda>")) T F_is_between o_is_integer
  have o_is_tuple_of := ok_is_tuple_of (P := PySem.Challenge.rw_turnedseeds_k12_whole_rows_of_two_places.prog) (w := w) (base := base) (L := tf.map fun p => ((He.cT K p).2, p.1 ++ ".<locals>." ++ "<lambda>")) T F_is_tuple_of 
  have o_are_integers := ok_are_integers (P := PySem.Challenge.rw_turnedseeds_k12_whole_rows_of_two_places.prog) (w := w) (base := base) (L := tf.map fun p => ((He.cT K p).2, p.1 ++ ".<locals>." ++ "<lambda>")) T F_are_integers o_is_integer o_is_tuple_of
  have o_sign_of := ok_sign_of (P := PySem.Challenge.rw_turnedseeds_k12_whole_rows_of_two_places.prog) (w := w) (base := base) (L := tf.map fun p => ((He.cT K p).2, p.1 ++ ".<locals>." ++ "<lambda>")) T F_sign_of 
  have o_is_grid := ok_is_grid (P := PySem.Challenge.rw_turnedseeds_k12_whole_rows_of_two_places.prog) (w := w) (base := base) (L := tf.map fun p => ((He.cT K p).2, p.1 ++ ".<locals>." ++ "<lambda>")) T F_is_grid o_are_integers
  have o_wrong_pair := ok_wrong_pair (P := PySem.Challenge.rw_turnedseeds_k12_whole_rows_of_two_places.prog) (w := w) (base := base) (L := tf.map fun p => ((He.cT K p).2, p.1 ++ ".<locals>." ++ "<lambda>")) T F_wrong_pair o_sign_of
  have o_places_beside := ok_places_beside (P := PySem.Challenge.rw_turnedseeds_k12_whole_rows_of_two_places.prog) (w := w) (base := base) (L := tf.map fun p => ((He.cT K p).2, p.1 ++ ".<locals>." ++ "<lambda>")) T F_places_beside 
  have o_lowest := ok_lowest (P := PySem.Challenge.rw_turnedseeds_k12_whole_rows_of_two_places.prog) (w := w) (base := base) (L := tf.map fun p => ((He.cT K p).2, p.1 ++ ".<locals>." ++ "<lambda>")) T F_lowest 
  have o_spread_from := ok_spread_from (P := PySem.Challenge.rw_turnedseeds_k12_whole_rows_of_two_places.prog) (w := w) (base := base) (L := tf.map fun p => ((He.cT K p).2, p.1 ++ ".<locals>." ++ "<lambda>")) T F_spread_from o_places_beside o_lowest
  have o_way_back := ok_way_back (P := PySem.Challenge.rw_turnedseeds_k12_whole_rows_of_two_places.prog) (w := w) (base := base) (L := tf.map fun p => ((He.cT K p).2, p.1 ++ ".<locals>." ++ "<lambda>")) T F_way_back 
  have o_ring_between := ok_ring_between (P := PySem.Challenge.rw_turnedseeds_k12_whole_rows_of_two_places.prog) (w := w) (base := base) (L := tf.map fun p => ((He.cT K p).2, p.1 ++ ".<locals>." ++ "<lambda>")) T F_ring_between o_way_back
  have o_unlike_pair := ok_unlike_pair (P := PySem.Challenge.rw_turnedseeds_k12_whole_rows_of_two_places.prog) (w := w) (base := base) (L := tf.map fun p => ((He.cT K p).2, p.1 ++ ".<locals>." ++ "<lambda>")) T F_unlike_pair o_places_beside
  have o_scaled := ok_scaled (P := PySem.Challenge.rw_turnedseeds_k12_whole_rows_of_two_places.prog) (w := w) (base := base) (L := tf.map fun p => ((He.cT K p).2, p.1 ++ ".<locals>." ++ "<lambda>")) T F_scaled 
  have o_evened := ok_evened (P := PySem.Challenge.rw_turnedseeds_k12_whole_rows_of_two_places.prog) (w := w) (base := base) (L := tf.map fun p => ((He.cT K p).2, p.1 ++ ".<locals>." ++ "<lambda>")) T F_evened o_scaled o_ring_between o_unlike_pair o_spread_from
  have o_is_table := ok_is_table (P := PySem.Challenge.rw_turnedseeds_k12_whole_rows_of_two_places.prog) (w := w) (base := base) (L := tf.map fun p => ((He.cT K p).2, p.1 ++ ".<locals>." ++ "<lambda>")) T F_is_table o_evened o_wrong_pair o_is_grid
  have o_need_table := ok_need_table (P := PySem.Challenge.rw_turnedseeds_k12_whole_rows_of_two_places.prog) (w := w) (base := base) (L := tf.map fun p => ((He.cT K p).2, p.1 ++ ".<locals>." ++ "<lambda>")) T F_need_table o_is_table
  have o_two_rows_of := ok_two_rows_of (P := PySem.Challenge.rw_turnedseeds_k12_whole_rows_of_two_places.prog) (w := w) (base := base) (L := tf.map fun p => ((He.cT K p).2, p.1 ++ ".<locals>." ++ "<lambda>")) T F_two_rows_of 
  have o_two_rows := ok_two_rows (P := PySem.Challenge.rw_turnedseeds_k12_whole_rows_of_two_places.prog) (w := w) (base := base) (L := tf.map fun p => ((He.cT K p).2, p.1 ++ ".<locals>." ++ "<lambda>")) T F_two_rows o_two_rows_of o_is_between o_need_table
  have o__law_hand := ok__law_hand (P := PySem.Challenge.rw_turnedseeds_k12_whole_rows_of_two_places.prog) (w := w) (base := base) (L := tf.map fun p => ((He.cT K p).2, p.1 ++ ".<locals>." ++ "<lambda>")) T F__law_hand 
  have o__law_draw := ok__law_draw (P := PySem.Challenge.rw_turnedseeds_k12_whole_rows_of_two_places.prog) (w := w) (base := base) (L := tf.map fun p => ((He.cT K p).2, p.1 ++ ".<locals>." ++ "<lambda>")) T F__law_draw 
  have o__law_any := ok__law_any (P := PySem.Challenge.rw_turnedseeds_k12_whole_rows_of_two_places.prog) (w := w) (base := base) (L := tf.map fun p => ((He.cT K p).2, p.1 ++ ".<locals>." ++ "<lambda>")) T F__law_any o__law_draw
  have o__law_is := ok__law_is (P := PySem.Challenge.rw_turnedseeds_k12_whole_rows_of_two_places.prog) (w := w) (base := base) (L := tf.map fun p => ((He.cT K p).2, p.1 ++ ".<locals>." ++ "<lambda>")) T F__law_is 
  have o__law_drawn := ok__law_drawn (P := PySem.Challenge.rw_turnedseeds_k12_whole_rows_of_two_places.prog) (w := w) (base := base) (L := tf.map fun p => ((He.cT K p).2, p.1 ++ ".<locals>." ++ "<lambda>")) T F__law_drawn o__law_any o__law_draw
  have o__law_rows := ok__law_rows (P := PySem.Challenge.rw_turnedseeds_k12_whole_rows_of_two_places.prog) (w := w) (base := base) (L := tf.map fun p => ((He.cT K p).2, p.1 ++ ".<locals>." ++ "<lambda>")) T F__law_rows 
  have o__law_word := fun k => ok__law_word (P := PySem.Challenge.rw_turnedseeds_k12_whole_rows_of_two_places.prog) (w := w) (base := base) (L := tf.map fun p => ((He.cT K p).2, p.1 ++ ".<locals>." ++ "<lambda>")) T F__law_word k
  have o__law_is_right := ok__law_is_right (P := PySem.Challenge.rw_turnedseeds_k12_whole_rows_of_two_places.prog) (w := w) (base := base) (L := tf.map fun p => ((He.cT K p).2, p.1 ++ ".<locals>." ++ "<lambda>")) T F__law_is_right o__law_draw o_two_rows o__law_is o__law_rows (o__law_word 6) (tb_of c0.more tabs (by simp [tf]) (by decide))
  have o__law_are_refused := ok__law_are_refused (P := PySem.Challenge.rw_turnedseeds_k12_whole_rows_of_two_places.prog) (w := w) (base := base) (L := tf.map fun p => ((He.cT K p).2, p.1 ++ ".<locals>." ++ "<lambda>")) T F__law_are_refused o_two_rows o__law_any (o__law_word 6) (tb_of c0.more tabs (by simp [tf]) (by decide))
  exact okl_law T F_law o__law_are_refused o__law_is_right o__law_drawn o__law_rows o__law_is o_two_rows o__law_hand
end Lw
end
set_option maxHeartbeats 0
open PySem PySem.W PySem.Calls PyProof.Rows
theorem PySem.Challenge.cw_turnedseeds_k12_whole_rows_of_two_places_holds : PySem.Challenge.rw_turnedseeds_k12_whole_rows_of_two_places.Holds := by
  w_on; o_law
  refine HandSHeadRun.head_imp (r := OpenLaw.row PySem.Challenge.rw_turnedseeds_k12_whole_rows_of_two_places) (q := view Lw.R.prog [0, 41]) (H := Lw.hk) (ob := Lw.ob) (M := 4000) (loose := Lw.loose) (d := HandSHeadRun.topDef Lw.R.prog 41) (kwd := []) Lw.ob_eq Lw.run
    (by kernel_rfl) (by kernel_rfl) (by kernel_rfl) (by rfl) (by first | assumption | decide +kernel) (by decide +kernel) ⟨rfl, rfl, rfl, rfl, rfl, by decide +kernel⟩ ?hw ?hc
  case hw => w_witness2
  case hc =>
    refine Eg.walkG (l := PySem.Challenge.rw_turnedseeds_k12_whole_rows_of_two_places) (n := 63) (k := 10) (x := "script") rfl (by decide) (by kernel_rfl) ⟨rfl, by decide, by decide⟩ ?F
    exact Lw.facts
