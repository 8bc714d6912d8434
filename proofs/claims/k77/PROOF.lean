import PyProof.Rows.All
import Wide.All
import OpenK.AllK
import Wide.FinOn
import HandS.ForMost
import HandS.Wide
import HandS.WideBits
import HandS.Gcd
import HandS.TupAny
import HandS.IsInst
import HandS.Conv
import HandS.Zip
import HandS.Rev
import HandS.Style
import HandS.Flow
import HandS.NoneIn
import HandS.Deep
import HandS.Defaults
import HandS.More
import HandS.Exc
import KE.GoesEnum
import HandS.Lambda
import HandS.Ends
import HandS.Head0
import HandS.Head1
import HandS.Head2
import HandS.Head3
import HandS.HeadEnd
import HandS.HeadHook1
import HandS.HeadHook2
import PyProof.ReprLen
import PyProof.FitsInt
import PySem.Challenge.RW_bandsplits_k77_whole_curves_decided
set_option Elab.async false
set_option linter.all false
set_option maxRecDepth 100000
set_option maxHeartbeats 0
namespace Pz
open PySem PySem.Spec PyProof.Rows L2

/-- plain data: what a value of the program stands for -/
inductive Dt where
  | non | bl (b : Bool) | int (i : Int) | str (x : Str)
  | tup (xs : List Dt) | lst (xs : List Dt) | dct
  | loc (n : Nat) | fn (k : Nat) | clo (k : Nat) (cap : List Dt)
  | scr (ns : List Int)

/-- what never changes in a run: where the defs stand -/
structure Wd where
  K : PySem.W.Frag
  fa : Nat → Addr

/-- a tuple that the text has written -/
def KTup (K : PySem.W.Frag) (a : Addr) (vs : List V) : Prop :=
  ∃ (o : Obj) (its : Array Value) (n : Nat), K.lookup a = some o ∧ o.cls = .type "tuple" ∧ o.data = .seq its n ∧ its.size ≤ sizeLine ∧ Vals vs its.toList

/-- z: the addresses that may change (lists of the store, lists in the making) -/
def TupAt (K : PySem.W.Frag) (H : Hp) (z : List Addr) (a : Addr) (vs : List V) : Prop := (a ∉ z ∧ Rd H a (.tup vs)) ∨ KTup K a vs

/-- the script -/
def ScrAt (K : PySem.W.Frag) (H : Hp) (z : List Addr) (a : Addr) (vs : List V) : Prop := (a ∉ z ∧ Rd H a (.lst vs)) ∨
  ∃ (o : Obj) (its : Array Value) (n : Nat), K.lookup a = some o ∧ o.cls = .type "list" ∧ o.dict = none ∧ o.data = .seq its n ∧ its.size ≤ sizeLine ∧ Vals vs its.toList
mutual
def Rep (W : Wd) (H : Hp) (io z : List Addr) : Dt → V → Prop
  | .non, v => v = .non
  | .bl b, v => v = .bl b
  | .int i, v => v = .int i
  | .str x, v => v = .str x
  | .tup ds, v => ∃ a vs, v = .ref a ∧ TupAt W.K H (io ++ z) a vs ∧ Reps W H io z ds vs
  | .lst ds, v => ∃ a vs, v = .ref a ∧ a ∉ io ++ z ∧ H a = some (.lst vs) ∧ Reps W H io z ds vs
  | .dct, v => ∃ a, v = .ref a ∧ a ∉ io ++ z ∧ H a = some (.dK [])
  | .loc n, v => ∃ a, v = .ref a ∧ io[n]? = some a
  | .fn k, v => v = .ref (W.fa k)
  | .clo _ _, _ => False
  | .scr ns, v => ∃ a, v = .ref a ∧ ScrAt W.K H (io ++ z) a (ns.map V.int)
def Reps (W : Wd) (H : Hp) (io z : List Addr) : List Dt → List V → Prop
  | [], vs => vs = []
  | d :: ds, vs => ∃ v r, vs = v :: r ∧ Rep W H io z d v ∧ Reps W H io z ds r
end

/-- the heap has grown; of what stood ahead only the store's lists have changed -/
structure Ext (io : List Addr) (H : Hp) (io' : List Addr) (H' : Hp) : Prop where
  pre : ∃ nw, io' = io ++ nw ∧ ∀ p ∈ nw, H p = none
  keep : ∀ a u, a ∉ io → H a = some u → H' a = some u
  dom : ∀ a, H a ≠ none → H' a ≠ none

theorem Ext.refl (io : List Addr) (H : Hp) : Ext io H io H := ⟨⟨[], by simp, by simp⟩, fun _ _ _ h => h, fun _ h => h⟩
theorem Ext.trans {i0 i1 i2 : List Addr} {H0 H1 H2 : Hp} (a : Ext i0 H0 i1 H1) (b : Ext i1 H1 i2 H2) : Ext i0 H0 i2 H2 := by
  obtain ⟨n1, rfl, f1⟩ := a.pre
  obtain ⟨n2, rfl, f2⟩ := b.pre
  refine ⟨⟨n1 ++ n2, by simp, fun p hp => ?_⟩, fun c u hc h => ?_, fun c h => b.dom c (a.dom c h)⟩
  · rcases List.mem_append.mp hp with h | h
    · exact f1 p h
    · have := f2 p h
      cases q : H0 p with
      | none => rfl
      | some u => exact absurd this (a.dom p (by rw [q]; simp))
  · refine b.keep c u (fun hm => ?_) (a.keep c u hc h)
    rcases List.mem_append.mp hm with hm | hm
    · exact hc hm
    · rw [f1 c hm] at h; cases h
theorem Ext.sub {i0 i1 : List Addr} {H0 H1 : Hp} (a : Ext i0 H0 i1 H1) {p : Addr} (h : p ∈ i0) : p ∈ i1 := by
  obtain ⟨n, rfl, _⟩ := a.pre
  exact List.mem_append_left _ h
theorem Ext.get {i0 i1 : List Addr} {H0 H1 : Hp} (a : Ext i0 H0 i1 H1) {n : Nat} {p : Addr} (h : i0[n]? = some p) : i1[n]? = some p := by
  obtain ⟨nw, rfl, _⟩ := a.pre
  have hl : n < i0.length := (List.getElem?_eq_some_iff.mp h).1
  rw [List.getElem?_append_left hl]; exact h
theorem Ext.nmem {i0 i1 z : List Addr} {H0 H1 : Hp} (a : Ext i0 H0 i1 H1) {p : Addr} (h : p ∉ i0 ++ z) (hp : H0 p ≠ none) : p ∉ i1 ++ z := by
  obtain ⟨nw, rfl, f⟩ := a.pre
  intro hm
  rcases List.mem_append.mp hm with hm | hm
  · rcases List.mem_append.mp hm with hm | hm
    · exact h (List.mem_append_left _ hm)
    · exact hp (f p hm)
  · exact h (List.mem_append_right _ hm)
theorem rd_some {H : Hp} {a : Addr} {u : HO} (h : Rd H a u) : H a ≠ none := by
  rcases h with h | ⟨o, h⟩ <;> rw [h] <;> simp
theorem Ext.rd {i0 i1 : List Addr} {H0 H1 : Hp} (e : Ext i0 H0 i1 H1) {a : Addr} {u : HO} (h : a ∉ i0) (r : Rd H0 a u) : Rd H1 a u := by
  rcases r with r | ⟨o, r⟩
  · exact .inl (e.keep _ _ h r)
  · exact .inr ⟨o, e.keep _ _ h r⟩
theorem TupAt.ext {K : PySem.W.Frag} {i0 i1 z : List Addr} {H0 H1 : Hp} (e : Ext i0 H0 i1 H1) {a : Addr} {vs : List V} (h : TupAt K H0 (i0 ++ z) a vs) : TupAt K H1 (i1 ++ z) a vs := by
  rcases h with ⟨hn, r⟩ | h
  · exact .inl ⟨e.nmem hn (rd_some r), e.rd (fun q => hn (List.mem_append_left _ q)) r⟩
  · exact .inr h

theorem ScrAt.ext {K : PySem.W.Frag} {i0 i1 z : List Addr} {H0 H1 : Hp} (e : Ext i0 H0 i1 H1) {a : Addr} {vs : List V} (h : ScrAt K H0 (i0 ++ z) a vs) : ScrAt K H1 (i1 ++ z) a vs := by
  rcases h with ⟨hn, r⟩ | h
  · exact .inl ⟨e.nmem hn (rd_some r), e.rd (fun q => hn (List.mem_append_left _ q)) r⟩
  · exact .inr h
mutual
theorem Rep.ext {W : Wd} {i0 i1 z : List Addr} {H0 H1 : Hp} (e : Ext i0 H0 i1 H1) : ∀ (d : Dt) (v : V), Rep W H0 i0 z d v → Rep W H1 i1 z d v
  | .non, _, h => h
  | .bl _, _, h => h
  | .int _, _, h => h
  | .str _, _, h => h
  | .tup ds, _, ⟨a, vs, h1, h2, h3⟩ => ⟨a, vs, h1, h2.ext e, Reps.ext e ds vs h3⟩
  | .lst ds, _, ⟨a, vs, h1, h2, h3, h4⟩ => ⟨a, vs, h1, e.nmem h2 (by rw [h3]; simp), e.keep _ _ (fun q => h2 (List.mem_append_left _ q)) h3, Reps.ext e ds vs h4⟩
  | .dct, _, ⟨a, h1, h2, h3⟩ => ⟨a, h1, e.nmem h2 (by rw [h3]; simp), e.keep _ _ (fun q => h2 (List.mem_append_left _ q)) h3⟩
  | .loc _, _, ⟨a, h1, h2⟩ => ⟨a, h1, e.get h2⟩
  | .fn _, _, h => h
  | .clo _ _, _, h => h.elim
  | .scr _, _, ⟨a, h1, h2⟩ => ⟨a, h1, h2.ext e⟩
theorem Reps.ext {W : Wd} {i0 i1 z : List Addr} {H0 H1 : Hp} (e : Ext i0 H0 i1 H1) : ∀ (ds : List Dt) (vs : List V), Reps W H0 i0 z ds vs → Reps W H1 i1 z ds vs
  | [], _, h => h
  | d :: ds, _, ⟨v, r, h1, h2, h3⟩ => ⟨v, r, h1, Rep.ext e d v h2, Reps.ext e ds r h3⟩
end

/-- fewer private addresses -/
theorem nmem_z {io z z' : List Addr} {a : Addr} (h : a ∉ io ++ z) (s : ∀ p ∈ z', p ∈ z) : a ∉ io ++ z' := fun q => h (by
  rcases List.mem_append.mp q with q | q
  · exact List.mem_append_left _ q
  · exact List.mem_append_right _ (s _ q))
mutual
theorem Rep.less {W : Wd} {io z z' : List Addr} {H : Hp} (s : ∀ p ∈ z', p ∈ z) : ∀ (d : Dt) (v : V), Rep W H io z d v → Rep W H io z' d v
  | .non, _, h => h
  | .bl _, _, h => h
  | .int _, _, h => h
  | .str _, _, h => h
  | .tup ds, _, ⟨a, vs, h1, h2, h3⟩ => ⟨a, vs, h1, h2.elim (fun q => .inl ⟨nmem_z q.1 s, q.2⟩) .inr, Reps.less s ds vs h3⟩
  | .lst ds, _, ⟨a, vs, h1, h2, h3, h4⟩ => ⟨a, vs, h1, nmem_z h2 s, h3, Reps.less s ds vs h4⟩
  | .dct, _, ⟨a, h1, h2, h3⟩ => ⟨a, h1, nmem_z h2 s, h3⟩
  | .loc _, _, h => h
  | .fn _, _, h => h
  | .clo _ _, _, h => h.elim
  | .scr _, _, ⟨a, h1, h2⟩ => ⟨a, h1, h2.elim (fun q => .inl ⟨nmem_z q.1 s, q.2⟩) .inr⟩
theorem Reps.less {W : Wd} {io z z' : List Addr} {H : Hp} (s : ∀ p ∈ z', p ∈ z) : ∀ (ds : List Dt) (vs : List V), Reps W H io z ds vs → Reps W H io z' ds vs
  | [], _, h => h
  | d :: ds, _, ⟨v, r, h1, h2, h3⟩ => ⟨v, r, h1, Rep.less s d v h2, Reps.less s ds r h3⟩
end

/-- a new private address: nothing that was told leans on it -/
theorem nmem_new {io z : List Addr} {a p : Addr} (h : a ∉ io ++ z) (hp : a ≠ p) : a ∉ io ++ (p :: z) := fun q => by
  rcases List.mem_append.mp q with q | q
  · exact h (List.mem_append_left _ q)
  · rcases List.mem_cons.mp q with q | q
    · exact hp q
    · exact h (List.mem_append_right _ q)
mutual
theorem Rep.more {W : Wd} {io z : List Addr} {H : Hp} {p : Addr} (hp : H p = none) : ∀ (d : Dt) (v : V), Rep W H io z d v → Rep W H io (p :: z) d v
  | .non, _, h => h
  | .bl _, _, h => h
  | .int _, _, h => h
  | .str _, _, h => h
  | .tup ds, _, ⟨a, vs, h1, h2, h3⟩ => ⟨a, vs, h1, h2.elim (fun q => .inl ⟨nmem_new q.1 (fun e => rd_some q.2 (e ▸ hp)), q.2⟩) .inr, Reps.more hp ds vs h3⟩
  | .lst ds, _, ⟨a, vs, h1, h2, h3, h4⟩ => ⟨a, vs, h1, nmem_new h2 (fun e => by rw [e, hp] at h3; cases h3), h3, Reps.more hp ds vs h4⟩
  | .dct, _, ⟨a, h1, h2, h3⟩ => ⟨a, h1, nmem_new h2 (fun e => by rw [e, hp] at h3; cases h3), h3⟩
  | .loc _, _, h => h
  | .fn _, _, h => h
  | .clo _ _, _, h => h.elim
  | .scr _, _, ⟨a, h1, h2⟩ => ⟨a, h1, h2.elim (fun q => .inl ⟨nmem_new q.1 (fun e => rd_some q.2 (e ▸ hp)), q.2⟩) .inr⟩
theorem Reps.more {W : Wd} {io z : List Addr} {H : Hp} {p : Addr} (hp : H p = none) : ∀ (ds : List Dt) (vs : List V), Reps W H io z ds vs → Reps W H io (p :: z) ds vs
  | [], _, h => h
  | d :: ds, _, ⟨v, r, h1, h2, h3⟩ => ⟨v, r, h1, Rep.more hp d v h2, Reps.more hp ds r h3⟩
end

mutual
/-- no list of the store in it -/
def Dt.nl : Dt → Bool
  | .non => true | .bl _ => true | .int _ => true | .str _ => true
  | .tup ds => nlAll ds
  | .lst ds => nlAll ds
  | .dct => true | .loc _ => false | .fn _ => true | .clo _ _ => false | .scr _ => false
def nlAll : List Dt → Bool
  | [] => true
  | d :: ds => d.nl && nlAll ds
end

abbrev Store := List (List Dt)
structure Cells (W : Wd) (H : Hp) (io z : List Addr) (S : Store) : Prop where
  len : io.length = S.length
  nd : io.Nodup
  apart : ∀ p ∈ z, p ∉ io
  zt : ∀ p ∈ z, H p ≠ none
  at_ : ∀ (n : Nat) (a : Addr) (xs : List Dt), io[n]? = some a → S[n]? = some xs → ∃ vs, H a = some (.lst vs) ∧ Reps W H io z xs vs
  nl : ∀ xs ∈ S, nlAll xs = true

/-- behind a step that left the store's lists as they stood -/
theorem Cells.ext {W : Wd} {H H' : Hp} {io z : List Addr} {S : Store} (c : Cells W H io z S) (e : Ext io H io H') (k : ∀ a ∈ io, H' a = H a) : Cells W H' io z S :=
  ⟨c.len, c.nd, c.apart, fun p hp => e.dom p (c.zt p hp), fun n a xs h1 h2 => by
    obtain ⟨vs, h3, h4⟩ := c.at_ n a xs h1 h2
    exact ⟨vs, by rw [k a (List.mem_of_getElem? h1)]; exact h3, Reps.ext e _ _ h4⟩, c.nl⟩
theorem Cells.has {W : Wd} {H : Hp} {io z : List Addr} {S : Store} (c : Cells W H io z S) {a : Addr} (h : a ∈ io) : ∃ vs, H a = some (.lst vs) := by
  obtain ⟨n, hn⟩ := List.mem_iff_getElem?.mp h
  have hl : n < S.length := by rw [← c.len]; exact (List.getElem?_eq_some_iff.mp hn).1
  obtain ⟨vs, h1, _⟩ := c.at_ n a S[n] hn (by simp [hl])
  exact ⟨vs, h1⟩

/-- a new object that is not of the store -/
theorem Ext.new {io : List Addr} {H : Hp} {p : Addr} {o : HO} (hp : H p = none) : Ext io H io (upd H p o) := by
  refine ⟨⟨[], by simp, by simp⟩, fun a u _ h => ?_, fun a h => ?_⟩
  · rw [upd_ne (ne_of_none h hp)]; exact h
  · by_cases e : a = p
    · subst e; exact absurd hp h
    · rw [upd_ne e]; exact h
theorem Cells.new {W : Wd} {H : Hp} {io z : List Addr} {S : Store} (c : Cells W H io z S) {p : Addr} {o : HO} (hp : H p = none) : Cells W (upd H p o) io z S :=
  c.ext (Ext.new hp) fun a ha => by
    obtain ⟨vs, h⟩ := c.has ha
    rw [upd_ne (ne_of_none h hp)]
theorem Cells.fresh {W : Wd} {H : Hp} {io z : List Addr} {S : Store} (c : Cells W H io z S) {p : Addr} (hp : H p = none) : p ∉ io ++ z := fun q => by
  rcases List.mem_append.mp q with q | q
  · obtain ⟨vs, h⟩ := c.has q
    rw [hp] at h; cases h
  · exact c.zt p q hp
end Pz
namespace Pz
open PySem PySem.Spec PyProof.Rows L2

/-! ### the pure run -/
structure Exn where
  cls : Nat
  val : Option Dt
inductive Res (α : Type) where
  | ok (a : α) (S : Store) | err (x : Exn) (S : Store) | bad
abbrev Mo (α : Type) := Store → Res α
def Res.bind {α β : Type} (r : Res α) (f : α → Store → Res β) : Res β := match r with
  | .ok a S => f a S
  | .err x S => .err x S
  | .bad => .bad
abbrev Rho := List (Option Dt)

mutual
def Dt.same : Dt → Dt → Bool
  | .non, .non => true
  | .bl a, .bl b => a == b
  | .int a, .int b => decide (a = b)
  | .str a, .str b => decide (a = b)
  | .tup a, .tup b => sameAll a b
  | .lst a, .lst b => sameAll a b
  | .dct, .dct => true
  | .loc a, .loc b => decide (a = b)
  | .fn a, .fn b => decide (a = b)
  | .clo a c, .clo b d => decide (a = b) && sameAll c d
  | .scr a, .scr b => decide (a = b)
  | _, _ => false
def sameAll : List Dt → List Dt → Bool
  | [], [] => true
  | a :: as, b :: bs => a.same b && sameAll as bs
  | _, _ => false
end
mutual
theorem Dt.same_eq : ∀ (a b : Dt), a.same b = true → a = b
  | .non, b, h => by cases b <;> simp [Dt.same] at h; rfl
  | .bl _, b, h => by cases b <;> simp [Dt.same] at h; rw [h]
  | .int _, b, h => by cases b <;> simp [Dt.same] at h; rw [h]
  | .str _, b, h => by cases b <;> simp [Dt.same] at h; rw [h]
  | .tup a, b, h => by cases b <;> simp [Dt.same] at h; rw [sameAll_eq _ _ h]
  | .lst a, b, h => by cases b <;> simp [Dt.same] at h; rw [sameAll_eq _ _ h]
  | .dct, b, h => by cases b <;> simp [Dt.same] at h; rfl
  | .loc _, b, h => by cases b <;> simp [Dt.same] at h; rw [h]
  | .fn _, b, h => by cases b <;> simp [Dt.same] at h; rw [h]
  | .clo _ _, b, h => by cases b <;> simp [Dt.same] at h; rw [h.1, sameAll_eq _ _ h.2]
  | .scr _, b, h => by cases b <;> simp [Dt.same] at h; rw [h]
theorem sameAll_eq : ∀ (a b : List Dt), sameAll a b = true → a = b
  | [], b, h => by cases b <;> simp [sameAll] at h; rfl
  | x :: xs, b, h => by cases b <;> simp [sameAll] at h; rw [Dt.same_eq _ _ h.1, sameAll_eq _ _ h.2]
end
mutual
theorem Dt.same_refl : ∀ (a : Dt), a.same a = true
  | .non => rfl
  | .bl _ => by simp [Dt.same]
  | .int _ => by simp [Dt.same]
  | .str _ => by simp [Dt.same]
  | .tup a => by simp [Dt.same, sameAll_refl a]
  | .lst a => by simp [Dt.same, sameAll_refl a]
  | .dct => rfl
  | .loc _ => by simp [Dt.same]
  | .fn _ => by simp [Dt.same]
  | .clo _ c => by simp [Dt.same, sameAll_refl c]
  | .scr _ => by simp [Dt.same]
theorem sameAll_refl : ∀ (a : List Dt), sameAll a a = true
  | [] => rfl
  | x :: xs => by simp [sameAll, Dt.same_refl x, sameAll_refl xs]
end

/-! ### what the operators do -/
def okLen (n : Nat) : Bool := decide (n ≤ 1000000)
/-- a list that is the run's own -/
def asOwn (S : Store) : Dt → Option (List Dt)
  | .lst xs => some xs
  | .loc n => S[n]?
  | _ => none
/-- a list that is read -/
def asLst (S : Store) : Dt → Option (List Dt)
  | .lst xs => some xs
  | .loc n => S[n]?
  | .scr ns => some (ns.map .int)
  | _ => none
def asTup : Dt → Option (List Dt)
  | .tup xs => some xs
  | _ => none
def asSeq (S : Store) (d : Dt) : Option (List Dt) := match asTup d with
  | some xs => some xs
  | none => asLst S d
mutual
def toPD0 : Dt → Option PyData
  | .non => some .none
  | .bl b => some (.bool b)
  | .int i => some (.int i)
  | .str x => some (.str x)
  | .tup xs => (toPDs0 xs).map .tuple
  | .lst xs => (toPDs0 xs).map .list
  | _ => none
def toPDs0 : List Dt → Option (List PyData)
  | [] => some []
  | d :: ds => match toPD0 d, toPDs0 ds with
    | some a, some b => some (a :: b)
    | _, _ => none
end
def toPD (S : Store) : Dt → Option PyData
  | .loc n => (S[n]?.bind toPDs0).map .list
  | d => toPD0 d

inductive BOp | add | sub | mul | fdiv | mod | pow
inductive COp | lt | le | gt | ge
def COp.ev : COp → Int → Int → Bool
  | .lt, i, j => decide (i < j)
  | .le, i, j => decide (i ≤ j)
  | .gt, i, j => decide (j < i)
  | .ge, i, j => decide (j ≤ i)
def okMul (i j : Int) : Bool := decide (i.natAbs.log2 + j.natAbs.log2 < 1000000)
def okDiv (i j : Int) : Bool := decide (j ≠ 0) && !Builtin.divisionGoesByPylong i j
def binI (S : Store) : BOp → Int → Int → Res Dt
  | .add, i, j => .ok (.int (i + j)) S
  | .sub, i, j => .ok (.int (i - j)) S
  | .mul, i, j => if okMul i j then .ok (.int (i * j)) S else .bad
  | .fdiv, i, j => if okDiv i j then .ok (.int (i.fdiv j)) S else .bad
  | .mod, i, j => if decide (j ≠ 0) then .ok (.int (i.fmod j)) S else .bad
  | .pow, i, j => if decide (0 ≤ j ∧ j ≤ 1000000 ∧ i.natAbs < 2 ^ 64) then .ok (.int (i ^ j.toNat)) S else .bad
/-- + of two lists, list * int: the items of the new list -/
def catD (S : Store) (x y : Dt) : Option (List Dt) := match asOwn S x, asOwn S y with
  | some a, some b => if okLen (a.length + b.length) then some (a ++ b) else none
  | _, _ => none
def repD (S : Store) (x : Dt) (k : Int) : Option (List Dt) := match asOwn S x with
  | some a => if decide (-(2 ^ 63) ≤ k ∧ k < 2 ^ 63) && okLen (a.length * k.toNat) then some (List.replicate k.toNat a).flatten else none
  | none => none
def binD (S : Store) (o : BOp) (x y : Dt) : Res Dt := match x, y with
  | .int i, .int j => binI S o i j
  | .tup a, .tup b => match o with
    | .add => if okLen (a.length + b.length) then .ok (.tup (a ++ b)) S else .bad
    | _ => .bad
  | _, _ => .bad
def eqD (S : Store) (ng : Bool) (x y : Dt) : Res Dt := match toPD S x, toPD S y with
  | some a, some b => if SeqAt.shaped a && SeqAt.shaped b then .ok (.bl (ng != PyData.eqv a b)) S else .bad
  | _, _ => .bad
def Dt.isNon : Dt → Bool
  | .non => true
  | _ => false
def isD (S : Store) (ng : Bool) (x y : Dt) : Res Dt := match y with
  | .non => .ok (.bl (ng != x.isNon)) S
  | .bl b => match x with
    | .bl a => .ok (.bl (ng != decide (a = b))) S
    | _ => .bad
  | _ => .bad
def ixD (S : Store) (x i : Dt) : Res Dt := match i with
  | .int k => match asSeq S x with
    | some xs => match atI xs k with
      | some d => .ok d S
      | none => .bad
    | none => .bad
  | _ => .bad
def cutD (xs : List Dt) (lo hi : Option Int) : List Dt := (xs.drop (HT.sIx xs.length 0 lo)).take (HT.sIx xs.length xs.length hi - HT.sIx xs.length 0 lo)
/-- the items of xs[lo:hi:k] -/
def pickD (xs : List Dt) (lo hi : Option Int) (k : Int) : List Dt :=
  (sliceRange (sliceBounds lo hi (some k) xs.length).1 (sliceBounds lo hi (some k) xs.length).2.1 (sliceBounds lo hi (some k) xs.length).2.2).filterMap (xs[·]?)

/-- the items of a tuple's t[lo:hi:k] -/
def pickT (xs : List Dt) (lo hi : Option Int) (k : Int) : List Dt :=
  (List.range (Builtin.Slice.slicePlaces (Builtin.Slice.sliceAdjust lo hi k (xs.length : Int)).1 (Builtin.Slice.sliceAdjust lo hi k (xs.length : Int)).2 k)).filterMap fun (m : Nat) => xs[((Builtin.Slice.sliceAdjust lo hi k (xs.length : Int)).1 + (m : Int) * k).toNat]?
def tyD : Dt → Option String
  | .non => some "NoneType"
  | .bl _ => some "bool"
  | .int _ => some "int"
  | .str _ => some "str"
  | .tup _ => some "tuple"
  | .lst _ => some "list"
  | .loc _ => some "list"
  | .scr _ => some "list"
  | .dct => some "dict"
  | _ => none
inductive Blt | len | abs | int | tuple | all | any | sum | min2 | max2 | gcd | isi (T : String) | repr
def blsOf : List Dt → Option (List Bool)
  | [] => some []
  | .bl b :: ds => (blsOf ds).map (b :: ·)
  | _ :: _ => none
def intsOf : List Dt → Option (List Int)
  | [] => some []
  | .int i :: ds => (intsOf ds).map (i :: ·)
  | _ :: _ => none
def reprOk (p : PyData) : Bool := p.showable && !p.hasDict && decide (p.depth ≤ 60) && decide (p.shown.length ≤ sizeLine)
def arg1 (f : Dt → Res Dt) : List Dt → Res Dt
  | [d] => f d
  | _ => .bad
def arg2 (f : Dt → Dt → Res Dt) : List Dt → Res Dt
  | [d, e] => f d e
  | _ => .bad
def optK {α : Type} (o : Option α) (f : α → Res Dt) : Res Dt := match o with
  | some a => f a
  | none => .bad
def asInt : Dt → Option Int
  | .int i => some i
  | _ => none
def bltD (S : Store) : Blt → List Dt → Res Dt
  | .len => arg1 fun d => optK (asSeq S d) fun xs => .ok (.int xs.length) S
  | .abs => arg1 fun d => optK (asInt d) fun i => .ok (.int (if i < 0 then -i else i)) S
  | .int => arg1 fun d => optK (asInt d) fun i => .ok (.int i) S
  | .tuple => arg1 fun d => optK (asSeq S d) fun xs => .ok (.tup xs) S
  | .all => arg1 fun d => optK ((asLst S d).bind blsOf) fun bs => .ok (.bl (bs.all id)) S
  | .any => arg1 fun d => optK ((asLst S d).bind blsOf) fun bs => .ok (.bl (bs.any id)) S
  | .sum => arg1 fun d => optK ((asLst S d).bind intsOf) fun ns => .ok (.int ns.sum) S
  | .min2 => arg2 fun d e => optK (asInt d) fun i => optK (asInt e) fun j => .ok (.int (if j < i then j else i)) S
  | .max2 => arg2 fun d e => optK (asInt d) fun i => optK (asInt e) fun j => .ok (.int (if j > i then j else i)) S
  | .gcd => arg2 fun d e => optK (asInt d) fun i => optK (asInt e) fun j => .ok (.int ((Nat.gcd i.natAbs j.natAbs : Nat) : Int)) S
  | .isi T => arg1 fun d => optK ((tyD d).bind fun t => kitB t T) fun b => .ok (.bl b) S
  | .repr => arg1 fun d => optK (toPD S d) fun p => if reprOk p then .ok (.str p.shown) S else .bad
inductive Mth | append | pop | popAt | insert | extend | index | count
def asLoc (S : Store) : Dt → Option (Nat × List Dt)
  | .loc n => (S[n]?).map fun xs => (n, xs)
  | _ => none
/-- a list of the store changed: l.m(..) -/
def mthD (S : Store) (m : Mth) (l : Dt) (ds : List Dt) : Res Dt := optK (asLoc S l) fun p => match m with
  | .append => arg1 (fun d => if okLen p.2.length && d.nl then .ok .non (S.set p.1 (p.2 ++ [d])) else .bad) ds
  | .pop => if ds.isEmpty then optK p.2[p.2.length - 1]? fun d => .ok d (S.set p.1 p.2.dropLast) else .bad
  | .popAt => arg1 (fun i => optK (asInt i) fun i => if decide (-(2 ^ 63) ≤ i ∧ i < 2 ^ 63) then optK (seqIndex? i p.2.length) fun k => optK p.2[k]? fun d => .ok d (S.set p.1 (p.2.eraseIdx k)) else .bad) ds
  | .insert => arg2 (fun i d => optK (asInt i) fun i => if decide (0 ≤ i ∧ i < 2 ^ 63) && okLen p.2.length && d.nl then .ok .non (S.set p.1 (p.2.take i.toNat ++ [d] ++ p.2.drop i.toNat)) else .bad) ds
  | .extend => arg1 (fun d => optK (asOwn S d) fun ys => if okLen (p.2.length + ys.length) && nlAll ys then .ok .non (S.set p.1 (p.2 ++ ys)) else .bad) ds
  | _ => .bad
def setD (S : Store) (o i v : Dt) : Option Store := (asLoc S o).bind fun p => (asInt i).bind fun k => (ixN p.2.length k).bind fun j => if v.nl then some (S.set p.1 (p.2.set j v)) else none

mutual
/-- what a call hands back: the lists that it made are only read from now on -/
def resol (n : Nat) (S : Store) : Dt → Dt
  | .tup xs => .tup (resols n S xs)
  | .lst xs => .lst (resols n S xs)
  | .loc m => if m < n then .loc m else match S[m]? with
    | some xs => .lst xs
    | none => .loc m
  | d => d
def resols (n : Nat) (S : Store) : List Dt → List Dt
  | [] => []
  | d :: ds => resol n S d :: resols n S ds
end

/-! ### the language -/
mutual
inductive IEx where
  | var (i : Nat) | cst (k : Nat) | fnv (k : Nat) | int (i : Int) | bl (b : Bool) | non | str (x : Str) | absent
  | bin (o : BOp) (a b : IEx) | cat (a b : IEx) | rep (a b : IEx) | neg (a : IEx) | cmp (o : COp) (a b : IEx) | eq (ng : Bool) (a b : IEx) | is_ (ng : Bool) (a b : IEx)
  | chain (o p : COp) (a b c : IEx) | and_ (a b : IEx) | or_ (a b : IEx) | not_ (a : IEx) | ite (c a b : IEx)
  | tup (es : List IEx) | lst (es : List IEx) | ix (a i : IEx) | sl (a lo hi : IEx) | slk (a lo hi : IEx) (k : Int)
  | call (k : Nat) (es : List IEx) | callF (k : Nat) (es : List IEx) | callK (k : Nat) (pm : List Nat) (es : List IEx)
  | blt (b : Blt) (es : List IEx) | listOf (a : IEx) | mth (m : Mth) (a : IEx) (es : List IEx)
  | divmod (a b : IEx)
  | comp (own : List Nat) (t : ITg) (it : IIt) (cs : List IEx) (e : IEx)
  | thaw (e : IEx)
  | never
inductive ITg where
  | nm (i : Nat) | tup (ts : List ITg) | sub (a i : IEx)
inductive IIt where
  | seq (e : IEx) | rng1 (a : IEx) | rng2 (a b : IEx) | rng3 (a b c : IEx) | enum (e : IEx) | zip (a b : IEx)
end
inductive ISt where
  | asg (t : ITg) (e : IEx) | par (is : List Nat) (es : List IEx) | aug (i : Nat) (sub : Bool) (e : IEx) | ex (e : IEx) | ret (e : IEx)
  | iff (c : IEx) (a b : List ISt) | whil (c : IEx) (b : List ISt) | forr (t : ITg) (it : IIt) (b : List ISt)
  | brk | cont | pass | never

inductive Out where
  | nx (r : Rho) | rt (d : Dt) | bk (r : Rho) | ct (r : Rho)

def wipeR (r : Rho) : List Nat → Rho
  | [] => r
  | v :: vs => (wipeR r vs).set v none
def getR (r : Rho) (i : Nat) (S : Store) : Res Dt := match r[i]? with
  | some (some d) => .ok d S
  | _ => .bad
def toB : Res Dt → Res Bool
  | .ok (.bl b) S => .ok b S
  | .ok _ _ => .bad
  | .err x S => .err x S
  | .bad => .bad
/-- the lists that a loop walks stand as they stood -/
def still (S : Store) : List (Nat × List Dt) → Bool
  | [] => true
  | (n, xs) :: r => (match S[n]? with
    | some ys => sameAll ys xs
    | none => false) && still S r
def srcOf (d : Dt) (xs : List Dt) : List (Nat × List Dt) := match d with
  | .loc n => [(n, xs)]
  | _ => []
structure Walk where
  items : List Dt
  src : List (Nat × List Dt)
def okR (i : Int) : Bool := decide (-(2 ^ 62) ≤ i ∧ i < 2 ^ 62)
def rngL (lo c : Int) (n : Nat) : List Dt := (List.range n).map fun k => .int (lo + (k : Nat) * c)
def enumL : Nat → List Dt → List Dt
  | _, [] => []
  | k, d :: ds => .tup [.int k, d] :: enumL (k + 1) ds
def zipL : List Dt → List Dt → List Dt
  | a :: as, b :: bs => .tup [a, b] :: zipL as bs
  | _, _ => []
def compF (f : Dt → Mo (Option Dt)) (src : List (Nat × List Dt)) : List Dt → Mo (List Dt)
  | [], S => if still S src then .ok [] S else .bad
  | x :: xs, S => if still S src then (f x S).bind fun o S1 => (compF f src xs S1).bind fun ds S2 => .ok (match o with | some d => d :: ds | none => ds) S2 else .bad
def forF (asg : Dt → Rho → Mo Rho) (body : Rho → Mo Out) (src : List (Nat × List Dt)) : List Dt → Rho → Mo Out
  | [], r, S => if still S src then .ok (.nx r) S else .bad
  | x :: xs, r, S => if still S src then (asg x r S).bind fun r1 S1 => (body r1 S1).bind fun o S2 => match o with
    | .nx r2 => forF asg body src xs r2 S2
    | .ct r2 => forF asg body src xs r2 S2
    | .bk r2 => .ok (.nx r2) S2
    | .rt d => .ok (.rt d) S2 else .bad
def whileF (c : Rho → Mo Dt) (body : Rho → Mo Out) : Nat → Rho → Mo Out
  | 0, _, _ => .bad
  | n + 1, r, S => (toB (c r S)).bind fun b S1 => if b = true then (body r S1).bind fun o S2 => match o with
      | .nx r2 => whileF c body n r2 S2
      | .ct r2 => whileF c body n r2 S2
      | .bk r2 => .ok (.nx r2) S2
      | .rt d => .ok (.rt d) S2
    else .ok (.nx r) S1
def bigFuel : Nat := 1000000
def IEx.isAbs : IEx → Bool
  | .absent => true
  | _ => false
def catK (x y : Dt) (S2 : Store) : Res Dt := match catD S2 x y with | some xs => .ok (.lst xs) S2 | none => .bad
def repK (x y : Dt) (S2 : Store) : Res Dt := match y with | .int k => (match repD S2 x k with | some xs => .ok (.lst xs) S2 | none => .bad) | _ => .bad
def negK (x : Dt) (S1 : Store) : Res Dt := match x with | .int i => .ok (.int (-i)) S1 | _ => .bad
def cmpK (o : COp) (x y : Dt) (S2 : Store) : Res Dt := match x, y with | .int i, .int j => .ok (.bl (o.ev i j)) S2 | _, _ => .bad
def chainK (o p : COp) (x y : Dt) (S2 : Store) (c : Store → Res Dt) : Res Dt := match x, y with
    | .int i, .int j => if o.ev i j = true then (c S2).bind fun z S3 => cmpK p (.int j) z S3 else .ok (.bl false) S2
    | _, _ => .bad
def tupK (ds : List Dt) (S1 : Store) : Res Dt := if okLen ds.length then .ok (.tup ds) S1 else .bad
def lstK (ds : List Dt) (S1 : Store) : Res Dt := if okLen ds.length then .ok (.lst ds) S1 else .bad
def partK (d : Dt) (S : Store) : Res (Option Int) := match d with
    | .int i => .ok (some i) S
    | _ => .bad
def slK (x : Dt) (l h : Option Int) (S3 : Store) : Res Dt := match asTup x with
      | some xs => .ok (.tup (cutD xs l h)) S3
      | none => match asLst S3 x with
        | some xs => .ok (.lst (cutD xs l h)) S3
        | none => .bad
def slkK (k : Int) (x : Dt) (l h : Option Int) (S3 : Store) : Res Dt := if decide (k ≠ 0 ∧ k ≠ 1) then (match asTup x with
      | some xs => if okLen (pickT xs l h k).length then .ok (.tup (pickT xs l h k)) S3 else .bad
      | none => match asLst S3 x with
        | some xs => .ok (.lst (pickD xs l h k)) S3
        | none => .bad) else .bad
def listK (x : Dt) (S1 : Store) : Res Dt := match asSeq S1 x with | some xs => .ok (.lst xs) S1 | none => .bad
def dmK (x y : Dt) (S2 : Store) : Res Dt := match x, y with
    | .int i, .int j => if decide (0 < j) && okDiv i j then .ok (.tup [.int (i / j), .int (i % j)]) S2 else .bad
    | _, _ => .bad
def thawK (x : Dt) (S : Store) : Res Dt := match x with
  | .lst xs => if nlAll xs then .ok (.loc S.length) (S ++ [xs]) else .bad
  | _ => .bad
def keepK (n : Nat) (d : Dt) (S2 : Store) : Res Dt := match d with
    | .loc m => if m = n then .ok (.loc n) (S2.take (n + 1)) else .bad
    | _ => .bad
def seqK (d : Dt) (S1 : Store) : Res Walk := match asSeq S1 d with | some xs => .ok ⟨xs, srcOf d xs⟩ S1 | none => .bad
def enumK (d : Dt) (S1 : Store) : Res Walk := match asSeq S1 d with | some xs => .ok ⟨enumL 0 xs, srcOf d xs⟩ S1 | none => .bad
def rng1K (x : Dt) (S1 : Store) : Res Walk := match x with | .int j => if okR j then .ok ⟨rngL 0 1 j.toNat, []⟩ S1 else .bad | _ => .bad
def rng2K (x y : Dt) (S2 : Store) : Res Walk := match x, y with | .int i, .int j => if okR i && okR j then .ok ⟨rngL i 1 (j - i).toNat, []⟩ S2 else .bad | _, _ => .bad
def rng3K (x y z : Dt) (S3 : Store) : Res Walk := match x, y, z with
    | .int i, .int j, .int k => if okR i && okR j && decide (k = -1) then .ok ⟨rngL i (-1) (i - j).toNat, []⟩ S3 else .bad
    | _, _, _ => .bad
def zipK (x y : Dt) (S2 : Store) : Res Walk := match asTup x, asTup y with
    | some xs, some ys => .ok ⟨zipL xs ys, []⟩ S2
    | _, _ => match asLst S2 x, asLst S2 y with
      | some xs, some ys => .ok ⟨zipL xs ys, srcOf x xs ++ srcOf y ys⟩ S2
      | _, _ => .bad
def augK (sb : Bool) (x y : Dt) : Option Dt := match x, y with
    | .int a, .int b => some (.int (if sb then a - b else a + b))
    | _, _ => none
/-- the values of the keywords put in the parameters' order -/
def permD {α : Type} (pm : List Nat) (ds : List α) : Option (List α) := pm.mapM fun i => ds[i]?
section
variable (cv : Nat → Dt) (Ph : Nat → List Dt → Mo Dt)
def callR (k : Nat) (ds : List Dt) : Mo Dt := fun S => (Ph k ds S).bind fun d S2 => .ok (resol S.length S2 d) (S2.take S.length)
mutual
def evE : IEx → Rho → Mo Dt
  | .var i, r, S => getR r i S
  | .cst k, _, S => .ok (cv k) S
  | .fnv k, _, S => .ok (.fn k) S
  | .int i, _, S => .ok (.int i) S
  | .bl b, _, S => .ok (.bl b) S
  | .non, _, S => .ok .non S
  | .str x, _, S => .ok (.str x) S
  | .absent, _, S => .ok .non S
  | .bin o a b, r, S => (evE a r S).bind fun x S1 => (evE b r S1).bind fun y S2 => binD S2 o x y
  | .cat a b, r, S => (evE a r S).bind fun x S1 => (evE b r S1).bind fun y S2 => catK x y S2
  | .rep a b, r, S => (evE a r S).bind fun x S1 => (evE b r S1).bind fun y S2 => repK x y S2
  | .neg a, r, S => (evE a r S).bind fun x S1 => negK x S1
  | .cmp o a b, r, S => (evE a r S).bind fun x S1 => (evE b r S1).bind fun y S2 => cmpK o x y S2
  | .eq ng a b, r, S => (evE a r S).bind fun x S1 => (evE b r S1).bind fun y S2 => eqD S2 ng x y
  | .is_ ng a b, r, S => (evE a r S).bind fun x S1 => (evE b r S1).bind fun y S2 => isD S2 ng x y
  | .chain o p a b c, r, S => (evE a r S).bind fun x S1 => (evE b r S1).bind fun y S2 => chainK o p x y S2 (evE c r)
  | .and_ a b, r, S => (toB (evE a r S)).bind fun k S1 => if k = true then (toB (evE b r S1)).bind fun k2 S2 => .ok (.bl k2) S2 else .ok (.bl false) S1
  | .or_ a b, r, S => (toB (evE a r S)).bind fun k S1 => if k = true then .ok (.bl true) S1 else (toB (evE b r S1)).bind fun k2 S2 => .ok (.bl k2) S2
  | .not_ a, r, S => (toB (evE a r S)).bind fun k S1 => .ok (.bl (!k)) S1
  | .ite c a b, r, S => (toB (evE c r S)).bind fun k S1 => if k = true then evE a r S1 else evE b r S1
  | .tup es, r, S => (evL es r S).bind fun ds S1 => tupK ds S1
  | .lst es, r, S => (evL es r S).bind fun ds S1 => lstK ds S1
  | .ix a i, r, S => (evE a r S).bind fun x S1 => (evE i r S1).bind fun y S2 => ixD S2 x y
  | .sl a lo hi, r, S => (evE a r S).bind fun x S1 => (if lo.isAbs = true then .ok none S1 else (evE lo r S1).bind partK).bind fun l S2 => (if hi.isAbs = true then .ok none S2 else (evE hi r S2).bind partK).bind fun h S3 => slK x l h S3
  | .slk a lo hi k, r, S => (evE a r S).bind fun x S1 => (if lo.isAbs = true then .ok none S1 else (evE lo r S1).bind partK).bind fun l S2 => (if hi.isAbs = true then .ok none S2 else (evE hi r S2).bind partK).bind fun h S3 => slkK k x l h S3
  | .call k es, r, S => (evL es r S).bind fun ds S1 => callR Ph k ds S1
  | .callF k es, r, S => (evL es r S).bind fun ds S1 => (Ph k ds S1).bind fun d S2 => keepK S1.length d S2
  | .callK k pm es, r, S => (evL es r S).bind fun ds S1 => match permD pm ds with
    | some es => callR Ph k es S1
    | none => .bad
  | .blt b es, r, S => (evL es r S).bind fun ds S1 => bltD S1 b ds
  | .listOf a, r, S => (evE a r S).bind fun x S1 => listK x S1
  | .mth m a es, r, S => (evE a r S).bind fun x S1 => (evL es r S1).bind fun ds S2 => mthD S2 m x ds
  | .divmod a b, r, S => (evE a r S).bind fun x S1 => (evE b r S1).bind fun y S2 => dmK x y S2
  | .comp own t it cs e, r, S => (evI it r S).bind fun w S1 => if okLen w.items.length then
      (compF (fun x S => (evT t x (wipeR r own) S).bind fun r1 S1 => (toB (evC cs r1 S1)).bind fun k S2 => if k = true then (evE e r1 S2).bind fun d S3 => .ok (some d) S3 else .ok none S2) w.src w.items S1).bind fun ds S2 => .ok (.lst ds) S2 else .bad
  | .thaw e, r, S => (evE e r S).bind fun x S1 => thawK x S1
  | .never, _, _ => .bad
def evL : List IEx → Rho → Mo (List Dt)
  | [], _, S => .ok [] S
  | e :: es, r, S => (evE e r S).bind fun d S1 => (evL es r S1).bind fun ds S2 => .ok (d :: ds) S2
/-- the tests of a comprehension: none, or one -/
def evC : List IEx → Rho → Mo Dt
  | [], _, S => .ok (.bl true) S
  | [e], r, S => evE e r S
  | _, _, _ => .bad
def evT : ITg → Dt → Rho → Mo Rho
  | .nm i, d, r, S => .ok (r.set i (some d)) S
  | .tup ts, d, r, S => match asTup d with
    | some xs => evTs ts xs r S
    | none => .bad
  | .sub a i, d, r, S => (evE a r S).bind fun o S1 => (evE i r S1).bind fun k S2 => match setD S2 o k d with
    | some S3 => .ok r S3
    | none => .bad
def evTs : List ITg → List Dt → Rho → Mo Rho
  | [], [], r, S => .ok r S
  | t :: ts, d :: ds, r, S => (evT t d r S).bind fun r1 S1 => evTs ts ds r1 S1
  | _, _, _, _ => .bad
def evI : IIt → Rho → Mo Walk
  | .seq e, r, S => (evE e r S).bind fun d S1 => seqK d S1
  | .rng1 a, r, S => (evE a r S).bind fun x S1 => rng1K x S1
  | .rng2 a b, r, S => (evE a r S).bind fun x S1 => (evE b r S1).bind fun y S2 => rng2K x y S2
  | .rng3 a b c, r, S => (evE a r S).bind fun x S1 => (evE b r S1).bind fun y S2 => (evE c r S2).bind fun z S3 => rng3K x y z S3
  | .enum e, r, S => (evE e r S).bind fun d S1 => enumK d S1
  | .zip a b, r, S => (evE a r S).bind fun x S1 => (evE b r S1).bind fun y S2 => zipK x y S2
end
def setAll : List Nat → List Dt → Rho → Option Rho
  | [], [], r => some r
  | i :: is, d :: ds, r => setAll is ds (r.set i (some d))
  | _, _, _ => none
mutual
def evS : ISt → Rho → Mo Out
  | .asg t e, r, S => (evE cv Ph e r S).bind fun d S1 => (evT cv Ph t d r S1).bind fun r1 S2 => .ok (.nx r1) S2
  | .par is es, r, S => (evL cv Ph es r S).bind fun ds S1 => match setAll is ds r with | some r1 => .ok (.nx r1) S1 | none => .bad
  | .aug i sb e, r, S => (getR r i S).bind fun x S1 => (evE cv Ph e r S1).bind fun y S2 => match augK sb x y with
    | some d => .ok (.nx (r.set i (some d))) S2
    | none => .bad
  | .ex e, r, S => (evE cv Ph e r S).bind fun _ S1 => .ok (.nx r) S1
  | .ret e, r, S => (evE cv Ph e r S).bind fun d S1 => .ok (.rt d) S1
  | .iff c a b, r, S => (toB (evE cv Ph c r S)).bind fun k S1 => if k = true then evB a r S1 else evB b r S1
  | .whil c b, r, S => whileF (evE cv Ph c) (evB b) bigFuel r S
  | .forr t it b, r, S => (evI cv Ph it r S).bind fun w S1 => forF (evT cv Ph t) (evB b) w.src w.items r S1
  | .brk, r, S => .ok (.bk r) S
  | .cont, r, S => .ok (.ct r) S
  | .pass, r, S => .ok (.nx r) S
  | .never, _, _ => .bad
def evB : List ISt → Rho → Mo Out
  | [], r, S => .ok (.nx r) S
  | s :: ss, r, S => (evS s r S).bind fun o S1 => match o with
    | .nx r1 => evB ss r1 S1
    | o => .ok o S1
end
/-- a def: its body, how many names it has -/
structure IFn where
  ar : Nat
  sz : Nat
  body : List ISt
def evF (f : IFn) (ds : List Dt) : Mo Dt := fun S => if ds.length == f.ar then (evB cv Ph f.body (ds.map some ++ List.replicate (f.sz - f.ar) none) S).bind fun o S1 => match o with
  | .nx _ => .ok .non S1
  | .rt d => .ok d S1
  | _ => .bad else .bad
end
/-- n calls deep -/
def phi (cv : Nat → Dt) (fs : Nat → Option IFn) : Nat → Nat → List Dt → Mo Dt
  | 0, _, _, _ => .bad
  | n + 1, k, ds, S => match fs k with
    | some f => evF cv (phi cv fs n) f ds S
    | none => .bad
end Pz
namespace Pz
open PySem PySem.Spec PyProof.Rows L2

/-! ### readings by the pure run -/
structure EnvR (W : Wd) (H : Hp) (io z : List Addr) (r : Rho) (σ : L2.St) : Prop where
  len : r.length = σ.length
  at_ : ∀ (i : Nat) (d : Dt), r[i]? = some (some d) → ∃ v, σ[i]? = some (some v) ∧ Rep W H io z d v
theorem EnvR.ext {W : Wd} {H H' : Hp} {io io' z : List Addr} {r : Rho} {σ : L2.St} (e : EnvR W H io z r σ) (x : Ext io H io' H') : EnvR W H' io' z r σ :=
  ⟨e.len, fun i d h => let ⟨v, h1, h2⟩ := e.at_ i d h; ⟨v, h1, h2.ext x d v⟩⟩

abbrev RelF (α β : Type) := Hp → List Addr → List Addr → α → β → Prop
/-- what is wanted of a pure result -/
def Post {α β : Type} (W : Wd) (RF : RelF α β) (io z : List Addr) (H : Hp) (R : Res α) (Q : β → Hp → Prop) : Prop := match R with
  | .ok d S' => ∀ v H' io', Ext io H io' H' → Cells W H' io' z S' → RF H' io' z d v → Q v H'
  | _ => False
theorem Post.at_ {α β : Type} {W : Wd} {RF : RelF α β} {io io1 z : List Addr} {H H1 : Hp} {R : Res α} {Q : β → Hp → Prop} (p : Post W RF io z H R Q) (x : Ext io H io1 H1) : Post W RF io1 z H1 R Q := by
  cases R with
  | ok d S => exact fun v H' io' x' c r => p v H' io' (x.trans x') c r
  | err _ _ => exact p
  | bad => exact p
theorem Post.here {α β : Type} {W : Wd} {RF : RelF α β} {io z : List Addr} {H : Hp} {d : α} {S : Store} {Q : β → Hp → Prop} (p : Post W RF io z H (.ok d S) Q) {v : β} (c : Cells W H io z S) (r : RF H io z d v) : Q v H :=
  p v H io (Ext.refl _ _) c r
theorem Post.mono {α β : Type} {W : Wd} {RF : RelF α β} {io z : List Addr} {H : Hp} {R : Res α} {Q Q' : β → Hp → Prop} (p : Post W RF io z H R Q) (h : ∀ v H', Q v H' → Q' v H') : Post W RF io z H R Q' := by
  cases R with
  | ok d S => exact fun v H' io' x' c r => h _ _ (p v H' io' x' c r)
  | err _ _ => exact p
  | bad => exact p
/-- one step, then the rest -/
theorem Post.bind {α β γ δ : Type} {W : Wd} {RF : RelF α β} {RG : RelF γ δ} {io z : List Addr} {H : Hp} {R : Res α} {f : α → Store → Res γ} {Q : δ → Hp → Prop} (p : Post W RG io z H (R.bind f) Q) :
    Post W RF io z H R fun v H1 => ∃ io1 S1 a, R = .ok a S1 ∧ Ext io H io1 H1 ∧ Cells W H1 io1 z S1 ∧ RF H1 io1 z a v ∧ Post W RG io1 z H1 (f a S1) Q := by
  cases R with
  | ok d S => exact fun v H' io' x c r => ⟨io', S, d, rfl, x, c, r, Post.at_ (show Post W RG io z H (f d S) Q from p) x⟩
  | err _ _ => exact p
  | bad => exact p

def rdG {α β : Type} (W : Wd) (RF : RelF α β) (f : Rho → Mo α) (σ : L2.St) (H : Hp) (Q : β → Hp → Prop) : Prop :=
  ∃ io z r S, Cells W H io z S ∧ EnvR W H io z r σ ∧ Post W RF io z H (f r S) Q
abbrev rdE (W : Wd) (f : Rho → Mo Dt) : TE := rdG W (fun H io z d v => Rep W H io z d v) f
abbrev rdA (W : Wd) (f : Rho → Mo (List Dt)) : TA := rdG W (fun H io z d v => Reps W H io z d v) f
abbrev rdT (W : Wd) (f : Rho → Mo Dt) : TT := rdG W (fun _ _ _ (b : Bool) b' => b' = b) fun r S => toB (f r S)

theorem peW {X : Cx} {e : Expr} {t t' : TE} (h : PE X e t) (w : ∀ σ H Q, t' σ H Q → t σ H Q) : PE X e t' := ⟨fun pins s σ H Q I q => h.run pins s σ H Q I (w σ H Q q)⟩
theorem ptW {X : Cx} {e : Expr} {t t' : TT} (h : PT X e t) (w : ∀ σ H Q, t' σ H Q → t σ H Q) : PT X e t' := ⟨fun pins s σ H Q I q => h.run pins s σ H Q I (w σ H Q q)⟩
theorem pwW {X : Cx} {e : Expr} {t t' : TT} (h : PW X e t) (w : ∀ σ H Q, t' σ H Q → t σ H Q) : PW X e t' := ⟨fun wh pins s σ H Q I q => h.run wh pins s σ H Q I (w σ H Q q)⟩
theorem paW {X : Cx} {e : List Expr} {t t' : TA} (h : PA X e t) (w : ∀ σ H Q, t' σ H Q → t σ H Q) : PA X e t' := ⟨fun pos pins s σ H Q I q => h.run pos pins s σ H Q I (w σ H Q q)⟩
theorem psW {X : Cx} {e : Stmt} {t t' : TS} (h : PS X e t) (w : ∀ D σ H, t' D σ H → t D σ H) : PS X e t' := ⟨fun pins s σ H D I q => h.run pins s σ H D I (w D σ H q)⟩
theorem pssW {X : Cx} {e : List Stmt} {t t' : TS} (h : PSs X e t) (w : ∀ D σ H, t' D σ H → t D σ H) : PSs X e t' := ⟨fun pins s σ H D I q => h.run pins s σ H D I (w D σ H q)⟩

theorem rdG_mono {W : Wd} {α β : Type} {RF : RelF α β} {f : Rho → Mo α} {σ : L2.St} {H : Hp} {Q Q' : β → Hp → Prop} (h : rdG W RF f σ H Q) (m : ∀ v H', Q v H' → Q' v H') : rdG W RF f σ H Q' := by
  obtain ⟨io, z, r, S, c, e, p⟩ := h
  exact ⟨io, z, r, S, c, e, p.mono m⟩
section
variable {W : Wd} {α β γ δ : Type} {RF : RelF α β} {RG : RelF γ δ}
/-- one part, then an operation by its value -/
theorem rd1 {f : Rho → Mo α} {k : α → Store → Res γ} {σ : L2.St} {H : Hp} {Q : δ → Hp → Prop} (h : rdG W RG (fun r S => (f r S).bind k) σ H Q) :
    rdG W RF f σ H fun v H1 => ∃ io z S a, Cells W H1 io z S ∧ RF H1 io z a v ∧ Post W RG io z H1 (k a S) Q := by
  obtain ⟨io, z, r, S, c, e, p⟩ := h
  refine ⟨io, z, r, S, c, e, (Post.bind (RF := RF) p).mono ?_⟩
  rintro v H1 ⟨io1, S1, a, _, _, c1, r1, p1⟩
  exact ⟨io1, z, S1, a, c1, r1, p1⟩
end
/-- two expressions, then an operation by their values -/
theorem rd2 {W : Wd} {γ δ : Type} {RG : RelF γ δ} {f g : Rho → Mo Dt} {k : Dt → Dt → Store → Res γ} {σ : L2.St} {H : Hp} {Q : δ → Hp → Prop}
    (h : rdG W RG (fun r S => (f r S).bind fun x S1 => (g r S1).bind fun y S2 => k x y S2) σ H Q) :
    rdE W f σ H fun u H1 => rdE W g σ H1 fun v H2 => ∃ io z S x y, Cells W H2 io z S ∧ Rep W H2 io z x u ∧ Rep W H2 io z y v ∧ Post W RG io z H2 (k x y S) Q := by
  obtain ⟨io, z, r, S, c, e, p⟩ := h
  refine ⟨io, z, r, S, c, e, (Post.bind p).mono ?_⟩
  rintro v H1 ⟨io1, S1, x, _, x1, c1, r1, p1⟩
  refine ⟨io1, z, r, S1, c1, e.ext x1, (Post.bind p1).mono ?_⟩
  rintro v2 H2 ⟨io2, S2, y, _, x2, c2, r2, p2⟩
  exact ⟨io2, z, S2, x, y, c2, r1.ext x2 x v, r2, p2⟩
/-- parts in a row, of any kinds -/
theorem rdN {W : Wd} {α β γ δ : Type} {RF : RelF α β} {RG : RelF γ δ} {f : Rho → Mo α} {k : Rho → α → Mo γ} {σ : L2.St} {H : Hp} {Q : δ → Hp → Prop} (h : rdG W RG (fun r S => (f r S).bind (k r)) σ H Q) :
    rdG W RF f σ H fun v H1 => ∃ io z r S a, Cells W H1 io z S ∧ EnvR W H1 io z r σ ∧ RF H1 io z a v ∧ Post W RG io z H1 (k r a S) Q := by
  obtain ⟨io, z, r, S, c, e, p⟩ := h
  refine ⟨io, z, r, S, c, e, (Post.bind (RF := RF) p).mono ?_⟩
  rintro v H1 ⟨io1, S1, a, _, x1, c1, r1, p1⟩
  exact ⟨io1, z, r, S1, a, c1, e.ext x1, r1, p1⟩

/-! ### shapes of values -/
theorem Rep.int_inv {W : Wd} {H : Hp} {io z : List Addr} {i : Int} {v : V} (h : Rep W H io z (.int i) v) : v = .int i := h
theorem sqT_of {W : Wd} {H : Hp} {io z : List Addr} {a : Addr} {vs : List V} (h : TupAt W.K H (io ++ z) a vs) : SqT W.K H a vs := h.elim (fun q => .inl q.2) .inr
theorem Reps.length {W : Wd} {H : Hp} {io z : List Addr} : ∀ {ds : List Dt} {vs : List V}, Reps W H io z ds vs → vs.length = ds.length
  | [], _, h => by rw [show _ = [] from h]; rfl
  | _ :: ds, _, ⟨v, r, e, _, h⟩ => by rw [e, List.length_cons, List.length_cons, Reps.length h]
theorem Reps.get {W : Wd} {H : Hp} {io z : List Addr} : ∀ {ds : List Dt} {vs : List V} {i : Nat} {d : Dt}, Reps W H io z ds vs → ds[i]? = some d → ∃ v, vs[i]? = some v ∧ Rep W H io z d v
  | [], _, _, _, _, h => by simp at h
  | _ :: ds, _, 0, d, ⟨v, r, e, h1, _⟩, h => by simp at h; subst h; subst e; exact ⟨v, rfl, h1⟩
  | _ :: ds, _, i + 1, d, ⟨v, r, e, _, h2⟩, h => by
    subst e
    obtain ⟨v', h3, h4⟩ := Reps.get (i := i) h2 (by simpa using h)
    exact ⟨v', by simpa using h3, h4⟩
theorem Reps.append {W : Wd} {H : Hp} {io z : List Addr} : ∀ {ds es : List Dt} {vs ws : List V}, Reps W H io z ds vs → Reps W H io z es ws → Reps W H io z (ds ++ es) (vs ++ ws)
  | [], _, _, _, h, h' => by rw [show _ = [] from h]; exact h'
  | _ :: ds, _, _, _, ⟨v, r, e, h1, h2⟩, h' => by subst e; exact ⟨v, _, rfl, h1, Reps.append h2 h'⟩
theorem Reps.take {W : Wd} {H : Hp} {io z : List Addr} : ∀ {ds : List Dt} {vs : List V} (n : Nat), Reps W H io z ds vs → Reps W H io z (ds.take n) (vs.take n)
  | _, _, 0, _ => rfl
  | [], _, n + 1, h => by rw [show _ = [] from h]; rfl
  | _ :: ds, _, n + 1, ⟨v, r, e, h1, h2⟩ => by subst e; exact ⟨v, _, rfl, h1, Reps.take n h2⟩
theorem Reps.drop {W : Wd} {H : Hp} {io z : List Addr} : ∀ {ds : List Dt} {vs : List V} (n : Nat), Reps W H io z ds vs → Reps W H io z (ds.drop n) (vs.drop n)
  | _, _, 0, h => h
  | [], _, n + 1, h => by rw [show _ = [] from h]; rfl
  | _ :: ds, _, n + 1, ⟨v, r, e, h1, h2⟩ => by subst e; exact Reps.drop n h2
theorem Reps.cons {W : Wd} {H : Hp} {io z : List Addr} {d : Dt} {v : V} {ds : List Dt} {vs : List V} (h : Rep W H io z d v) (hs : Reps W H io z ds vs) : Reps W H io z (d :: ds) (v :: vs) := ⟨v, vs, rfl, h, hs⟩
theorem Reps.rep {W : Wd} {H : Hp} {io z : List Addr} {ds : List Dt} {vs : List V} (h : Reps W H io z ds vs) : ∀ n, Reps W H io z (List.replicate n ds).flatten (List.replicate n vs).flatten
  | 0 => rfl
  | n + 1 => by rw [List.replicate_succ, List.replicate_succ, List.flatten_cons, List.flatten_cons]; exact h.append (h.rep n)
theorem Reps.pick {W : Wd} {H : Hp} {io z : List Addr} {ds : List Dt} {vs : List V} (h : Reps W H io z ds vs) : ∀ ix : List Nat, Reps W H io z (ix.filterMap (ds[·]?)) (ix.filterMap (vs[·]?))
  | [] => rfl
  | i :: ix => by
    have ih := h.pick ix
    cases e : ds[i]? with
    | none =>
      have e2 : vs[i]? = none := List.getElem?_eq_none_iff.mpr (by rw [h.length]; exact List.getElem?_eq_none_iff.mp e)
      simp only [List.filterMap_cons, e, e2]; exact ih
    | some d =>
      obtain ⟨v, h1, h2⟩ := h.get e
      simp only [List.filterMap_cons, e, h1]; exact .cons h2 ih
theorem Reps.set {W : Wd} {H : Hp} {io z : List Addr} {d : Dt} {v : V} (r : Rep W H io z d v) : ∀ {ds : List Dt} {vs : List V} (n : Nat), Reps W H io z ds vs → Reps W H io z (ds.set n d) (vs.set n v)
  | [], _, _, h => by rw [show _ = [] from h]; rfl
  | _ :: ds, _, 0, ⟨v, r', e, h1, h2⟩ => by subst e; exact ⟨_, _, rfl, r, h2⟩
  | _ :: ds, _, n + 1, ⟨v, r', e, h1, h2⟩ => by subst e; exact ⟨_, _, rfl, h1, Reps.set r n h2⟩
theorem Reps.erase {W : Wd} {H : Hp} {io z : List Addr} : ∀ {ds : List Dt} {vs : List V} (n : Nat), Reps W H io z ds vs → Reps W H io z (ds.eraseIdx n) (vs.eraseIdx n)
  | [], _, _, h => by rw [show _ = [] from h]; rfl
  | _ :: ds, _, 0, ⟨v, r', e, h1, h2⟩ => by subst e; exact h2
  | _ :: ds, _, n + 1, ⟨v, r', e, h1, h2⟩ => by subst e; exact ⟨_, _, rfl, h1, Reps.erase n h2⟩
theorem Reps.cut {W : Wd} {H : Hp} {io z : List Addr} {ds : List Dt} {vs : List V} (h : Reps W H io z ds vs) (lo hi : Option Int) : Reps W H io z (cutD ds lo hi) (cutV vs lo hi) := by
  unfold cutD cutV
  rw [h.length]
  exact (h.drop _).take _
/-- a list's items and where they stand -/
theorem asOwn_of {W : Wd} {H : Hp} {io z : List Addr} {S : Store} (c : Cells W H io z S) {d : Dt} {xs : List Dt} {v : V} (h : asOwn S d = some xs) (r : Rep W H io z d v) :
    ∃ a vs, v = .ref a ∧ H a = some (.lst vs) ∧ Reps W H io z xs vs := by
  cases d with
  | lst ys =>
    obtain rfl : ys = xs := Option.some.inj h
    obtain ⟨a, vs, e, n, h1, h2⟩ := r
    exact ⟨a, vs, e, h1, h2⟩
  | loc n =>
    obtain ⟨a, e, h1⟩ := r
    obtain ⟨vs, h2, h3⟩ := c.at_ n a xs h1 h
    exact ⟨a, vs, e, h2, h3⟩
  | _ => cases h
theorem Reps.ints {W : Wd} {H : Hp} {io z : List Addr} : ∀ ns : List Int, Reps W H io z (ns.map .int) (ns.map V.int)
  | [] => rfl
  | n :: ns => ⟨_, _, rfl, rfl, Reps.ints ns⟩
theorem asLst_of {W : Wd} {H : Hp} {io z : List Addr} {S : Store} (c : Cells W H io z S) {d : Dt} {xs : List Dt} {v : V} (h : asLst S d = some xs) (r : Rep W H io z d v) :
    ∃ a vs, v = .ref a ∧ SqL W.K H a vs ∧ Reps W H io z xs vs := by
  cases d with
  | scr ns =>
    obtain rfl : ns.map .int = xs := Option.some.inj h
    obtain ⟨a, e, h1⟩ := r
    exact ⟨a, _, e, h1.elim (fun q => .inl q.2) .inr, Reps.ints ns⟩
  | lst ys =>
    obtain ⟨a, vs, e, h1, h2⟩ := asOwn_of (S := S) c (d := .lst ys) h r
    exact ⟨a, vs, e, .of h1, h2⟩
  | loc n =>
    obtain ⟨a, vs, e, h1, h2⟩ := asOwn_of (S := S) c (d := .loc n) h r
    exact ⟨a, vs, e, .of h1, h2⟩
  | _ => cases h
theorem asTup_of {W : Wd} {H : Hp} {io z : List Addr} {d : Dt} {xs : List Dt} {v : V} (h : asTup d = some xs) (r : Rep W H io z d v) :
    ∃ a vs, v = .ref a ∧ TupAt W.K H (io ++ z) a vs ∧ Reps W H io z xs vs := by
  cases d with
  | tup ys =>
    obtain rfl : ys = xs := Option.some.inj h
    exact r
  | _ => cases h
theorem asSeq_of {W : Wd} {H : Hp} {io z : List Addr} {S : Store} (c : Cells W H io z S) {d : Dt} {xs : List Dt} {v : V} (h : asSeq S d = some xs) (r : Rep W H io z d v) :
    ∃ a vs, v = .ref a ∧ Reps W H io z xs vs ∧ ((asTup d = some xs ∧ SqT W.K H a vs) ∨ (asTup d = none ∧ asLst S d = some xs ∧ SqL W.K H a vs)) := by
  unfold asSeq at h
  cases e : asTup d with
  | some ys =>
    rw [e] at h
    obtain rfl : ys = xs := Option.some.inj h
    obtain ⟨a, vs, e1, h1, h2⟩ := asTup_of e r
    exact ⟨a, vs, e1, h2, .inl ⟨rfl, sqT_of h1⟩⟩
  | none =>
    rw [e] at h
    obtain ⟨a, vs, e1, h1, h2⟩ := asLst_of c h r
    exact ⟨a, vs, e1, h2, .inr ⟨rfl, h, h1⟩⟩

/-! ### new things -/
/-- a new tuple -/
theorem Post.newTup {W : Wd} {io z : List Addr} {H : Hp} {S : Store} {ds : List Dt} {vs : List V} {Q : VK} (p : Post W (fun H io z d v => Rep W H io z d v) io z H (.ok (.tup ds) S) Q) (c : Cells W H io z S) (r : Reps W H io z ds vs)
    {a : Addr} (ha : H a = none) : Q (.ref a) (upd H a (.tup vs)) := by
  have x : Ext io H io (upd H a (.tup vs)) := Ext.new ha
  exact p _ _ _ x (c.new ha) ⟨a, vs, rfl, .inl ⟨c.fresh ha, .inl upd_same⟩, Reps.ext x _ _ r⟩
/-- what is wanted of a new list: at p, changed by nothing else -/
def PostF (W : Wd) (io z : List Addr) (H : Hp) (R : Res Dt) (Q : VK) : Prop := match R with
  | .ok (.lst xs) S' => ∀ p vs H' io', Ext io H io' H' → Cells W H' io' (p :: z) S' → Reps W H' io' (p :: z) xs vs → H' p = some (.lst vs) → H p = none → Q (.ref p) H'
  | _ => False
theorem PostF.at_ {W : Wd} {io io1 z : List Addr} {H H1 : Hp} {R : Res Dt} {Q : VK} (p : PostF W io z H R Q) (x : Ext io H io1 H1) : PostF W io1 z H1 R Q := by
  cases R with
  | ok d S => cases d with
    | lst xs => exact fun a vs H' io' x' c r h n => p a vs H' io' (x.trans x') c r h (by
        cases q : H a with
        | none => rfl
        | some u => exact absurd n (x.dom a (by rw [q]; simp)))
    | _ => exact p
  | err _ _ => exact p
  | bad => exact p
theorem Cells.less {W : Wd} {H : Hp} {io z : List Addr} {S : Store} {p : Addr} (c : Cells W H io (p :: z) S) : Cells W H io z S :=
  ⟨c.len, c.nd, fun q h => c.apart q (List.mem_cons_of_mem _ h), fun q h => c.zt q (List.mem_cons_of_mem _ h), fun n a xs h1 h2 =>
    let ⟨vs, h3, h4⟩ := c.at_ n a xs h1 h2
    ⟨vs, h3, Reps.less (fun q h => List.mem_cons_of_mem _ h) _ _ h4⟩, c.nl⟩
theorem Cells.more {W : Wd} {H : Hp} {io z : List Addr} {S : Store} (c : Cells W H io z S) {p : Addr} {o : HO} (hp : H p = none) : Cells W (upd H p o) io (p :: z) S := by
  refine ⟨c.len, c.nd, fun q h => ?_, fun q h => ?_, fun n a xs h1 h2 => ?_, c.nl⟩
  · rcases List.mem_cons.mp h with h | h
    · subst h; exact fun m => c.fresh hp (List.mem_append_left _ m)
    · exact c.apart q h
  · rcases List.mem_cons.mp h with h | h
    · subst h; rw [upd_same]; simp
    · exact (Ext.new (io := io) hp).dom q (c.zt q h)
  · obtain ⟨vs, h3, h4⟩ := c.at_ n a xs h1 h2
    refine ⟨vs, by rw [upd_ne (ne_of_none h3 hp)]; exact h3, ?_⟩
    exact Reps.ext (Ext.new hp) _ _ (Reps.more hp _ _ h4)
/-- a new list is only read from now on -/
theorem PostF.frozen {W : Wd} {io z : List Addr} {H : Hp} {R : Res Dt} {Q : VK} {xs : List Dt} {S S' : Store} (c0 : Cells W H io z S) (e : R = .ok (.lst xs) S') (p : Post W (fun H io z d v => Rep W H io z d v) io z H R Q) : PostF W io z H R Q := by
  subst e
  intro a vs H' io' x c r h n
  refine p _ _ _ x c.less ⟨a, vs, rfl, ?_, h, Reps.less (fun q h => List.mem_cons_of_mem _ h) _ _ r⟩
  intro q
  rcases List.mem_append.mp q with q | q
  · exact c.apart a List.mem_cons_self q
  · exact c0.zt a q n
theorem nmem_sh {io z : List Addr} {a b : Addr} (h : a ∉ io ++ b :: z) : a ∉ (io ++ [b]) ++ z := by
  rw [List.append_assoc]; exact h
mutual
theorem Rep.shift {W : Wd} {H : Hp} {io z : List Addr} {p : Addr} : ∀ (d : Dt) (v : V), Rep W H io (p :: z) d v → Rep W H (io ++ [p]) z d v
  | .non, _, h => h
  | .bl _, _, h => h
  | .int _, _, h => h
  | .str _, _, h => h
  | .tup ds, _, ⟨a, vs, h1, h2, h3⟩ => ⟨a, vs, h1, h2.elim (fun q => .inl ⟨nmem_sh q.1, q.2⟩) .inr, Reps.shift ds vs h3⟩
  | .lst ds, _, ⟨a, vs, h1, h2, h3, h4⟩ => ⟨a, vs, h1, nmem_sh h2, h3, Reps.shift ds vs h4⟩
  | .dct, _, ⟨a, h1, h2, h3⟩ => ⟨a, h1, nmem_sh h2, h3⟩
  | .loc n, _, ⟨a, h1, h2⟩ => ⟨a, h1, by rw [List.getElem?_append_left (List.getElem?_eq_some_iff.mp h2).1]; exact h2⟩
  | .fn _, _, h => h
  | .clo _ _, _, h => h.elim
  | .scr _, _, ⟨a, h1, h2⟩ => ⟨a, h1, h2.elim (fun q => .inl ⟨nmem_sh q.1, q.2⟩) .inr⟩
theorem Reps.shift {W : Wd} {H : Hp} {io z : List Addr} {p : Addr} : ∀ (ds : List Dt) (vs : List V), Reps W H io (p :: z) ds vs → Reps W H (io ++ [p]) z ds vs
  | [], _, h => h
  | d :: ds, _, ⟨v, r, h1, h2, h3⟩ => ⟨v, r, h1, Rep.shift d v h2, Reps.shift ds r h3⟩
end
theorem Cells.shift {W : Wd} {H : Hp} {io z : List Addr} {S : Store} {p : Addr} {xs : List Dt} {vs : List V} (c : Cells W H io (p :: z) S) (hz : p ∉ z) (r : Reps W H io (p :: z) xs vs) (h : H p = some (.lst vs)) (hn : nlAll xs = true) :
    Cells W H (io ++ [p]) z (S ++ [xs]) := by
  have np : p ∉ io := c.apart p List.mem_cons_self
  refine ⟨by simp [c.len], ?_, fun q hq => ?_, fun q hq => c.zt q (List.mem_cons_of_mem _ hq), fun n a ys h1 h2 => ?_, fun ys hy => ?_⟩
  · exact List.nodup_append.mpr ⟨c.nd, by simp, fun a ha b hb e => by
      have : b = p := by simpa using hb
      subst this; subst e; exact np ha⟩
  · intro m
    rcases List.mem_append.mp m with m | m
    · exact c.apart q (List.mem_cons_of_mem _ hq) m
    · have : q = p := by simpa using m
      subst this; exact hz hq
  · by_cases hl : n < io.length
    · rw [List.getElem?_append_left hl] at h1
      rw [List.getElem?_append_left (by rw [← c.len]; exact hl)] at h2
      obtain ⟨ws, h3, h4⟩ := c.at_ n a ys h1 h2
      exact ⟨ws, h3, Reps.shift _ _ h4⟩
    · rw [List.getElem?_append_right (by omega)] at h1
      rw [List.getElem?_append_right (by rw [← c.len]; omega)] at h2
      have e1 : n - io.length = 0 := by
        have := (List.getElem?_eq_some_iff.mp h1).1
        simp at this; omega
      have e2 : n - S.length = 0 := by rw [← c.len]; exact e1
      rw [e1] at h1; rw [e2] at h2
      simp at h1 h2
      subst h1; subst h2
      exact ⟨vs, h, Reps.shift _ _ r⟩
  · rcases List.mem_append.mp hy with hy | hy
    · exact c.nl ys hy
    · have : ys = xs := by simpa using hy
      subst this; exact hn
theorem PostF.thawed {W : Wd} {io z : List Addr} {H : Hp} {R : Res Dt} {Q : VK} {S : Store} (c0 : Cells W H io z S) (p : Post W (fun H io z d v => Rep W H io z d v) io z H (R.bind thawK) Q) : PostF W io z H R Q := by
  cases R with
  | err _ _ => exact p
  | bad => exact p
  | ok d S' => cases d with
    | lst xs =>
      intro a vs H' io' x c r h n
      have p : Post W (fun H io z d v => Rep W H io z d v) io z H (if nlAll xs then .ok (.loc S'.length) (S' ++ [xs]) else .bad) Q := p
      split at p
      · rename_i hn
        have hz : a ∉ z := fun q => c0.zt a q n
        obtain ⟨nw, e, f⟩ := x.pre
        refine p (.ref a) H' (io' ++ [a]) ⟨⟨nw ++ [a], by rw [e, List.append_assoc], fun q hq => ?_⟩, x.keep, x.dom⟩ (c.shift hz r h hn) ⟨a, rfl, ?_⟩
        · rcases List.mem_append.mp hq with hq | hq
          · exact f q hq
          · have : q = a := by simpa using hq
            subst this; exact n
        · rw [← c.len]; simp
      · exact p.elim
    | _ => exact p
def rdF (W : Wd) (f : Rho → Mo Dt) : TE := fun σ H Q => ∃ io z r S, Cells W H io z S ∧ EnvR W H io z r σ ∧ PostF W io z H (f r S) Q
/-- a new list, in general -/
theorem Post.newF {W : Wd} {io z : List Addr} {H : Hp} {S : Store} {xs : List Dt} {vs : List V} {Q : VK} (p : PostF W io z H (.ok (.lst xs) S) Q) (c : Cells W H io z S) (r : Reps W H io z xs vs) {a : Addr} (ha : H a = none) : Q (.ref a) (upd H a (.lst vs)) :=
  p a vs _ io (Ext.new ha) (c.more ha) (Reps.ext (Ext.new ha) _ _ (Reps.more ha _ _ r)) upd_same ha
theorem PostF.bind {α β : Type} {W : Wd} {RF : RelF α β} {io z : List Addr} {H : Hp} {R : Res α} {f : α → Store → Res Dt} {Q : VK} (p : PostF W io z H (R.bind f) Q) :
    Post W RF io z H R fun v H1 => ∃ io1 S1 a, R = .ok a S1 ∧ Ext io H io1 H1 ∧ Cells W H1 io1 z S1 ∧ RF H1 io1 z a v ∧ PostF W io1 z H1 (f a S1) Q := by
  cases R with
  | ok d S => exact fun v H' io' x c r => ⟨io', S, d, rfl, x, c, r, PostF.at_ (show PostF W io z H (f d S) Q from p) x⟩
  | err _ _ => exact p
  | bad => exact p
theorem rf1 {W : Wd} {α β : Type} {RF : RelF α β} {f : Rho → Mo α} {k : α → Store → Res Dt} {σ : L2.St} {H : Hp} {Q : VK} (h : rdF W (fun r S => (f r S).bind k) σ H Q) :
    rdG W RF f σ H fun v H1 => ∃ io z S a, Cells W H1 io z S ∧ RF H1 io z a v ∧ PostF W io z H1 (k a S) Q := by
  obtain ⟨io, z, r, S, c, e, p⟩ := h
  refine ⟨io, z, r, S, c, e, (PostF.bind (RF := RF) p).mono ?_⟩
  rintro v H1 ⟨io1, S1, a, _, _, c1, r1, p1⟩
  exact ⟨io1, z, S1, a, c1, r1, p1⟩
theorem rf2 {W : Wd} {f g : Rho → Mo Dt} {k : Dt → Dt → Store → Res Dt} {σ : L2.St} {H : Hp} {Q : VK}
    (h : rdF W (fun r S => (f r S).bind fun x S1 => (g r S1).bind fun y S2 => k x y S2) σ H Q) :
    rdE W f σ H fun u H1 => rdE W g σ H1 fun v H2 => ∃ io z S x y, Cells W H2 io z S ∧ Rep W H2 io z x u ∧ Rep W H2 io z y v ∧ PostF W io z H2 (k x y S) Q := by
  obtain ⟨io, z, r, S, c, e, p⟩ := h
  refine ⟨io, z, r, S, c, e, (PostF.bind p).mono ?_⟩
  rintro v H1 ⟨io1, S1, x, _, x1, c1, r1, p1⟩
  refine ⟨io1, z, r, S1, c1, e.ext x1, (PostF.bind p1).mono ?_⟩
  rintro v2 H2 ⟨io2, S2, y, _, x2, c2, r2, p2⟩
  exact ⟨io2, z, S2, x, y, c2, r1.ext x2 x v, r2, p2⟩
/-- the pure run makes a new list: what a list-maker's run ends with -/
theorem rdF_of {W : Wd} {f : Rho → Mo Dt} {σ : L2.St} {H : Hp} {Q : VK} (hf : ∀ r S, (∃ xs S', f r S = .ok (.lst xs) S') ∨ f r S = .bad ∨ ∃ x S', f r S = .err x S') (h : rdE W f σ H Q) : rdF W f σ H Q := by
  obtain ⟨io, z, r, S, c, e, p⟩ := h
  refine ⟨io, z, r, S, c, e, ?_⟩
  rcases hf r S with ⟨xs, S', q⟩ | q | ⟨x, S', q⟩
  · exact PostF.frozen c q p
  · rw [q] at p; exact p.elim
  · rw [q] at p; exact p.elim
theorem rdF_thaw {W : Wd} {f : Rho → Mo Dt} {σ : L2.St} {H : Hp} {Q : VK} (h : rdE W (fun r S => (f r S).bind thawK) σ H Q) : rdF W f σ H Q := by
  obtain ⟨io, z, r, S, c, e, p⟩ := h
  exact ⟨io, z, r, S, c, e, PostF.thawed c p⟩
end Pz
namespace Pz
open PySem PySem.Spec PyProof.Rows L2

abbrev RepW (W : Wd) : RelF Dt V := fun H io z d v => Rep W H io z d v
section
variable {X : Cx} {fa : Nat → Addr} {pos : Pos}

/-! ### names, constants -/
theorem s_var {i : Nat} {x : Str} (hN : X.N[i]? = some x) (hv : Vis X.env.scope x) (hd : (x == ("__debug__" : Str)) = false) (hcd : (x == ("__classdict__" : Str)) = false) :
    PE X (.Name x pos) (rdE (Wd.mk X.K fa) fun r S => getR r i S) := by
  refine peW (pe_var hN hv hd hcd) fun σ H Q ⟨io, z, r, S, c, e, p⟩ => ?_
  have p : Post (Wd.mk X.K fa) (RepW (Wd.mk X.K fa)) io z H (getR r i S) Q := p
  unfold getR at p
  cases q : r[i]? with
  | none => rw [q] at p; exact p.elim
  | some o => cases o with
    | none => rw [q] at p; exact p.elim
    | some d =>
      rw [q] at p
      obtain ⟨v, h1, h2⟩ := e.at_ i d q
      exact ⟨v, h1, p.here c h2⟩
theorem s_con {e : Expr} {v : V} {d : Dt} (h : PE X e (tC v)) (hr : ∀ H io z, Rep (Wd.mk X.K fa) H io z d v) : PE X e (rdE (Wd.mk X.K fa) fun _ S => .ok d S) :=
  peW h fun σ H Q ⟨io, z, r, S, c, e, p⟩ => p.here c (hr H io z)
theorem s_cont {e : Expr} {b : Bool} (h : PE X e (tC (.bl b))) (hp : ∀ {t}, PE X e t → PT X e (tB t)) : PT X e (rdT (Wd.mk X.K fa) fun _ S => .ok (.bl b) S) :=
  ptW (hp h) fun σ H Q ⟨io, z, r, S, c, e, p⟩ => ⟨b, rfl, p.here c rfl⟩

/-! ### operators -/
theorem op_fdivX : OpR X (binaryOp .FloorDiv) (rI (fun i j => okDiv i j = true) fun i j => .int (i.fdiv j)) := opI fun i j _ _ _ _ _ hc q => by
  obtain ⟨h1, h2⟩ := Bool.and_eq_true_iff.mp hc
  exact floordiv_int (of_decide_eq_true h1) q (.inl (by simpa using h2))
def bopA : BOp → Operator
  | .add => .Add | .sub => .Sub | .mul => .Mult | .fdiv => .FloorDiv | .mod => .Mod | .pow => .Pow
def rB (K : PySem.W.Frag) : BOp → R2
  | .add => fun x y H Q => rI0 (fun i j => .int (i + j)) x y H Q ∨ rCatA K x y H Q
  | .sub => rI0 fun i j => .int (i - j)
  | .mul => rI CMulW fun i j => .int (i * j)
  | .fdiv => rI (fun i j => okDiv i j = true) fun i j => .int (i.fdiv j)
  | .mod => rI (fun _ j => j ≠ 0) fun i j => .int (i.fmod j)
  | .pow => rI CPow fun i j => .int (i ^ j.toNat)
theorem op_bin : ∀ o : BOp, OpR X (binaryOp (bopA o)) (rB X.K o)
  | .add => OpR.or op_add op_catA
  | .sub => op_sub
  | .mul => op_mulW
  | .fdiv => op_fdivX
  | .mod => op_modN
  | .pow => op_pow
theorem okLen_line {n : Nat} (h : okLen n = true) : n ≤ sizeLine := by
  have h1 : n ≤ 1000000 := of_decide_eq_true h
  have e : sizeLine = 16777216 := by decide
  omega
theorem post_bin {K : PySem.W.Frag} {fa : Nat → Addr} {io z : List Addr} {H : Hp} {S : Store} {x y : Dt} {u v : V} {Q : VK} {o : BOp} (c : Cells ⟨K, fa⟩ H io z S) (r1 : Rep ⟨K, fa⟩ H io z x u) (r2 : Rep ⟨K, fa⟩ H io z y v)
    (p : Post ⟨K, fa⟩ (RepW ⟨K, fa⟩) io z H (binD S o x y) Q) : rB K o u v H Q := by
  cases x with
  | int i =>
    cases y with
    | int j =>
      obtain rfl : u = .int i := r1
      obtain rfl : v = .int j := r2
      cases o with
      | add => exact .inl ⟨i, j, rfl, rfl, Post.here p c rfl⟩
      | sub => exact ⟨i, j, rfl, rfl, Post.here p c rfl⟩
      | mul =>
        have p : Post ⟨K, fa⟩ (RepW ⟨K, fa⟩) io z H (if okMul i j then .ok (.int (i * j)) S else .bad) Q := p
        split at p
        · rename_i h
          exact ⟨i, j, rfl, rfl, (of_decide_eq_true h : _ < _), Post.here p c rfl⟩
        · exact p.elim
      | fdiv =>
        have p : Post ⟨K, fa⟩ (RepW ⟨K, fa⟩) io z H (if okDiv i j then .ok (.int (i.fdiv j)) S else .bad) Q := p
        split at p
        · rename_i h
          exact ⟨i, j, rfl, rfl, h, Post.here p c rfl⟩
        · exact p.elim
      | mod =>
        have p : Post ⟨K, fa⟩ (RepW ⟨K, fa⟩) io z H (if decide (j ≠ 0) then .ok (.int (i.fmod j)) S else .bad) Q := p
        split at p
        · rename_i h
          exact ⟨i, j, rfl, rfl, of_decide_eq_true h, Post.here p c rfl⟩
        · exact p.elim
      | pow =>
        have p : Post ⟨K, fa⟩ (RepW ⟨K, fa⟩) io z H (if decide (0 ≤ j ∧ j ≤ 1000000 ∧ i.natAbs < 2 ^ 64) then .ok (.int (i ^ j.toNat)) S else .bad) Q := p
        split at p
        · rename_i h
          exact ⟨i, j, rfl, rfl, (of_decide_eq_true h : _ ∧ _ ∧ _), Post.here p c rfl⟩
        · exact p.elim
    | _ => exact p.elim
  | tup xs =>
    cases y with
    | tup ys =>
      cases o with
      | add =>
        have p : Post ⟨K, fa⟩ (RepW ⟨K, fa⟩) io z H (if okLen (xs.length + ys.length) then .ok (.tup (xs ++ ys)) S else .bad) Q := p
        split at p
        · rename_i h
          obtain ⟨a, vs, rfl, h1, h2⟩ := r1
          obtain ⟨b, ws, rfl, h3, h4⟩ := r2
          refine .inr ⟨a, b, vs, ws, rfl, rfl, sqT_of h1, sqT_of h3, by rw [h2.length, h4.length]; exact okLen_line h, fun e => ?_, fun _ e => ?_, fun _ _ q hq => ?_⟩
          · subst e
            have : xs = [] := List.eq_nil_of_length_eq_zero (by rw [← h2.length]; rfl)
            subst this
            exact Post.here p c ⟨b, ws, rfl, h3, h4⟩
          · subst e
            have : ys = [] := List.eq_nil_of_length_eq_zero (by rw [← h4.length]; rfl)
            subst this
            rw [List.append_nil] at p
            exact Post.here p c ⟨a, vs, rfl, h1, h2⟩
          · exact Post.newTup p c (h2.append h4) hq
        · exact p.elim
      | _ => exact p.elim
    | _ => exact p.elim
  | _ => exact p.elim
theorem s_bin {o : BOp} {a b : Expr} {f g : Rho → Mo Dt} (ha : PE X a (rdE (Wd.mk X.K fa) f)) (hb : PE X b (rdE (Wd.mk X.K fa) g)) :
    PE X (.BinOp a (bopA o) b pos) (rdE (Wd.mk X.K fa) fun r S => (f r S).bind fun x S1 => (g r S1).bind fun y S2 => binD S2 o x y) :=
  peW (pe_op (op_bin o) ha hb) fun σ H Q h => rdG_mono (rd2 h) fun v1 H1 h1 => rdG_mono h1 fun v2 H2 ⟨io, z, S, x, y, c, r1, r2, p⟩ => post_bin c r1 r2 p

theorem s_cat {a b : Expr} {f g : Rho → Mo Dt} (ha : PE X a (rdE (Wd.mk X.K fa) f)) (hb : PE X b (rdE (Wd.mk X.K fa) g)) :
    PE X (.BinOp a .Add b pos) (rdF (Wd.mk X.K fa) fun r S => (f r S).bind fun x S1 => (g r S1).bind fun y S2 => catK x y S2) := by
  refine peW (pe_op op_cat ha hb) fun σ H Q h => rdG_mono (rf2 h) fun v1 H1 h1 => rdG_mono h1 fun v2 H2 ⟨io, z, S, x, y, c, r1, r2, p⟩ => ?_
  unfold catK at p
  cases q : catD S x y with
  | none => simp only [q] at p; exact p.elim
  | some xs =>
    simp only [q] at p
    unfold catD at q
    cases e1 : asOwn S x with
    | none => rw [e1] at q; cases q
    | some as => cases e2 : asOwn S y with
      | none => rw [e1, e2] at q; cases q
      | some bs =>
        rw [e1, e2] at q
        simp only at q
        split at q
        · rename_i h
          obtain rfl := Option.some.inj q
          obtain ⟨a, vs, rfl, h1, h2⟩ := asOwn_of c e1 r1
          obtain ⟨b, ws, rfl, h3, h4⟩ := asOwn_of c e2 r2
          exact ⟨a, b, vs, ws, rfl, rfl, h1, h3, by rw [h2.length, h4.length]; exact okLen_line h, fun l hl => Post.newF p c (h2.append h4) hl⟩
        · cases q
theorem s_rep {a b : Expr} {f g : Rho → Mo Dt} (ha : PE X a (rdE (Wd.mk X.K fa) f)) (hb : PE X b (rdE (Wd.mk X.K fa) g)) :
    PE X (.BinOp a .Mult b pos) (rdF (Wd.mk X.K fa) fun r S => (f r S).bind fun x S1 => (g r S1).bind fun y S2 => repK x y S2) := by
  refine peW (pe_op op_rep ha hb) fun σ H Q h => rdG_mono (rf2 h) fun v1 H1 h1 => rdG_mono h1 fun v2 H2 ⟨io, z, S, x, y, c, r1, r2, p⟩ => ?_
  unfold repK at p
  cases y with
  | int k =>
    simp only at p
    obtain rfl : v2 = .int k := r2
    cases q : repD S x k with
    | none => simp only [q] at p; exact p.elim
    | some xs =>
      simp only [q] at p
      unfold repD at q
      cases e1 : asOwn S x with
      | none => rw [e1] at q; cases q
      | some as =>
        rw [e1] at q
        simp only at q
        split at q
        · rename_i h
          obtain rfl := Option.some.inj q
          obtain ⟨hk, hl⟩ := Bool.and_eq_true_iff.mp h
          obtain ⟨k1, k2⟩ := of_decide_eq_true hk
          obtain ⟨a, vs, rfl, h1, h2⟩ := asOwn_of c e1 r1
          exact ⟨a, k, vs, rfl, rfl, h1, k1, k2, by rw [h2.length]; exact okLen_line hl, fun l hl => Post.newF p c (h2.rep _) hl⟩
        · cases q
  | _ => exact p.elim
theorem s_neg {a : Expr} {f : Rho → Mo Dt} (ha : PE X a (rdE (Wd.mk X.K fa) f)) :
    PE X (.UnaryOp .USub a pos) (rdE (Wd.mk X.K fa) fun r S => (f r S).bind fun x S1 => negK x S1) := by
  refine peW (pe_un un_neg ha) fun σ H Q h => rdG_mono (rd1 (RF := RepW _) h) fun v1 H1 ⟨io, z, S, x, c, r1, p⟩ => ?_
  cases x with
  | int i => exact ⟨i, r1, Post.here p c rfl⟩
  | _ => exact p.elim
def copA : COp → CmpOp
  | .lt => .Lt | .le => .LtE | .gt => .Gt | .ge => .GtE
theorem op_cop : ∀ o : COp, OpR X (compareOp (copA o)) (rI0 fun i j => .bl (o.ev i j))
  | .lt => op_lt
  | .le => op_le
  | .gt => op_gt
  | .ge => op_ge
theorem cop_mark (o : COp) (b : Expr) : behindInMarks (copA o) b = false := by cases o <;> exact nomark _
/-- a comparison by its rule, as a value and as a test -/
theorem s_cmpG {op : CmpOp} {R2' : R2} {a b : Expr} {f g : Rho → Mo Dt} {k : Dt → Dt → Store → Res Dt} (ho : OpR X (compareOp op) R2') (hm : behindInMarks op b = false) (ha : PE X a (rdE (Wd.mk X.K fa) f)) (hb : PE X b (rdE (Wd.mk X.K fa) g))
    (hk : ∀ io z S x y u v H Q, Cells (Wd.mk X.K fa) H io z S → Rep (Wd.mk X.K fa) H io z x u → Rep (Wd.mk X.K fa) H io z y v → (∃ t, k x y S = .ok (.bl t) S ∧ Q (.bl t) H) → R2' u v H Q) (hk2 : ∀ S x y, (∃ t, k x y S = .ok (.bl t) S) ∨ k x y S = .bad) :
    PE X (.Compare a [op] [b] pos) (rdE (Wd.mk X.K fa) fun r S => (f r S).bind fun x S1 => (g r S1).bind fun y S2 => k x y S2) ∧
    PT X (.Compare a [op] [b] pos) (rdT (Wd.mk X.K fa) fun r S => (f r S).bind fun x S1 => (g r S1).bind fun y S2 => k x y S2) := by
  refine ⟨peW (pe_cmpR ho ha hb hm) fun σ H Q h => rdG_mono (rd2 h) fun v1 H1 h1 => rdG_mono h1 fun v2 H2 ⟨io, z, S, x, y, c, r1, r2, p⟩ => ?_, ptW (pt_cmpR ho ha hb hm) fun σ H Q h => ?_⟩
  · rcases hk2 S x y with ⟨t, q⟩ | q
    · rw [q] at p
      exact hk io z S x y v1 v2 H2 Q c r1 r2 ⟨t, q, Post.here p c rfl⟩
    · rw [q] at p; exact p.elim
  · have h' : rdG (Wd.mk X.K fa) (fun _ _ _ (b : Bool) b' => b' = b) (fun r S => (f r S).bind fun x S1 => (g r S1).bind fun y S2 => toB (k x y S2)) σ H Q := by
      obtain ⟨io, z, r, S, c, e, p⟩ := h
      refine ⟨io, z, r, S, c, e, ?_⟩
      show Post _ _ io z H ((f r S).bind fun x S1 => (g r S1).bind fun y S2 => toB (k x y S2)) Q
      have e : toB ((f r S).bind fun x S1 => (g r S1).bind fun y S2 => k x y S2) = ((f r S).bind fun x S1 => (g r S1).bind fun y S2 => toB (k x y S2)) := by
        cases f r S with
        | ok a S1 =>
          show toB ((g r S1).bind fun y S2 => k a y S2) = ((g r S1).bind fun y S2 => toB (k a y S2))
          cases g r S1 <;> rfl
        | err _ _ => rfl
        | bad => rfl
      rw [← e]; exact p
    refine rdG_mono (rd2 h') fun v1 H1 h1 => rdG_mono h1 fun v2 H2 ⟨io, z, S, x, y, c, r1, r2, p⟩ => ?_
    rcases hk2 S x y with ⟨t, q⟩ | q
    · rw [q] at p
      exact hk io z S x y v1 v2 H2 _ c r1 r2 ⟨t, q, t, rfl, Post.here p c rfl⟩
    · rw [q] at p; exact p.elim
theorem s_cmp {o : COp} {a b : Expr} {f g : Rho → Mo Dt} (ha : PE X a (rdE (Wd.mk X.K fa) f)) (hb : PE X b (rdE (Wd.mk X.K fa) g)) :
    PE X (.Compare a [copA o] [b] pos) (rdE (Wd.mk X.K fa) fun r S => (f r S).bind fun x S1 => (g r S1).bind fun y S2 => cmpK o x y S2) ∧
    PT X (.Compare a [copA o] [b] pos) (rdT (Wd.mk X.K fa) fun r S => (f r S).bind fun x S1 => (g r S1).bind fun y S2 => cmpK o x y S2) := by
  refine s_cmpG (op_cop o) (cop_mark o b) ha hb (fun io z S x y u v H Q c r1 r2 ⟨t, e, q⟩ => ?_) fun S x y => ?_
  · cases x with
    | int i => cases y with
      | int j =>
        injection e with e1 e2
        injection e1 with e1
        exact ⟨i, j, r1, r2, by show Q (.bl (o.ev i j)) H; rw [e1]; exact q⟩
      | _ => cases e
    | _ => cases e
  · cases x with
    | int i => cases y with
      | int j => exact .inl ⟨_, rfl⟩
      | _ => exact .inr rfl
    | _ => exact .inr rfl
end
end Pz
namespace Pz
open PySem PySem.Spec PyProof.Rows L2

/-! ### data -/
mutual
theorem dp_of {W : Wd} {H : Hp} {io z : List Addr} : ∀ (d : Dt) (v : V) (p : PyData), toPD0 d = some p → Rep W H io z d v → Dp W.K H v p
  | .non, _, _, h, r => by cases h; rw [show _ = V.non from r]; exact .non
  | .bl b, _, _, h, r => by cases h; rw [show _ = V.bl b from r]; exact .bl b
  | .int i, _, _, h, r => by cases h; rw [show _ = V.int i from r]; exact .int i
  | .str x, _, _, h, r => by cases h; rw [show _ = V.str x from r]; exact .str x
  | .tup ds, _, p, h, ⟨a, vs, e, h1, h2⟩ => by
    have h : (toPDs0 ds).map .tuple = some p := h
    cases q : toPDs0 ds with
    | none => rw [q] at h; cases h
    | some ps =>
      rw [q] at h; cases h; subst e
      exact .tup (sqT_of h1) (dps_of ds vs ps q h2)
  | .lst ds, _, p, h, ⟨a, vs, e, _, h1, h2⟩ => by
    have h : (toPDs0 ds).map .list = some p := h
    cases q : toPDs0 ds with
    | none => rw [q] at h; cases h
    | some ps =>
      rw [q] at h; cases h; subst e
      exact .lst (.of h1) (dps_of ds vs ps q h2)
  | .dct, _, _, h, _ => by cases h
  | .loc _, _, _, h, _ => by cases h
  | .fn _, _, _, h, _ => by cases h
  | .clo _ _, _, _, h, _ => by cases h
  | .scr _, _, _, h, _ => by cases h
theorem dps_of {W : Wd} {H : Hp} {io z : List Addr} : ∀ (ds : List Dt) (vs : List V) (ps : List PyData), toPDs0 ds = some ps → Reps W H io z ds vs → DpAll W.K H vs ps
  | [], _, _, h, r => by cases h; rw [show _ = [] from r]; exact .nil
  | d :: ds, _, ps, h, ⟨v, r, e, h1, h2⟩ => by
    have h : (match toPD0 d, toPDs0 ds with | some a, some b => some (a :: b) | _, _ => none) = some ps := h
    cases q1 : toPD0 d with
    | none => rw [q1] at h; cases h
    | some a => cases q2 : toPDs0 ds with
      | none => rw [q1, q2] at h; cases h
      | some b =>
        rw [q1, q2] at h; cases h; subst e
        exact .cons (dp_of d v a q1 h1) (dps_of ds r b q2 h2)
end
theorem dpS_of {W : Wd} {H : Hp} {io z : List Addr} {S : Store} (c : Cells W H io z S) {d : Dt} {v : V} {p : PyData} (h : toPD S d = some p) (r : Rep W H io z d v) : Dp W.K H v p := by
  cases d with
  | loc n =>
    have h : (S[n]?.bind toPDs0).map .list = some p := h
    obtain ⟨a, e, h1⟩ := r
    cases q : S[n]? with
    | none => rw [q] at h; cases h
    | some xs =>
      rw [q] at h
      have h : (toPDs0 xs).map .list = some p := h
      obtain ⟨vs, h2, h3⟩ := c.at_ n a xs h1 q
      cases q2 : toPDs0 xs with
      | none => rw [q2] at h; cases h
      | some ps =>
        rw [q2] at h; cases h; subst e
        exact .lst (.of h2) (dps_of xs vs ps q2 h3)
  | _ => exact dp_of _ v p h r

section
variable {X : Cx} {fa : Nat → Addr} {pos : Pos}
def eqA : Bool → CmpOp
  | false => .Eq | true => .NotEq
def rEqN (K : PySem.W.Frag) (ng : Bool) : R2 := fun x y H Q => ∃ d e, Dp K H x d ∧ Dp K H y e ∧ SeqAt.shaped d = true ∧ SeqAt.shaped e = true ∧ Q (.bl (ng != PyData.eqv d e)) H
theorem op_eqN (hu : X.A.units + 64 < cLine) : ∀ ng : Bool, OpR X (compareOp (eqA ng)) (rEqN X.K ng)
  | false => fun pins s σ H x y v u Q I rx ry ⟨d, e, h1, h2, h3, h4, q⟩ => op_eqD hu pins s σ H x y v u Q I rx ry ⟨d, e, h1, h2, h3, h4, by rw [show (PyData.eqv d e) = (false != PyData.eqv d e) from by simp]; exact q⟩
  | true => fun pins s σ H x y v u Q I rx ry ⟨d, e, h1, h2, h3, h4, q⟩ => op_neD hu pins s σ H x y v u Q I rx ry ⟨d, e, h1, h2, h3, h4, by rw [show (!PyData.eqv d e) = (true != PyData.eqv d e) from by simp]; exact q⟩
theorem s_eq {ng : Bool} (hu : X.A.units + 64 < cLine) {a b : Expr} {f g : Rho → Mo Dt} (ha : PE X a (rdE (Wd.mk X.K fa) f)) (hb : PE X b (rdE (Wd.mk X.K fa) g)) :
    PE X (.Compare a [eqA ng] [b] pos) (rdE (Wd.mk X.K fa) fun r S => (f r S).bind fun x S1 => (g r S1).bind fun y S2 => eqD S2 ng x y) ∧
    PT X (.Compare a [eqA ng] [b] pos) (rdT (Wd.mk X.K fa) fun r S => (f r S).bind fun x S1 => (g r S1).bind fun y S2 => eqD S2 ng x y) := by
  refine s_cmpG (k := fun x y S2 => eqD S2 ng x y) (op_eqN hu ng) (by cases ng <;> exact nomark _) ha hb (fun io z S x y u v H Q c r1 r2 ⟨t, e, q⟩ => ?_) fun S x y => ?_
  · unfold eqD at e
    cases q1 : toPD S x with
    | none => rw [q1] at e; cases e
    | some a => cases q2 : toPD S y with
      | none => rw [q1, q2] at e; cases e
      | some b =>
        rw [q1, q2] at e
        simp only at e
        split at e
        · rename_i h
          obtain ⟨h1, h2⟩ := Bool.and_eq_true_iff.mp h
          injection e with e1 _
          injection e1 with e1
          exact ⟨a, b, dpS_of c q1 r1, dpS_of c q2 r2, h1, h2, by rw [e1]; exact q⟩
        · cases e
  · unfold eqD
    cases toPD S x with
    | none => exact .inr rfl
    | some a => cases toPD S y with
      | none => exact .inr rfl
      | some b =>
        simp only
        split
        · exact .inl ⟨_, rfl⟩
        · exact .inr rfl
def isA : Bool → CmpOp
  | false => .Is | true => .IsNot
def rIsA (ng : Bool) : R2 := fun x y H Q => (y = .non ∧ Q (.bl (ng != decide (x = .non))) H) ∨ ∃ a b : Bool, x = .bl a ∧ y = .bl b ∧ Q (.bl (ng != decide (a = b))) H
theorem op_isA : ∀ ng : Bool, OpR X (compareOp (isA ng)) (rIsA ng)
  | false => fun pins s σ H x y v u Q I rx ry q => by
    rcases q with ⟨h, q⟩ | ⟨a, b, h1, h2, q⟩
    · exact op_isN pins s σ H x y v u Q I rx ry ⟨h, by rw [show decide (x = V.non) = (false != decide (x = V.non)) from by simp]; exact q⟩
    · exact op_isBl pins s σ H x y v u Q I rx ry ⟨a, b, h1, h2, by rw [show decide (a = b) = (false != decide (a = b)) from by simp]; exact q⟩
  | true => fun pins s σ H x y v u Q I rx ry q => by
    rcases q with ⟨h, q⟩ | ⟨a, b, h1, h2, q⟩
    · exact op_notN pins s σ H x y v u Q I rx ry ⟨h, by rw [show (!decide (x = V.non)) = (true != decide (x = V.non)) from by simp]; exact q⟩
    · exact op_notBl pins s σ H x y v u Q I rx ry ⟨a, b, h1, h2, by rw [show (!decide (a = b)) = (true != decide (a = b)) from by simp]; exact q⟩
theorem rep_non {W : Wd} {H : Hp} {io z : List Addr} {d : Dt} {v : V} (r : Rep W H io z d v) : decide (v = .non) = d.isNon := by
  cases d with
  | non => rw [show v = .non from r]; rfl
  | bl b => rw [show v = .bl b from r]; rfl
  | int b => rw [show v = .int b from r]; rfl
  | str b => rw [show v = .str b from r]; rfl
  | tup _ => obtain ⟨a, vs, e, _⟩ := r; rw [e]; rfl
  | lst _ => obtain ⟨a, vs, e, _⟩ := r; rw [e]; rfl
  | dct => obtain ⟨a, e, _⟩ := r; rw [e]; rfl
  | loc _ => obtain ⟨a, e, _⟩ := r; rw [e]; rfl
  | fn _ => rw [show v = .ref _ from r]; rfl
  | clo _ _ => exact r.elim
  | scr _ => obtain ⟨a, e, _⟩ := r; rw [e]; rfl
theorem s_is {ng : Bool} {a b : Expr} {f g : Rho → Mo Dt} (ha : PE X a (rdE (Wd.mk X.K fa) f)) (hb : PE X b (rdE (Wd.mk X.K fa) g)) :
    PE X (.Compare a [isA ng] [b] pos) (rdE (Wd.mk X.K fa) fun r S => (f r S).bind fun x S1 => (g r S1).bind fun y S2 => isD S2 ng x y) ∧
    PT X (.Compare a [isA ng] [b] pos) (rdT (Wd.mk X.K fa) fun r S => (f r S).bind fun x S1 => (g r S1).bind fun y S2 => isD S2 ng x y) := by
  refine s_cmpG (k := fun x y S2 => isD S2 ng x y) (op_isA ng) (by cases ng <;> exact nomark _) ha hb (fun io z S x y u v H Q c r1 r2 ⟨t, e, q⟩ => ?_) fun S x y => ?_
  · cases y with
    | non =>
      have e : Res.ok (Dt.bl (ng != x.isNon)) S = Res.ok (Dt.bl t) S := e
      injection e with e1 _
      injection e1 with e1
      exact .inl ⟨r2, by rw [rep_non r1, e1]; exact q⟩
    | bl b =>
      cases x with
      | bl a =>
        have e : Res.ok (Dt.bl (ng != decide (a = b))) S = Res.ok (Dt.bl t) S := e
        injection e with e1 _
        injection e1 with e1
        exact .inr ⟨a, b, r1, r2, by rw [e1]; exact q⟩
      | _ => cases e
    | _ => cases e
  · cases y with
    | non => exact .inl ⟨_, rfl⟩
    | bl b => cases x with
      | bl a => exact .inl ⟨_, rfl⟩
      | _ => exact .inr rfl
    | _ => exact .inr rfl

/-! ### and, or, not, if -/
/-- an expression that gives True or False, as a test -/
theorem pt_of {e : Expr} {f : Rho → Mo Dt} (h : PE X e (rdE (Wd.mk X.K fa) f)) (he : ∀ whole, isTrue e X.env whole = (do let v ← whole; standAt e.pos; holding [v] (truthy v))) : PT X e (rdT (Wd.mk X.K fa) f) := by
  refine ptW (pt_val h he) fun σ H Q ⟨io, z, r, S, c, e, p⟩ => ⟨io, z, r, S, c, e, ?_⟩
  have p : Post (Wd.mk X.K fa) (fun _ _ _ (b : Bool) b' => b' = b) io z H (toB (f r S)) Q := p
  cases q : f r S with
  | ok d S' =>
    rw [q] at p
    cases d with
    | bl b => exact fun v H' io' x c r => ⟨b, r, p b H' io' x c rfl⟩
    | _ => exact p.elim
  | err _ _ => rw [q] at p; exact p.elim
  | bad => rw [q] at p; exact p.elim
/-- a test, then by its answer -/
theorem rdT_bind {γ δ : Type} {W : Wd} {RG : RelF γ δ} {f : Rho → Mo Dt} {k : Rho → Bool → Mo γ} {σ : L2.St} {H : Hp} {Q : δ → Hp → Prop} (h : rdG W RG (fun r S => (toB (f r S)).bind (k r)) σ H Q) :
    rdT W f σ H fun b H1 => rdG W RG (fun r => k r b) σ H1 Q := by
  obtain ⟨io, z, r, S, c, e, p⟩ := h
  refine ⟨io, z, r, S, c, e, (Post.bind p).mono ?_⟩
  rintro v H1 ⟨io1, S1, b, _, x1, c1, rfl, p1⟩
  exact ⟨io1, z, r, S1, c1, e.ext x1, p1⟩
/-- a value that is told True or False -/
theorem rdE_bl {W : Wd} {f : Rho → Mo Dt} {σ : L2.St} {H : Hp} {Q : VK} (h : rdT W f σ H fun b H1 => Q (.bl b) H1) : rdE W f σ H fun x H1 => ∃ c, x = .bl c ∧ Q (.bl c) H1 := by
  obtain ⟨io, z, r, S, c, e, p⟩ := h
  refine ⟨io, z, r, S, c, e, ?_⟩
  have p : Post W (fun _ _ _ (b : Bool) b' => b' = b) io z H (toB (f r S)) (fun b H1 => Q (.bl b) H1) := p
  cases q : f r S with
  | ok d S' =>
    rw [q] at p
    cases d with
    | bl b => exact fun v H' io' x c r => ⟨b, r, p b H' io' x c rfl⟩
    | _ => exact p.elim
  | err _ _ => rw [q] at p; exact p.elim
  | bad => rw [q] at p; exact p.elim
theorem rdE_ofT {W : Wd} {f : Rho → Mo Dt} {σ : L2.St} {H : Hp} {Q : Bool → Hp → Prop} (h : rdT W f σ H Q) : rdE W f σ H fun x H1 => ∃ c, x = .bl c ∧ Q c H1 := by
  obtain ⟨io, z, r, S, c, e, p⟩ := h
  refine ⟨io, z, r, S, c, e, ?_⟩
  have p : Post W (fun _ _ _ (b : Bool) b' => b' = b) io z H (toB (f r S)) Q := p
  cases q : f r S with
  | ok d S' =>
    rw [q] at p
    cases d with
    | bl b => exact fun v H' io' x c r => ⟨b, r, p b H' io' x c rfl⟩
    | _ => exact p.elim
  | err _ _ => rw [q] at p; exact p.elim
  | bad => rw [q] at p; exact p.elim
def andK (f g : Rho → Mo Dt) : Rho → Mo Dt := fun r S => (toB (f r S)).bind fun k S1 => if k = true then (toB (g r S1)).bind fun k2 S2 => .ok (.bl k2) S2 else .ok (.bl false) S1
def orK (f g : Rho → Mo Dt) : Rho → Mo Dt := fun r S => (toB (f r S)).bind fun k S1 => if k = true then .ok (.bl true) S1 else (toB (g r S1)).bind fun k2 S2 => .ok (.bl k2) S2
theorem rd_bl2 {W : Wd} {g : Rho → Mo Dt} {σ : L2.St} {H : Hp} {Q : VK} (h : rdE W (fun r S => (toB (g r S)).bind fun k2 S2 => .ok (.bl k2) S2) σ H Q) : rdE W g σ H Q := by
  have h1 := rdE_ofT (rdT_bind (RG := RepW W) h)
  refine rdG_mono h1 fun v H1 ⟨b, e, io, z, r, S, c, e2, p⟩ => ?_
  rw [e]
  exact Post.here p c rfl
theorem s_and {a b : Expr} {rest : List Expr} {f g : Rho → Mo Dt} (ha : PE X a (rdE (Wd.mk X.K fa) f)) (hb : PE X (.BoolOp .And (b :: rest) pos) (rdE (Wd.mk X.K fa) g)) :
    PE X (.BoolOp .And (a :: b :: rest) pos) (rdE (Wd.mk X.K fa) (andK f g)) := by
  refine peW (pe_and ha hb) fun σ H Q h => rdG_mono (rdE_ofT (rdT_bind h)) fun x H1 ⟨c, e, h1⟩ => ⟨c, e, ?_⟩
  cases c with
  | true => exact rd_bl2 h1
  | false =>
    obtain ⟨io, z, r, S, c, e, p⟩ := h1
    exact Post.here (RF := RepW _) p c rfl
theorem s_or {a b : Expr} {rest : List Expr} {f g : Rho → Mo Dt} (ha : PE X a (rdE (Wd.mk X.K fa) f)) (hb : PE X (.BoolOp .Or (b :: rest) pos) (rdE (Wd.mk X.K fa) g)) :
    PE X (.BoolOp .Or (a :: b :: rest) pos) (rdE (Wd.mk X.K fa) (orK f g)) := by
  refine peW (pe_or ha hb) fun σ H Q h => rdG_mono (rdE_ofT (rdT_bind h)) fun x H1 ⟨c, e, h1⟩ => ⟨c, e, ?_⟩
  cases c with
  | false => exact rd_bl2 h1
  | true =>
    obtain ⟨io, z, r, S, c, e, p⟩ := h1
    exact Post.here (RF := RepW _) p c rfl
/-- a run that ends with a truth value, as a test's -/
theorem rdT_toB {W : Wd} {f : Rho → Mo Dt} {k : Rho → Bool → Mo Dt} {σ : L2.St} {H : Hp} {Q : Bool → Hp → Prop} (h : rdT W (fun r S => (toB (f r S)).bind (k r)) σ H Q) : rdT W f σ H fun b H1 => rdT W (fun r => k r b) σ H1 Q := by
  have h : rdG W (fun _ _ _ (b : Bool) b' => b' = b) (fun r S => (toB (f r S)).bind fun b S1 => toB (k r b S1)) σ H Q := by
    obtain ⟨io, z, r, S, c, e, p⟩ := h
    refine ⟨io, z, r, S, c, e, ?_⟩
    have e2 : toB ((toB (f r S)).bind (k r)) = (toB (f r S)).bind fun b S1 => toB (k r b S1) := by
      cases toB (f r S) <;> rfl
    show Post _ _ io z H ((toB (f r S)).bind fun b S1 => toB (k r b S1)) Q
    rw [← e2]; exact p
  exact rdT_bind h
theorem rdT_bl2 {W : Wd} {g : Rho → Mo Dt} {σ : L2.St} {H : Hp} {Q : Bool → Hp → Prop} (h : rdT W (fun r S => (toB (g r S)).bind fun k2 S2 => .ok (.bl k2) S2) σ H Q) : rdT W g σ H Q :=
  rdG_mono (rdT_toB h) fun b H1 ⟨io, z, r, S, c, e2, p⟩ => Post.here p c rfl
theorem w_and {a b : Expr} {rest : List Expr} {f g : Rho → Mo Dt} (ha : PT X a (rdT (Wd.mk X.K fa) f)) (hb : PW X (.BoolOp .And (b :: rest) pos) (rdT (Wd.mk X.K fa) g)) :
    PW X (.BoolOp .And (a :: b :: rest) pos) (rdT (Wd.mk X.K fa) (andK f g)) := by
  refine pwW (pw_and ha hb) fun σ H Q h => rdG_mono (rdT_toB h) fun c H1 h1 => ?_
  cases c with
  | true => exact rdT_bl2 h1
  | false =>
    obtain ⟨io, z, r, S, c, e, p⟩ := h1
    exact Post.here p c rfl
theorem w_or {a b : Expr} {rest : List Expr} {f g : Rho → Mo Dt} (ha : PT X a (rdT (Wd.mk X.K fa) f)) (hb : PW X (.BoolOp .Or (b :: rest) pos) (rdT (Wd.mk X.K fa) g)) :
    PW X (.BoolOp .Or (a :: b :: rest) pos) (rdT (Wd.mk X.K fa) (orK f g)) := by
  refine pwW (pw_or ha hb) fun σ H Q h => rdG_mono (rdT_toB h) fun c H1 h1 => ?_
  cases c with
  | false => exact rdT_bl2 h1
  | true =>
    obtain ⟨io, z, r, S, c, e, p⟩ := h1
    exact Post.here p c rfl
def notK (f : Rho → Mo Dt) : Rho → Mo Dt := fun r S => (toB (f r S)).bind fun k S1 => .ok (.bl (!k)) S1
theorem s_not {a : Expr} {f : Rho → Mo Dt} (ha : PE X a (rdE (Wd.mk X.K fa) f)) : PE X (.UnaryOp .Not a pos) (rdE (Wd.mk X.K fa) (notK f)) := by
  refine peW (pe_not ha) fun σ H Q h => rdG_mono (rdE_ofT (rdT_bind h)) fun x H1 ⟨c, e, io, z, r, S, c1, e1, p⟩ => ⟨c, e, Post.here (RF := RepW _) p c1 rfl⟩
theorem t_not {a : Expr} {f : Rho → Mo Dt} (ha : PT X a (rdT (Wd.mk X.K fa) f)) : PT X (.UnaryOp .Not a pos) (rdT (Wd.mk X.K fa) (notK f)) :=
  ptW (pt_not ha) fun σ H Q h => rdG_mono (rdT_toB h) fun c H1 ⟨io, z, r, S, c1, e1, p⟩ => Post.here p c1 rfl
def iteK (c f g : Rho → Mo Dt) : Rho → Mo Dt := fun r S => (toB (c r S)).bind fun k S1 => if k = true then f r S1 else g r S1
theorem s_ite {c a b : Expr} {h f g : Rho → Mo Dt} (hc : PT X c (rdT (Wd.mk X.K fa) h)) (ha : PE X a (rdE (Wd.mk X.K fa) f)) (hb : PE X b (rdE (Wd.mk X.K fa) g)) :
    PE X (.IfExp c a b pos) (rdE (Wd.mk X.K fa) (iteK h f g)) := by
  refine peW (pe_ifExp hc ha hb) fun σ H Q q => rdG_mono (rdT_bind (RG := RepW _) q) fun k H1 h1 => ?_
  cases k with
  | true => exact h1
  | false => exact h1
end
end Pz
namespace Pz
open PySem PySem.Spec PyProof.Rows L2
section
variable {X : Cx} {fa : Nat → Addr} {pos : Pos}

/-! ### chains -/
theorem lastMarks2 (o p : COp) (b c : Expr) : lastMarks [copA o, copA p] [b, c] = false := by
  show behindInMarks (copA p) c = false
  exact cop_mark p c
def chainE (o p : COp) (f g h : Rho → Mo Dt) : Rho → Mo Dt := fun r S => (f r S).bind fun x S1 => (g r S1).bind fun y S2 => chainK o p x y S2 (h r)
theorem chain_rd {W : Wd} {o p : COp} {f g h : Rho → Mo Dt} {σ : L2.St} {H : Hp} {Q : VK} (q : rdE W (chainE o p f g h) σ H Q) :
    tChain (rI0 fun i j => .bl (o.ev i j)) (rI0 fun i j => .bl (p.ev i j)) (rdE W f) (rdE W g) (rdE W h) σ H Q := by
  refine rdG_mono (rdN (RF := RepW W) (k := fun r x S1 => (g r S1).bind fun y S2 => chainK o p x y S2 (h r)) q) fun u H1 ⟨io, z, r, S, x, c, e, r1, p1⟩ => ?_
  refine ⟨io, z, r, S, c, e, (Post.bind (RF := RepW W) p1).mono ?_⟩
  rintro v H2 ⟨io2, S2, y, _, x2, c2, r2, p2⟩
  have r1 := r1.ext x2
  have e := e.ext x2
  cases x with
  | int i => cases y with
    | int j =>
      have p2 : Post W (RepW W) io2 z H2 (if o.ev i j = true then (h r S2).bind fun z S3 => cmpK p (.int j) z S3 else .ok (.bl false) S2) Q := p2
      refine ⟨i, j, r1, r2, _, rfl, ?_⟩
      split
      · rename_i ht
        rw [if_pos ht] at p2
        refine ⟨io2, z, r, S2, c2, e, (Post.bind (RF := RepW W) p2).mono ?_⟩
        rintro w H3 ⟨io3, S3, k, _, x3, c3, r3, p3⟩
        cases k with
        | int k => exact ⟨j, k, r2, r3, Post.here p3 c3 rfl⟩
        | _ => exact p3.elim
      · rename_i ht
        rw [if_neg ht] at p2
        exact Post.here p2 c2 rfl
    | _ => exact p2.elim
  | _ => exact p2.elim
theorem toB_bind {α : Type} (R : Res α) (k : α → Store → Res Dt) : toB (R.bind k) = R.bind fun a S => toB (k a S) := by cases R <;> rfl
theorem chain_rdT {W : Wd} {o p : COp} {f g h : Rho → Mo Dt} {σ : L2.St} {H : Hp} {Q : Bool → Hp → Prop} (q : rdT W (chainE o p f g h) σ H Q) :
    tTest (tChain (rI0 fun i j => .bl (o.ev i j)) (rI0 fun i j => .bl (p.ev i j)) (rdE W f) (rdE W g) (rdE W h)) σ H Q := by
  refine chain_rd (rdG_mono (rdE_ofT q) fun v H' hh => hh)
theorem s_chain {o p : COp} {a b c : Expr} {f g h : Rho → Mo Dt} (ha : PE X a (rdE (Wd.mk X.K fa) f)) (hb : PE X b (rdE (Wd.mk X.K fa) g)) (hc : PE X c (rdE (Wd.mk X.K fa) h)) :
    PE X (.Compare a [copA o, copA p] [b, c] pos) (rdE (Wd.mk X.K fa) (chainE o p f g h)) ∧ PT X (.Compare a [copA o, copA p] [b, c] pos) (rdT (Wd.mk X.K fa) (chainE o p f g h)) :=
  ⟨peW (pe_chain (op_cop o) (op_cop p) ha hb hc (lastMarks2 o p b c)) fun σ H Q q => chain_rd q, ptW (pt_chain (op_cop o) (op_cop p) ha hb hc (lastMarks2 o p b c)) fun σ H Q q => chain_rdT q⟩

/-! ### argument lists, displays -/
def noStar : Expr → Bool
  | .Starred _ _ => false
  | _ => true
theorem star_cons {e : Expr} {es : List Expr} {env : Env} (h : noStar e = true) : starEach (e :: es) env = (false, eval e env) :: starEach es env := by
  cases e <;> first | rfl | cases h
theorem star_any {pos : Pos} {env : Env} : ∀ {es : List Expr}, es.all noStar = true → (backTo pos (starEach es env)).any (·.1) = false
  | [], _ => rfl
  | e :: es, h => by
    obtain ⟨h1, h2⟩ := Bool.and_eq_true_iff.mp (show (noStar e && es.all noStar) = true from h)
    rw [star_cons h1]
    have ih := star_any (pos := pos) (env := env) h2
    show (false || (backTo pos (starEach es env)).any (·.1)) = false
    rw [ih]; rfl
theorem a_nil : PA X [] (rdA (Wd.mk X.K fa) fun _ S => .ok [] S) := paW pa_nil fun σ H Q ⟨io, z, r, S, c, e, p⟩ => Post.here p c rfl
def consK (f : Rho → Mo Dt) (g : Rho → Mo (List Dt)) : Rho → Mo (List Dt) := fun r S => (f r S).bind fun d S1 => (g r S1).bind fun ds S2 => .ok (d :: ds) S2
theorem a_cons {e : Expr} {es : List Expr} {f : Rho → Mo Dt} {g : Rho → Mo (List Dt)} (h : noStar e = true) (ha : PE X e (rdE (Wd.mk X.K fa) f)) (hb : PA X es (rdA (Wd.mk X.K fa) g)) :
    PA X (e :: es) (rdA (Wd.mk X.K fa) (consK f g)) := by
  refine paW (pa_cons ha hb (star_cons h)) fun σ H Q q => ?_
  refine rdG_mono (rdN (RF := RepW _) (k := fun r d S1 => (g r S1).bind fun ds S2 => .ok (d :: ds) S2) q) fun u H1 ⟨io, z, r, S, x, c, e, r1, p1⟩ => ?_
  refine ⟨io, z, r, S, c, e, (Post.bind (RF := fun H io z d v => Reps _ H io z d v) p1).mono ?_⟩
  rintro v H2 ⟨io2, S2, ds, _, x2, c2, r2, p2⟩
  exact Post.here p2 c2 (.cons (r1.ext x2) r2)
theorem s_tup {es : List Expr} {k : Nat} {f : Rho → Mo (List Dt)} (ha : PA X es (rdA (Wd.mk X.K fa) f)) : PE X (.Tuple es k pos) (rdE (Wd.mk X.K fa) fun r S => (f r S).bind fun ds S1 => tupK ds S1) := by
  refine peW (pe_tup ha) fun σ H Q q => rdG_mono (rd1 (RF := fun H io z d v => Reps _ H io z d v) q) fun vs H1 ⟨io, z, S, ds, c, r, p⟩ => ?_
  unfold tupK at p
  split at p
  · rename_i h
    exact ⟨by rw [r.length]; exact okLen_line h, fun a ha => Post.newTup p c r ha⟩
  · exact p.elim
theorem s_lst {es : List Expr} {f : Rho → Mo (List Dt)} (ha : PA X es (rdA (Wd.mk X.K fa) f)) : PE X (.List es pos) (rdF (Wd.mk X.K fa) fun r S => (f r S).bind fun ds S1 => lstK ds S1) := by
  refine peW (pe_lst ha) fun σ H Q q => rdG_mono (rf1 (RF := fun H io z d v => Reps _ H io z d v) q) fun vs H1 ⟨io, z, S, ds, c, r, p⟩ => ?_
  unfold lstK at p
  split at p
  · rename_i h
    exact ⟨by rw [r.length]; exact okLen_line h, fun a ha => Post.newF p c r ha⟩
  · exact p.elim

/-! ### items, slices -/
theorem reps_ix {W : Wd} {H : Hp} {io z : List Addr} {ds : List Dt} {vs : List V} {k : Int} {d : Dt} (r : Reps W H io z ds vs) (h : atI ds k = some d) : ∃ v, atI vs k = some v ∧ Rep W H io z d v := by
  unfold atI at h ⊢
  rw [r.length]
  cases q : ixN ds.length k with
  | none => rw [q] at h; cases h
  | some j =>
    rw [q] at h
    obtain ⟨v, h1, h2⟩ := r.get (show ds[j]? = some d from h)
    exact ⟨v, h1, h2⟩
theorem s_ix {a b : Expr} {f g : Rho → Mo Dt} (hp : PlainIx b) (ha : PE X a (rdE (Wd.mk X.K fa) f)) (hb : PE X b (rdE (Wd.mk X.K fa) g)) :
    PE X (.Subscript a b pos) (rdE (Wd.mk X.K fa) fun r S => (f r S).bind fun x S1 => (g r S1).bind fun y S2 => ixD S2 x y) := by
  refine peW (pe_ix (IxR.or ix_list ix_tup) ha hb hp) fun σ H Q h => rdG_mono (rd2 h) fun u H1 h1 => rdG_mono h1 fun v H2 ⟨io, z, S, x, y, c, r1, r2, p⟩ => ?_
  cases y with
  | int k =>
    unfold ixD at p
    cases q : asSeq S x with
    | none => simp only [q] at p; exact p.elim
    | some xs =>
      simp only [q] at p
      cases q2 : atI xs k with
      | none => simp only [q2] at p; exact p.elim
      | some d =>
        simp only [q2] at p
        obtain ⟨a, vs, e, h2, h3⟩ := asSeq_of c q r1
        obtain ⟨w, h4, h5⟩ := reps_ix h2 q2
        rcases h3 with ⟨_, h3⟩ | ⟨_, _, h3⟩
        · exact .inr ⟨a, vs, k, w, e, r2, h3, h4, Post.here p c h5⟩
        · exact .inl ⟨a, vs, k, w, e, r2, h3, h4, Post.here p c h5⟩
  | _ => exact p.elim
/-- a part of a slice -/
def rdO (W : Wd) (f : Rho → Mo (Option Int)) : TO := fun σ H Q => rdG W (fun _ _ _ o o' => o' = o) f σ H Q
theorem poW {e : Option Expr} {t t' : TO} (h : PO X e t) (w : ∀ σ H Q, t' σ H Q → t σ H Q) : PO X e t' := ⟨fun pins s σ H Q I q => h.run pins s σ H Q I (w σ H Q q)⟩
theorem o_none : PO X none (rdO (Wd.mk X.K fa) fun _ S => .ok none S) := poW po_none fun σ H Q ⟨io, z, r, S, c, e, p⟩ => Post.here p c rfl
theorem o_some {e : Expr} {f : Rho → Mo Dt} (ha : PE X e (rdE (Wd.mk X.K fa) f)) : PO X (some e) (rdO (Wd.mk X.K fa) fun r S => (f r S).bind partK) := by
  refine poW (po_some ha) fun σ H Q q => rdG_mono (rd1 (RF := RepW _) q) fun u H1 ⟨io, z, S, d, c, r, p⟩ => ?_
  cases d with
  | int i => exact ⟨i, r, Post.here p c rfl⟩
  | _ => exact p.elim
def sl3 (f : Rho → Mo Dt) (l h : Rho → Mo (Option Int)) (k : Dt → Option Int → Option Int → Store → Res Dt) : Rho → Mo Dt := fun r S => (f r S).bind fun x S1 => (l r S1).bind fun a S2 => (h r S2).bind fun b S3 => k x a b S3
theorem rd_sl {W : Wd} {f : Rho → Mo Dt} {l h : Rho → Mo (Option Int)} {k : Dt → Option Int → Option Int → Store → Res Dt} {σ : L2.St} {H : Hp} {Q : VK} (q : rdE W (sl3 f l h k) σ H Q) :
    rdE W f σ H fun v H1 => rdO W l σ H1 fun a H2 => rdO W h σ H2 fun b H3 => ∃ io z S x, Cells W H3 io z S ∧ Rep W H3 io z x v ∧ Post W (RepW W) io z H3 (k x a b S) Q := by
  refine rdG_mono (rdN (RF := RepW W) (k := fun r x S1 => (l r S1).bind fun a S2 => (h r S2).bind fun b S3 => k x a b S3) q) fun v H1 ⟨io, z, r, S, x, c, e, r1, p1⟩ => ?_
  refine ⟨io, z, r, S, c, e, (Post.bind p1).mono ?_⟩
  rintro a H2 ⟨io2, S2, a', _, x2, c2, rfl, p2⟩
  refine ⟨io2, z, r, S2, c2, e.ext x2, (Post.bind p2).mono ?_⟩
  rintro b H3 ⟨io3, S3, b', _, x3, c3, rfl, p3⟩
  exact ⟨io3, z, S3, x, c3, (r1.ext x2).ext x3, p3⟩
theorem rf_sl {W : Wd} {f : Rho → Mo Dt} {l h : Rho → Mo (Option Int)} {k : Dt → Option Int → Option Int → Store → Res Dt} {σ : L2.St} {H : Hp} {Q : VK} (q : rdF W (sl3 f l h k) σ H Q) :
    rdE W f σ H fun v H1 => rdO W l σ H1 fun a H2 => rdO W h σ H2 fun b H3 => ∃ io z S x, Cells W H3 io z S ∧ Rep W H3 io z x v ∧ PostF W io z H3 (k x a b S) Q := by
  obtain ⟨io, z, r, S, c, e, p⟩ := q
  refine ⟨io, z, r, S, c, e, (PostF.bind p).mono ?_⟩
  rintro v H1 ⟨io1, S1, x, _, x1, c1, r1, p1⟩
  refine ⟨io1, z, r, S1, c1, e.ext x1, (PostF.bind p1).mono ?_⟩
  rintro a H2 ⟨io2, S2, a', _, x2, c2, rfl, p2⟩
  refine ⟨io2, z, r, S2, c2, (e.ext x1).ext x2, (PostF.bind p2).mono ?_⟩
  rintro b H3 ⟨io3, S3, b', _, x3, c3, rfl, p3⟩
  exact ⟨io3, z, S3, x, c3, (r1.ext x2).ext x3, p3⟩
/-- a[lo:hi], read at once or kept -/
theorem s_sl {a : Expr} {lo hi : Option Expr} {p2 : Pos} {f : Rho → Mo Dt} {l h : Rho → Mo (Option Int)} (ha : PE X a (rdE (Wd.mk X.K fa) f)) (hl : PO X lo (rdO (Wd.mk X.K fa) l)) (hh : PO X hi (rdO (Wd.mk X.K fa) h)) :
    PE X (.Subscript a (.Slice lo hi none p2) pos) (rdE (Wd.mk X.K fa) (sl3 f l h slK)) := by
  refine peW (pe_slice (SlR.or sl_list sl_tupA) ha hl hh) fun σ H Q q => rdG_mono (rd_sl q) fun v H1 q => rdG_mono q fun a H2 q => rdG_mono q fun b H3 ⟨io, z, S, x, c, r, p⟩ => ?_
  unfold slK at p
  cases q : asTup x with
  | some xs =>
    simp only [q] at p
    obtain ⟨a', vs, rfl, h1, h2⟩ := asTup_of q r
    refine .inr ⟨a', vs, rfl, sqT_of h1, fun hw => ?_, fun _ t ht => Post.newTup p c (h2.cut a b) ht⟩
    have e : cutD xs a b = xs := by
      unfold cutD
      rw [h2.length] at hw
      rw [hw.1, hw.2]; simp
    rw [e] at p
    exact Post.here p c ⟨a', vs, rfl, h1, h2⟩
  | none =>
    simp only [q] at p
    cases q2 : asLst S x with
    | none => simp only [q2] at p; exact p.elim
    | some xs =>
      simp only [q2] at p
      obtain ⟨a', vs, rfl, h1, h2⟩ := asLst_of c q2 r
      refine .inl ⟨a', vs, rfl, h1, fun t ht => ?_⟩
      have pf := PostF.frozen (Q := Q) c rfl p
      exact Post.newF pf c (h2.cut a b) ht
/-- a[lo:hi] of a list, a new list -/
theorem f_sl {a : Expr} {lo hi : Option Expr} {p2 : Pos} {f : Rho → Mo Dt} {l h : Rho → Mo (Option Int)} (ha : PE X a (rdE (Wd.mk X.K fa) f)) (hl : PO X lo (rdO (Wd.mk X.K fa) l)) (hh : PO X hi (rdO (Wd.mk X.K fa) h)) :
    PE X (.Subscript a (.Slice lo hi none p2) pos) (rdF (Wd.mk X.K fa) (sl3 f l h slK)) := by
  refine peW (pe_slice sl_list ha hl hh) fun σ H Q q => rdG_mono (rf_sl q) fun v H1 q => rdG_mono q fun a H2 q => rdG_mono q fun b H3 ⟨io, z, S, x, c, r, p⟩ => ?_
  unfold slK at p
  cases q : asTup x with
  | some xs => simp only [q] at p; exact p.elim
  | none =>
    simp only [q] at p
    cases q2 : asLst S x with
    | none => simp only [q2] at p; exact p.elim
    | some xs =>
      simp only [q2] at p
      obtain ⟨a', vs, rfl, h1, h2⟩ := asLst_of c q2 r
      exact ⟨a', vs, rfl, h1, fun t ht => Post.newF p c (h2.cut a b) ht⟩
end
end Pz
namespace Pz
open PySem PySem.Spec PyProof.Rows L2
section
variable {prog : Program} {w : World} {A : Around} {E : Value → Shared → Prop} {s : Shared}
def pickA (its : List Value) (lo hi : Option Int) (k : Int) : List Value :=
  (List.range (Builtin.Slice.slicePlaces (Builtin.Slice.sliceAdjust lo hi k (its.length : Int)).1 (Builtin.Slice.sliceAdjust lo hi k (its.length : Int)).2 k)).filterMap fun (m : Nat) => its[((Builtin.Slice.sliceAdjust lo hi k (its.length : Int)).1 + (m : Int) * k).toNat]?
theorem applied_step {sl : Addr} {vl vu vk : Value} {lo hi : Option Int} {k : Int} {n : Nat} {Q : Int × Int × Nat → Shared → Prop} (hk : k ≠ 0) (hs : s.heap.IsSliceOf sl vl vu vk) (pl : IsPart vl lo) (pu : IsPart vu hi) (pk : IsPart vk (some k))
    (h : Q ((Builtin.Slice.sliceAdjust lo hi k (n : Int)).1, k, Builtin.Slice.slicePlaces (Builtin.Slice.sliceAdjust lo hi k (n : Int)).1 (Builtin.Slice.sliceAdjust lo hi k (n : Int)).2 k) s) :
    wpAny (model prog w) A (Builtin.Slice.sliceApplied (.ref sl) (pure (n : Int))) Q E s := by
  obtain ⟨so, e1, _, e2⟩ := id hs
  unfold Builtin.Slice.sliceApplied Builtin.Slice.sliceFields
  refine wpAny_bind (wpAny_bind (wpAny_field e1 e2 (x := vl) rfl (wpAny_bind (wpAny_field e1 e2 (x := vu) rfl (wpAny_bind (wpAny_field e1 e2 (x := vk) rfl (wpAny_pure ?_)))))))
  refine wpAny_bind (HT.slicePart_ pk ?_)
  show wpAny (model prog w) A (if (k == 0) = true then _ else _) _ E s
  rw [if_neg (fun q => hk (eq_of_beq q))]
  exact wpAny_bind (HT.slicePart_ pl (wpAny_bind (HT.slicePart_ pu (wpAny_bind (wpAny_pure (wpAny_pure h))))))
theorem getItem_tuple_step {t sl : Addr} {its : List Value} {vl vu vk : Value} {lo hi : Option Int} {k : Int} {Q : Value → Shared → Prop} (hk : k ≠ 0) (hk1 : k ≠ 1) (ht : IsTup s.heap t its.toArray) (hs : s.heap.IsSliceOf sl vl vu vk) (pl : IsPart vl lo) (pu : IsPart vu hi) (pk : IsPart vk (some k))
    (hz : (pickA its lo hi k).length ≤ sizeLine) (h : Q (.ref s.heap.objs.size) { s with heap := s.heap.push { cls := .type "tuple", data := .seq (pickA its lo hi k).toArray } }) :
    wpAny (model prog w) A (getItem (.ref t) (.ref sl)) Q E s := by
  obtain ⟨so, e1, e3, e2⟩ := id hs
  have tS : s.TypeIs (.ref sl) "slice" := ⟨so, e1, e3⟩
  unfold getItem
  try with_reducible refine wpAny_holding ?_
  first | refine wpAny_bind (wpAny_pure ?_) | skip
  refine wpAny_bind (wpAny_sequenceKey ht.typeIs (by decide) ?_)
  refine wpAny_bind (wpAny_callSpecial?_slot (name := Str.ofString "__getitem__") ht.typeIs PyProof.Rows.slot_tuple_getitem (wpAny_call_entry PyProof.Rows.slot_tuple_getitem ht.typeIs entry_tuple_getitem ?_ (args_tuple_getitem _ _)))
  show wpAny (model prog w) A.in1 (Builtin.Tuple.tupleItemsOf (.ref t) >>= _) _ E s
  refine wpAny_bind (tupleItemsOf_ ht (wpAny_bind (wpAny_typeOf tS ?_)))
  rw [if_pos (by decide)]
  refine wpAny_bind (applied_step hk hs pl pu pk ?_)
  have n1 : (k == 1) = false := beq_eq_false_iff_ne.mpr hk1
  simp only [n1, Bool.and_false, Bool.false_and]
  rw [if_neg Bool.false_ne_true]
  have ep : ((List.range (Builtin.Slice.slicePlaces (Builtin.Slice.sliceAdjust lo hi k (its.toArray.size : Int)).1 (Builtin.Slice.sliceAdjust lo hi k (its.toArray.size : Int)).2 k)).filterMap fun (m : Nat) => its.toArray[((Builtin.Slice.sliceAdjust lo hi k (its.toArray.size : Int)).1 + (m : Int) * k).toNat]?) = pickA its lo hi k := by
    simp [pickA]
  rw [ep]
  have hz2 : sizeOk (.seq (pickA its lo hi k).toArray) := by
    show (pickA its lo hi k).toArray.size ≤ sizeLine
    rw [List.size_toArray]; exact hz
  first
    | exact wpAny_bind (m := Builtin.Tuple.tupleExact _) (wpAny_newObj_type (wpAny_pure ⟨_, rfl, wpAny_pure h⟩) hz2)
    | exact wpAny_bind (m := Builtin.Tuple.tupleExact _) (wpAny_newObj_type (wpAny_bind (wpAny_pure (wpAny_pure ⟨_, rfl, wpAny_pure h⟩))) hz2)
    | exact wpAny_bind (wpAny_bind (m := Builtin.Tuple.tupleExact _) (wpAny_newObj_type (wpAny_pure (wpAny_pure ⟨_, rfl, wpAny_pure h⟩)) hz2))
    | exact wpAny_bind (wpAny_bind (m := Builtin.Tuple.tupleExact _) (wpAny_newObj_type (wpAny_pure ⟨_, rfl, wpAny_pure h⟩) hz2))
end
section
variable {X : Cx} {fa : Nat → Addr} {pos : Pos}
def pickV (xs : List V) (lo hi : Option Int) (k : Int) : List V :=
  (sliceRange (sliceBounds lo hi (some k) xs.length).1 (sliceBounds lo hi (some k) xs.length).2.1 (sliceBounds lo hi (some k) xs.length).2.2).filterMap (xs[·]?)
def pickVT (xs : List V) (lo hi : Option Int) (k : Int) : List V :=
  (List.range (Builtin.Slice.slicePlaces (Builtin.Slice.sliceAdjust lo hi k (xs.length : Int)).1 (Builtin.Slice.sliceAdjust lo hi k (xs.length : Int)).2 k)).filterMap fun (m : Nat) => xs[((Builtin.Slice.sliceAdjust lo hi k (xs.length : Int)).1 + (m : Int) * k).toNat]?
theorem vals_pick {vs : List V} {us : List Value} (r : Vals vs us) (f : Nat → Nat) : ∀ l : List Nat, Vals (l.filterMap fun i => vs[f i]?) (l.filterMap fun i => us[f i]?)
  | [] => .nil
  | i :: l => by
    have ih := vals_pick r f l
    cases e : vs[f i]? with
    | none =>
      have e2 := r.none_of e
      simp only [List.filterMap_cons, e, e2]; exact ih
    | some v =>
      obtain ⟨u, h1, h2⟩ := r.get e
      simp only [List.filterMap_cons, e, h1]; exact .cons h2 ih
theorem pick_len {α : Type} (xs : List α) : ∀ l : List Nat, (l.filterMap (xs[·]?)).length ≤ l.length := fun l => List.length_filterMap_le _ _
def tSk (K : PySem.W.Frag) (k : Int) (te : TE) (tl th : TO) : TE := fun σ H Q => te σ H fun x H1 => tl σ H1 fun l H2 => th σ H2 fun u H3 =>
  (∃ a xs, x = .ref a ∧ SqL K H3 a xs ∧ ∀ p, H3 p = none → Q (.ref p) (upd H3 p (.lst (pickV xs l u k)))) ∨
  ∃ a xs, x = .ref a ∧ SqT K H3 a xs ∧ (pickVT xs l u k).length ≤ sizeLine ∧ ∀ p, H3 p = none → Q (.ref p) (upd H3 p (.tup (pickVT xs l u k)))
theorem pe_sk {k : Int} {e st : Expr} {lo hi : Option Expr} {te : TE} {tl th : TO} {p2 : Pos} (hk : k ≠ 0) (hk1 : k ≠ 1) (he : PE X e te) (hl : PO X lo tl) (hu : PO X hi th) (hst : PE X st (tC (.int k))) : PE X (.Subscript e (.Slice lo hi (some st) p2) pos) (tSk X.K k te tl th) := by
  refine ⟨fun pins s σ H Q I h => ?_⟩
  refine Subscript_ (thn (he.run pins s σ H _ I h) fun v s1 ⟨x, H1, I1, r1, q1⟩ => ?_)
  refine wpAny_Slice (thn (hl.run pins s1 σ H1 _ I1 q1) fun vl s2 ⟨l, H2, I2, pl, q2⟩ => thn (hu.run pins s2 σ H2 _ I2 q2) fun vu s3 ⟨u, H3, I3, pu, q3⟩ => ?_)
  refine thn ((po_some hst).run pins s3 σ H3 (fun o H4 => o = some k ∧ H4 = H3) I3 ⟨k, rfl, rfl, rfl⟩) fun vk s4 ⟨o, H4, I4, pk, eo, e4⟩ => ?_
  subst eo e4
  have J : Inv X pins σ H4 { s4 with heap := s4.heap.push { cls := .type "slice", data := .fields #[vl, vu, vk] } } := I4.kept (t' := s4.toks) fun b ob q => Heap.get?_push_of_some _ q
  show wpAny (model X.prog X.w) X.A (subscriptTail e (.Slice lo hi (some st) p2) v (.ref s4.heap.objs.size)) (EP X pins σ Q) X.xe { s4 with heap := s4.heap.push { cls := .type "slice", data := .fields #[vl, vu, vk] } }
  have op : subscripted (.Slice lo hi (some st) p2) false v (.ref s4.heap.objs.size) = operate [v, .ref s4.heap.objs.size] (getItem v (.ref s4.heap.objs.size)) := by with_unfolding_all rfl
  rcases q3 with ⟨a, xs, rfl, hx, q⟩ | ⟨a, xs, rfl, hx, hz, q⟩
  · cases r1
    obtain ⟨its, r, ht, hz⟩ := J.list hx
    have hlen := r.length
    refine tail_any (ops := [.ref a, .ref s4.heap.objs.size]) ht.isList.typeIs (PySem.slot_list_getitem.lookup) ?_ op
    refine wpAny_getItem_list_slice ht.isList (Heap.IsSliceOf.new _ vl vu vk) pl pu pk (by simpa using hk) ?_ (by rw [List.size_toArray]; omega)
    have hp : Vals (pickV xs l u k) (slicePick its.toArray l u (some k)).toList := by
      have := vals_pick r (fun i => i) (sliceRange (sliceBounds l u (some k) its.length).1 (sliceBounds l u (some k) its.length).2.1 (sliceBounds l u (some k) its.length).2.2)
      unfold pickV slicePick
      rw [hlen]
      simpa using this
    refine ⟨.ref _, _, J.laid (t' := s4.toks) (o := .lst (pickV xs l u k)) (fun b ob q => Heap.get?_push_of_some _ q) (Nat.le_refl _) ?_, rfl, q _ (J.hok.fresh (Nat.le_refl _))⟩
    have hsz : (pickV xs l u k).length ≤ sizeLine := by
      rw [hp.length, Array.length_toList]
      exact Nat.le_trans (slicePick_size_le _ _ _ _) (by rw [List.size_toArray]; omega)
    exact ⟨hsz, _, 0, hp, by rw [Array.toArray_toList]; exact Heap.get?_push_size _ rfl⟩
  · cases r1
    obtain ⟨its, r, ht, _⟩ := J.tuple hx
    have hlen := r.length
    have hp : Vals (pickVT xs l u k) (pickA its l u k) := by
      have := vals_pick r (fun m => ((Builtin.Slice.sliceAdjust l u k (its.length : Int)).1 + (m : Int) * k).toNat) (List.range (Builtin.Slice.slicePlaces (Builtin.Slice.sliceAdjust l u k (its.length : Int)).1 (Builtin.Slice.sliceAdjust l u k (its.length : Int)).2 k))
      unfold pickVT pickA
      rw [hlen]
      exact this
    refine tail_any (ops := [.ref a, .ref s4.heap.objs.size]) ht.typeIs (PyProof.Rows.slot_tuple_getitem.lookup) ?_ op
    refine getItem_tuple_step hk hk1 ht (Heap.IsSliceOf.new _ vl vu vk) pl pu pk (by rw [← hp.length]; exact hz) ?_
    refine ⟨.ref _, _, J.laid (t' := s4.toks) (o := .tup (pickVT xs l u k)) (fun b ob q => Heap.get?_push_of_some _ q) (Nat.le_refl _) ?_, rfl, q _ (J.hok.fresh (Nat.le_refl _))⟩
    exact ⟨hz, _, hp, ⟨_, Heap.get?_push_size _ rfl, rfl, 0, rfl⟩⟩
theorem reps_pickF {W : Wd} {H : Hp} {io z : List Addr} {ds : List Dt} {vs : List V} (h : Reps W H io z ds vs) (f : Nat → Nat) : ∀ ix : List Nat, Reps W H io z (ix.filterMap fun i => ds[f i]?) (ix.filterMap fun i => vs[f i]?)
  | [] => rfl
  | i :: ix => by
    have ih := reps_pickF h f ix
    cases e : ds[f i]? with
    | none =>
      have e2 : vs[f i]? = none := List.getElem?_eq_none_iff.mpr (by rw [h.length]; exact List.getElem?_eq_none_iff.mp e)
      simp only [List.filterMap_cons, e, e2]; exact ih
    | some d =>
      obtain ⟨v, h1, h2⟩ := h.get e
      simp only [List.filterMap_cons, e, h1]; exact .cons h2 ih
theorem reps_pickD {W : Wd} {H : Hp} {io z : List Addr} {ds : List Dt} {vs : List V} (h : Reps W H io z ds vs) (l u : Option Int) (k : Int) : Reps W H io z (pickD ds l u k) (pickV vs l u k) := by
  unfold pickD pickV
  rw [h.length]
  exact h.pick _
theorem reps_pickT {W : Wd} {H : Hp} {io z : List Addr} {ds : List Dt} {vs : List V} (h : Reps W H io z ds vs) (l u : Option Int) (k : Int) : Reps W H io z (pickT ds l u k) (pickVT vs l u k) := by
  unfold pickT pickVT
  rw [h.length]
  exact reps_pickF h _ _
theorem s_slk {k : Int} {a st : Expr} {lo hi : Option Expr} {p2 : Pos} {f : Rho → Mo Dt} {l h : Rho → Mo (Option Int)} (hst : PE X st (tC (.int k))) (hk : decide (k ≠ 0 ∧ k ≠ 1) = true) (ha : PE X a (rdE (Wd.mk X.K fa) f)) (hl : PO X lo (rdO (Wd.mk X.K fa) l)) (hh : PO X hi (rdO (Wd.mk X.K fa) h)) :
    PE X (.Subscript a (.Slice lo hi (some st) p2) pos) (rdE (Wd.mk X.K fa) (sl3 f l h (slkK k))) := by
  obtain ⟨k0, k1⟩ := of_decide_eq_true hk
  refine peW (pe_sk k0 k1 ha hl hh hst) fun σ H Q q => rdG_mono (rd_sl q) fun v H1 q => rdG_mono q fun a H2 q => rdG_mono q fun b H3 ⟨io, z, S, x, c, r, p⟩ => ?_
  unfold slkK at p
  rw [if_pos hk] at p
  cases q : asTup x with
  | some xs =>
    simp only [q] at p
    split at p
    · rename_i hl
      obtain ⟨a', vs, rfl, h1, h2⟩ := asTup_of q r
      have h3 := reps_pickT h2 a b k
      exact .inr ⟨a', vs, rfl, sqT_of h1, by rw [h3.length]; exact okLen_line hl, fun t ht => Post.newTup p c h3 ht⟩
    · exact p.elim
  | none =>
    simp only [q] at p
    cases q2 : asLst S x with
    | none => simp only [q2] at p; exact p.elim
    | some xs =>
      simp only [q2] at p
      obtain ⟨a', vs, rfl, h1, h2⟩ := asLst_of c q2 r
      have pf := PostF.frozen (Q := Q) c rfl p
      exact .inl ⟨a', vs, rfl, h1, fun t ht => Post.newF pf c (reps_pickD h2 a b k) ht⟩
end
end Pz
namespace Pz
open PySem PySem.Spec PyProof.Rows L2
abbrev RepsW (W : Wd) : RelF (List Dt) (List V) := fun H io z d v => Reps W H io z d v
/-- a built-in's reading: by the pure run -/
def rP (W : Wd) (f : List Dt → Store → Res Dt) : List V → Hp → VK → Prop := fun vs H Q => ∃ io z S ds, Cells W H io z S ∧ Reps W H io z ds vs ∧ Post W (RepW W) io z H (f ds S) Q
theorem Reps.one {W : Wd} {H : Hp} {io z : List Addr} {d : Dt} {vs : List V} (h : Reps W H io z [d] vs) : ∃ v, vs = [v] ∧ Rep W H io z d v := by
  obtain ⟨v, r, e, h1, h2⟩ := h
  rw [show r = [] from h2] at e
  exact ⟨v, e, h1⟩
theorem Reps.two {W : Wd} {H : Hp} {io z : List Addr} {d e : Dt} {vs : List V} (h : Reps W H io z [d, e] vs) : ∃ v w, vs = [v, w] ∧ Rep W H io z d v ∧ Rep W H io z e w := by
  obtain ⟨v, r, e1, h1, h2⟩ := h
  obtain ⟨w, rfl, h3⟩ := Reps.one h2
  exact ⟨v, w, e1, h1, h3⟩
theorem bls_of {W : Wd} {H : Hp} {io z : List Addr} : ∀ {ds : List Dt} {vs : List V} {bs : List Bool}, blsOf ds = some bs → Reps W H io z ds vs → vs = bs.map V.bl
  | [], _, _, h, r => by cases h; exact r
  | .bl b :: ds, _, bs, h, ⟨v, r, e, h1, h2⟩ => by
    have h : (blsOf ds).map (b :: ·) = some bs := h
    cases q : blsOf ds with
    | none => rw [q] at h; cases h
    | some cs =>
      rw [q] at h; cases h
      rw [e, bls_of q h2, show v = .bl b from h1]; rfl
  | .non :: _, _, _, h, _ => by cases h
  | .int _ :: _, _, _, h, _ => by cases h
  | .str _ :: _, _, _, h, _ => by cases h
  | .tup _ :: _, _, _, h, _ => by cases h
  | .lst _ :: _, _, _, h, _ => by cases h
  | .dct :: _, _, _, h, _ => by cases h
  | .loc _ :: _, _, _, h, _ => by cases h
  | .fn _ :: _, _, _, h, _ => by cases h
  | .clo _ _ :: _, _, _, h, _ => by cases h
  | .scr _ :: _, _, _, h, _ => by cases h
theorem ints_of {W : Wd} {H : Hp} {io z : List Addr} : ∀ {ds : List Dt} {vs : List V} {bs : List Int}, intsOf ds = some bs → Reps W H io z ds vs → vs = bs.map V.int
  | [], _, _, h, r => by cases h; exact r
  | .int b :: ds, _, bs, h, ⟨v, r, e, h1, h2⟩ => by
    have h : (intsOf ds).map (b :: ·) = some bs := h
    cases q : intsOf ds with
    | none => rw [q] at h; cases h
    | some cs =>
      rw [q] at h; cases h
      rw [e, ints_of q h2, show v = .int b from h1]; rfl
  | .non :: _, _, _, h, _ => by cases h
  | .bl _ :: _, _, _, h, _ => by cases h
  | .str _ :: _, _, _, h, _ => by cases h
  | .tup _ :: _, _, _, h, _ => by cases h
  | .lst _ :: _, _, _, h, _ => by cases h
  | .dct :: _, _, _, h, _ => by cases h
  | .loc _ :: _, _, _, h, _ => by cases h
  | .fn _ :: _, _, _, h, _ => by cases h
  | .clo _ _ :: _, _, _, h, _ => by cases h
  | .scr _ :: _, _, _, h, _ => by cases h
section
variable {X : Cx} {fa : Nat → Addr} {pos : Pos}
theorem post_arg1 {W : Wd} {f : Dt → Res Dt} {io z : List Addr} {H : Hp} {ds : List Dt} {vs : List V} {Q : VK} (rs : Reps W H io z ds vs) (p : Post W (RepW W) io z H (arg1 f ds) Q) : ∃ d v, ds = [d] ∧ vs = [v] ∧ Rep W H io z d v ∧ Post W (RepW W) io z H (f d) Q := by
  match ds, rs, p with
  | [], _, p => exact p.elim
  | _ :: _ :: _, _, p => exact p.elim
  | [d], rs, p =>
    obtain ⟨v, e, rv⟩ := rs.one
    exact ⟨d, v, rfl, e, rv, p⟩
theorem post_arg2 {W : Wd} {f : Dt → Dt → Res Dt} {io z : List Addr} {H : Hp} {ds : List Dt} {vs : List V} {Q : VK} (rs : Reps W H io z ds vs) (p : Post W (RepW W) io z H (arg2 f ds) Q) : ∃ d e v w, vs = [v, w] ∧ Rep W H io z d v ∧ Rep W H io z e w ∧ Post W (RepW W) io z H (f d e) Q := by
  match ds, rs, p with
  | [], _, p => exact p.elim
  | [_], _, p => exact p.elim
  | _ :: _ :: _ :: _, _, p => exact p.elim
  | [d, e], rs, p =>
    obtain ⟨v, w, q, r1, r2⟩ := rs.two
    exact ⟨d, e, v, w, q, r1, r2, p⟩
theorem post_opt {W : Wd} {α : Type} {o : Option α} {f : α → Res Dt} {io z : List Addr} {H : Hp} {Q : VK} (p : Post W (RepW W) io z H (optK o f) Q) : ∃ a, o = some a ∧ Post W (RepW W) io z H (f a) Q := by
  cases o with
  | none => exact p.elim
  | some a => exact ⟨a, rfl, p⟩
theorem post_if {W : Wd} {b : Bool} {R : Res Dt} {io z : List Addr} {H : Hp} {Q : VK} (p : Post W (RepW W) io z H (if b then R else .bad) Q) : b = true ∧ Post W (RepW W) io z H R Q := by
  cases b with
  | false => exact p.elim
  | true => exact ⟨rfl, p⟩
theorem asInt_of {W : Wd} {d : Dt} {i : Int} {v : V} {io z : List Addr} {H : Hp} (h : asInt d = some i) (r : Rep W H io z d v) : v = .int i := by
  cases d with
  | int j => cases h; exact r
  | _ => cases h
theorem cb_len : CallR X (.builtin "len") (rP (Wd.mk X.K fa) fun ds S => bltD S .len ds) := by
  intro pins s σ H vs us Q I r ⟨io, z, S, ds, c, rs, p⟩
  obtain ⟨d, v, rfl, rfl, rv, p⟩ := post_arg1 rs p
  obtain ⟨xs, q, p⟩ := post_opt p
  obtain ⟨a, ws, rfl, h1, h2⟩ := asSeq_of c q rv
  refine call_len_seq pins s σ H [.ref a] us Q I r ⟨a, ws, rfl, h2.elim (fun q => .inr q.2) (fun q => .inl q.2.2), ?_⟩
  rw [h1.length]; exact Post.here p c rfl
theorem cb_abs : CallR X (.builtin "abs") (rP (Wd.mk X.K fa) fun ds S => bltD S .abs ds) := by
  intro pins s σ H vs us Q I r ⟨io, z, S, ds, c, rs, p⟩
  obtain ⟨d, v, rfl, rfl, rv, p⟩ := post_arg1 rs p
  obtain ⟨i, q, p⟩ := post_opt p
  exact call_abs pins s σ H _ us Q I r ⟨i, by rw [asInt_of q rv], Post.here p c rfl⟩
theorem cb_int : CallR X (.type "int") (rP (Wd.mk X.K fa) fun ds S => bltD S .int ds) := by
  intro pins s σ H vs us Q I r ⟨io, z, S, ds, c, rs, p⟩
  obtain ⟨d, v, rfl, rfl, rv, p⟩ := post_arg1 rs p
  obtain ⟨i, q, p⟩ := post_opt p
  exact call_int1 pins s σ H _ us Q I r (.inl ⟨i, by rw [asInt_of q rv], Post.here p c rfl⟩)
theorem cb_tuple : CallR X (.type "tuple") (rP (Wd.mk X.K fa) fun ds S => bltD S .tuple ds) := by
  intro pins s σ H vs us Q I r ⟨io, z, S, ds, c, rs, p⟩
  obtain ⟨d, v, rfl, rfl, rv, p⟩ := post_arg1 rs p
  obtain ⟨xs, q, p⟩ := post_opt p
  obtain ⟨a, ws, rfl, h1, h2⟩ := asSeq_of c q rv
  refine call_tuple_of pins s σ H [.ref a] us Q I r ⟨a, ws, rfl, ?_⟩
  rcases h2 with ⟨q1, h2⟩ | ⟨_, _, h2⟩
  · refine .inr ⟨h2, ?_⟩
    cases d with
    | tup ys =>
      obtain rfl : ys = xs := Option.some.inj q1
      exact Post.here p c rv
    | _ => cases q1
  · exact .inl ⟨h2, fun t ht => Post.newTup p c h1 ht⟩
theorem opt_bind {α β : Type} {o : Option α} {f : α → Option β} {b : β} (h : o.bind f = some b) : ∃ a, o = some a ∧ f a = some b := by
  cases o with
  | none => cases h
  | some a => exact ⟨a, rfl, h⟩
theorem cb_all (hc : X.calm = true) : CallR X (.builtin "all") (rP (Wd.mk X.K fa) fun ds S => bltD S .all ds) := by
  intro pins s σ H vs us Q I r ⟨io, z, S, ds, c, rs, p⟩
  obtain ⟨d, v, rfl, rfl, rv, p⟩ := post_arg1 rs p
  obtain ⟨bs, q, p⟩ := post_opt p
  obtain ⟨xs, q, q2⟩ := opt_bind q
  obtain ⟨a, ws, rfl, h1, h2⟩ := asLst_of c q rv
  rw [bls_of q2 h2] at h1
  exact cr_all hc pins s σ H [.ref a] us Q I r ⟨a, bs, rfl, h1, Post.here p c rfl⟩
theorem cb_any (hc : X.calm = true) : CallR X (.builtin "any") (rP (Wd.mk X.K fa) fun ds S => bltD S .any ds) := by
  intro pins s σ H vs us Q I r ⟨io, z, S, ds, c, rs, p⟩
  obtain ⟨d, v, rfl, rfl, rv, p⟩ := post_arg1 rs p
  obtain ⟨bs, q, p⟩ := post_opt p
  obtain ⟨xs, q, q2⟩ := opt_bind q
  obtain ⟨a, ws, rfl, h1, h2⟩ := asLst_of c q rv
  rw [bls_of q2 h2] at h1
  exact cr_any hc pins s σ H [.ref a] us Q I r ⟨a, bs, rfl, h1, Post.here p c rfl⟩
theorem cb_sum (hc : X.calm = true) : CallR X (.builtin "sum") (rP (Wd.mk X.K fa) fun ds S => bltD S .sum ds) := by
  intro pins s σ H vs us Q I r ⟨io, z, S, ds, c, rs, p⟩
  obtain ⟨d, v, rfl, rfl, rv, p⟩ := post_arg1 rs p
  obtain ⟨bs, q, p⟩ := post_opt p
  obtain ⟨xs, q, q2⟩ := opt_bind q
  obtain ⟨a, ws, rfl, h1, h2⟩ := asLst_of c q rv
  rw [ints_of q2 h2] at h1
  exact cr_sum hc pins s σ H [.ref a] us Q I r ⟨a, bs, rfl, h1, Post.here p c rfl⟩
theorem cb_min2 (hc : X.calm = true) : CallR X (.builtin "min") (rP (Wd.mk X.K fa) fun ds S => bltD S .min2 ds) := by
  intro pins s σ H vs us Q I r ⟨io, z, S, ds, c, rs, p⟩
  obtain ⟨d, e, v, w, rfl, r1, r2, p⟩ := post_arg2 rs p
  obtain ⟨i, q1, p⟩ := post_opt p
  obtain ⟨j, q2, p⟩ := post_opt p
  exact call_min2 hc pins s σ H _ us Q I r ⟨i, j, by rw [asInt_of q1 r1, asInt_of q2 r2], Post.here p c rfl⟩
theorem cb_max2 (hc : X.calm = true) : CallR X (.builtin "max") (rP (Wd.mk X.K fa) fun ds S => bltD S .max2 ds) := by
  intro pins s σ H vs us Q I r ⟨io, z, S, ds, c, rs, p⟩
  obtain ⟨d, e, v, w, rfl, r1, r2, p⟩ := post_arg2 rs p
  obtain ⟨i, q1, p⟩ := post_opt p
  obtain ⟨j, q2, p⟩ := post_opt p
  exact call_max2 hc pins s σ H _ us Q I r ⟨i, j, by rw [asInt_of q1 r1, asInt_of q2 r2], Post.here p c rfl⟩
theorem cb_gcd : CallR X (.builtin "math.gcd") (rP (Wd.mk X.K fa) fun ds S => bltD S .gcd ds) := by
  intro pins s σ H vs us Q I r ⟨io, z, S, ds, c, rs, p⟩
  obtain ⟨d, e, v, w, rfl, r1, r2, p⟩ := post_arg2 rs p
  obtain ⟨i, q1, p⟩ := post_opt p
  obtain ⟨j, q2, p⟩ := post_opt p
  exact cr_gcd pins s σ H _ us Q I r ⟨i, j, by rw [asInt_of q1 r1, asInt_of q2 r2], Post.here p c rfl⟩
theorem tyX_of {H : Hp} {io z : List Addr} {S : Store} {d : Dt} {v : V} {t : String} (c : Cells (Wd.mk X.K fa) H io z S) (h : tyD d = some t) (r : Rep (Wd.mk X.K fa) H io z d v) : TyX X.K H v (.type t) := by
  cases d with
  | non => cases h; rw [show v = .non from r]; exact .base .non
  | bl b => cases h; rw [show v = .bl b from r]; exact .base (.bl b)
  | int b => cases h; rw [show v = .int b from r]; exact .base (.int b)
  | str b => cases h; rw [show v = .str b from r]; exact .base (.str b)
  | tup ds =>
    cases h
    obtain ⟨a, vs, rfl, h1, _⟩ := r
    rcases h1 with ⟨_, h1 | ⟨o, h1⟩⟩ | ⟨o, its, n, h1, h2, _⟩
    · exact .base (.tup h1)
    · exact .fTuple h1
    · exact .kTuple h1 h2
  | lst ds =>
    cases h
    obtain ⟨a, vs, rfl, _, h1, _⟩ := r
    exact .base (.lst h1)
  | dct =>
    cases h
    obtain ⟨a, rfl, _, h1⟩ := r
    exact .base (.dK h1)
  | loc n =>
    cases h
    obtain ⟨a, rfl, h1⟩ := r
    obtain ⟨vs, h2⟩ := c.has (List.mem_of_getElem? h1)
    exact .base (.lst h2)
  | scr ns =>
    cases h
    obtain ⟨a, rfl, h1⟩ := r
    rcases h1 with ⟨_, h1 | ⟨o, h1⟩⟩ | ⟨o, its, n, h1, h2, _⟩
    · exact .base (.lst h1)
    · exact .base (.frz h1)
    · exact .kList h1 h2
  | fn _ => cases h
  | clo _ _ => cases h
/-- isinstance(a, T) -/
theorem cb_isi {T : String} : CallR X (.builtin "isinstance") (fun vs H Q => ∃ v, vs = [v, .ty T] ∧ rP (Wd.mk X.K fa) (fun ds S => bltD S (.isi T) ds) [v] H Q) := by
  intro pins s σ H vs us Q I r ⟨v, e, io, z, S, ds, c, rs, p⟩
  subst e
  obtain ⟨d, v', rfl, e, rv, p⟩ := post_arg1 rs p
  obtain rfl : v = v' := by simpa using e
  obtain ⟨b, q, p⟩ := post_opt p
  obtain ⟨t, q, q2⟩ := opt_bind q
  exact call_isi pins s σ H _ us Q I r ⟨v, .ty T, .type t, .type T, b, rfl, .ty T, tyX_of c q rv, kit_ty q2, Post.here p c rfl⟩
theorem cb_repr (hg : X.A.guards = some []) (hu : X.A.units + 64 < cLine) : CallR X (.builtin "repr") (rP (Wd.mk X.K fa) fun ds S => bltD S .repr ds) := by
  intro pins s σ H vs us Q I r ⟨io, z, S, ds, c, rs, p⟩
  obtain ⟨d, v, rfl, rfl, rv, p⟩ := post_arg1 rs p
  obtain ⟨y, q, p⟩ := post_opt p
  obtain ⟨ho, p⟩ := post_if p
  have fin := Post.here (v := V.str y.shown) p c rfl
  unfold reprOk at ho
  simp only [Bool.and_eq_true, Bool.not_eq_true', decide_eq_true_eq] at ho
  obtain ⟨⟨⟨h1, h2⟩, h3⟩, h4⟩ := ho
  have hd := dpS_of c q rv
  obtain ⟨u, rfl, ru⟩ := Vals.one r
  obtain ⟨as, hr⟩ := Dp.reads I y v u hd ru
  have done_ : ∀ h' t tk, (∀ b o, s.heap.get? b = some o → h'.get? b = some o) → EP X pins σ Q (.str y.shown t) { s with heap := h', toks := tk } := fun h' t tk hk => ⟨.str y.shown, H, I.kept hk, ⟨t, rfl⟩, fin⟩
  cases hd with
  | non =>
    obtain rfl : u = Value.none := ru
    exact PySem.P.repr_of_none (done_ s.heap _ _ fun _ _ e => e)
  | bl b =>
    obtain rfl : u = Value.bool b := ru
    exact PySem.P.repr_of_bool (done_ s.heap _ _ fun _ _ e => e)
  | int i =>
    obtain ⟨t, rfl⟩ := ru
    exact PySem.P.repr_of_int (of_decide_eq_true h1) (done_ s.heap _ _ fun _ _ e => e)
  | str x =>
    obtain ⟨t, rfl⟩ := ru
    exact PySem.P.repr_of_str (done_ s.heap _ _ fun _ _ e => e) h4
  | lst h5 h6 =>
    obtain rfl : u = Value.ref _ := ru
    exact PySem.repr_of_reads' hr h1 (PyData.noDict_hsm h2) hg (by omega) (fun _ _ e => e) (fun h' t tk hk => done_ h' t tk hk) h4
  | tup h5 h6 =>
    obtain rfl : u = Value.ref _ := ru
    exact PySem.repr_of_reads' hr h1 (PyData.noDict_hsm h2) hg (by omega) (fun _ _ e => e) (fun h' t tk hk => done_ h' t tk hk) h4
/-! ### calls of them -/
theorem rP_arg {W : Wd} {f : Rho → Mo (List Dt)} {g : List Dt → Store → Res Dt} {σ : L2.St} {H : Hp} {Q : VK} (h : rdE W (fun r S => (f r S).bind g) σ H Q) : rdA W f σ H fun vs H1 => rP W g vs H1 Q :=
  rdG_mono (rd1 (RF := RepsW W) h) fun vs H1 ⟨io, z, S, ds, c, r, p⟩ => ⟨io, z, S, ds, c, r, p⟩
/-- list(a) -/
theorem cb_list : ∀ (pins : List (Addr × Obj)) (s : Shared) (σ : L2.St) (H : Hp) (vs : List V) (us : List Value) (Q : VK), Inv X pins σ H s → Vals vs us →
    (∃ io z S d v, vs = [v] ∧ Cells (Wd.mk X.K fa) H io z S ∧ Rep (Wd.mk X.K fa) H io z d v ∧ PostF (Wd.mk X.K fa) io z H (listK d S) Q) → wpAny (model X.prog X.w) X.A (call (.type "list") us) (EP X pins σ Q) X.xe s := by
  intro pins s σ H vs us Q I r ⟨io, z, S, d, v, e, c, rv, p⟩
  subst e
  unfold listK at p
  cases q : asSeq S d with
  | none => simp only [q] at p; exact p.elim
  | some xs =>
    simp only [q] at p
    obtain ⟨a, ws, rfl, h1, h2⟩ := asSeq_of c q rv
    exact call_list_of pins s σ H [.ref a] us Q I r ⟨a, ws, rfl, h2.elim (fun q => .inr q.2) (fun q => .inl q.2.2), fun l hl => Post.newF p c h1 hl⟩
/-- divmod(a, b) -/
theorem cb_dm : CallR X (.builtin "divmod") (fun vs H Q => ∃ io z S x y u v, vs = [u, v] ∧ Cells (Wd.mk X.K fa) H io z S ∧ Rep (Wd.mk X.K fa) H io z x u ∧ Rep (Wd.mk X.K fa) H io z y v ∧ Post (Wd.mk X.K fa) (RepW (Wd.mk X.K fa)) io z H (dmK x y S) Q) := by
  intro pins s σ H vs us Q I r ⟨io, z, S, x, y, u, v, e, c, r1, r2, p⟩
  subst e
  unfold dmK at p
  split at p
  · rename_i i j
    split at p
    · rename_i h
      obtain ⟨h1, h2⟩ := Bool.and_eq_true_iff.mp h
      obtain ⟨_, h3⟩ := Bool.and_eq_true_iff.mp h2
      obtain rfl : u = .int i := r1
      obtain rfl : v = .int j := r2
      refine call_divmodW pins s σ H _ us Q I r ⟨i, j, rfl, ⟨of_decide_eq_true h1, by simpa using h3⟩, fun t ht => ?_⟩
      exact Post.newTup (vs := [.int (i / j), .int (i % j)]) p c ⟨_, _, rfl, rfl, _, _, rfl, rfl, rfl⟩ ht
    · exact p.elim
  · exact p.elim

/-! ### lists of the store, changed -/
theorem Ext.chg {io : List Addr} {H : Hp} {a : Addr} {o : HO} (h : a ∈ io) : Ext io H io (upd H a o) :=
  ⟨⟨[], by simp, by simp⟩, fun b u hb e => by rw [upd_ne (fun q => hb (by rw [q]; exact h))]; exact e, fun b hb => by
    by_cases q : b = a
    · subst q; rw [upd_same]; simp
    · rw [upd_ne q]; exact hb⟩
theorem Cells.chg {W : Wd} {H : Hp} {io z : List Addr} {S : Store} (c : Cells W H io z S) {n : Nat} {a : Addr} {xs : List Dt} {vs : List V} (h : io[n]? = some a) (r : Reps W H io z xs vs) (hn : nlAll xs = true) : Cells W (upd H a (.lst vs)) io z (S.set n xs) := by
  have x : Ext io H io (upd H a (.lst vs)) := Ext.chg (List.mem_of_getElem? h)
  have hl : n < io.length := (List.getElem?_eq_some_iff.mp h).1
  refine ⟨by rw [List.length_set]; exact c.len, c.nd, c.apart, fun q hq => x.dom q (c.zt q hq), fun m b ys h1 h2 => ?_, fun ys hy => ?_⟩
  · by_cases e : m = n
    · subst e
      rw [h] at h1; cases h1
      rw [List.getElem?_set_self (by rw [← c.len]; exact hl)] at h2
      cases h2
      exact ⟨vs, upd_same, Reps.ext x _ _ r⟩
    · rw [List.getElem?_set_ne (Ne.symm e)] at h2
      obtain ⟨ws, h3, h4⟩ := c.at_ m b ys h1 h2
      have hb : b ≠ a := fun q => by
        subst q
        obtain ⟨l1, e1⟩ := List.getElem?_eq_some_iff.mp h
        obtain ⟨l2, e2⟩ := List.getElem?_eq_some_iff.mp h1
        exact e ((List.getElem_inj c.nd).mp (e2.trans e1.symm))
      exact ⟨ws, by rw [upd_ne hb]; exact h3, Reps.ext x _ _ h4⟩
  · rcases List.mem_or_eq_of_mem_set hy with hy | hy
    · exact c.nl ys hy
    · rw [hy]; exact hn
theorem nl_append : ∀ {xs ys : List Dt}, nlAll xs = true → nlAll ys = true → nlAll (xs ++ ys) = true
  | [], _, _, h => h
  | x :: xs, ys, h, h' => by
    obtain ⟨h1, h2⟩ := Bool.and_eq_true_iff.mp (show (x.nl && nlAll xs) = true from h)
    exact Bool.and_eq_true_iff.mpr ⟨h1, nl_append h2 h'⟩
theorem nlAll_iff : ∀ {xs : List Dt}, nlAll xs = true ↔ ∀ x ∈ xs, x.nl = true
  | [] => by simp [nlAll]
  | x :: xs => by simp [nlAll, nlAll_iff (xs := xs)]
theorem mth_at {W : Wd} {H : Hp} {io z : List Addr} {S : Store} (c : Cells W H io z S) {d : Dt} {v : V} {p : Nat × List Dt} (r : Rep W H io z d v) (h : asLoc S d = some p) : ∃ a vs, v = .ref a ∧ io[p.1]? = some a ∧ H a = some (.lst vs) ∧ Reps W H io z p.2 vs ∧ nlAll p.2 = true := by
  cases d with
  | loc n =>
    have h : (S[n]?).map (fun xs => (n, xs)) = some p := h
    cases q : S[n]? with
    | none => rw [q] at h; cases h
    | some xs =>
      rw [q] at h; cases h
      obtain ⟨a, e, h1⟩ := r
      obtain ⟨vs, h2, h3⟩ := c.at_ n a xs h1 q
      exact ⟨a, vs, e, h1, h2, h3, c.nl xs (List.mem_of_getElem? q)⟩
  | _ => cases h
def mthId : Mth → String
  | .append => "list.append" | .pop => "list.pop" | .popAt => "list.pop" | .insert => "list.insert" | .extend => "list.extend" | .index => "list.index" | .count => "list.count"
/-- what a method's call asks -/
def rMt (W : Wd) (m : Mth) : V → List V → Hp → VK → Prop := fun x vs H Q => ∃ io z S d ds, Cells W H io z S ∧ Rep W H io z d x ∧ Reps W H io z ds vs ∧ Post W (RepW W) io z H (mthD S m d ds) Q
theorem mt_app : MtR X "list.append" (rMt (Wd.mk X.K fa) .append) := by
  intro pins s σ H x vs v us Q I rx rv ⟨io, z, S, d, ds, c, r, rs, p⟩
  obtain ⟨⟨n, xs⟩, q, p⟩ := post_opt p
  obtain ⟨d, y, rfl, rfl, ry, p⟩ := post_arg1 rs p
  obtain ⟨ho, p⟩ := post_if p
  obtain ⟨h3, h4⟩ := Bool.and_eq_true_iff.mp ho
  obtain ⟨a, ws, rfl, e1, e2, e3, e4⟩ := mth_at c r q
  have hl : ws.length < sizeLine := by
    rw [e3.length]
    have : xs.length ≤ 1000000 := of_decide_eq_true h3
    have e : sizeLine = 16777216 := by decide
    show xs.length < _
    omega
  have rr : Reps (Wd.mk X.K fa) H io z (xs ++ [d]) (ws ++ [y]) := e3.append ⟨y, [], rfl, ry, rfl⟩
  refine mt_append pins s σ H _ _ v us Q I rx rv ⟨a, ws, y, rfl, rfl, e2, hl, ?_⟩
  exact p .non _ io (Ext.chg (List.mem_of_getElem? e1)) (c.chg e1 rr (nl_append e4 (by simp [nlAll, h4]))) rfl
theorem mt_popx : MtR X "list.pop" (rMt (Wd.mk X.K fa) .pop) := by
  intro pins s σ H x vs v us Q I rx rv ⟨io, z, S, d, ds, c, r, rs, p⟩
  obtain ⟨⟨n, xs⟩, q, p⟩ := post_opt p
  have ho := (post_if p).1
  obtain rfl : ds = [] := List.isEmpty_iff.mp ho
  obtain ⟨d, q2, p2⟩ := post_opt (post_if p).2
  obtain ⟨a, ws, rfl, e1, e2, e3, e4⟩ := mth_at c r q
  obtain rfl : vs = [] := rs
  obtain ⟨y, h5, h6⟩ := e3.get q2
  have rr : Reps (Wd.mk X.K fa) H io z xs.dropLast ws.dropLast := by
    rw [List.dropLast_eq_take, List.dropLast_eq_take, e3.length]; exact e3.take _
  have x : Ext io H io (upd H a (.lst ws.dropLast)) := Ext.chg (List.mem_of_getElem? e1)
  refine mt_pop pins s σ H _ _ v us Q I rx rv ⟨a, ws, y, rfl, rfl, e2, by rw [e3.length]; exact h5, ?_⟩
  exact p2 y _ io x (c.chg e1 rr (nlAll_iff.mpr fun w hw => nlAll_iff.mp e4 w (List.dropLast_subset _ hw))) (h6.ext x)
theorem mt_popAtx : MtR X "list.pop" (rMt (Wd.mk X.K fa) .popAt) := by
  intro pins s σ H x vs v us Q I rx rv ⟨io, z, S, d, ds, c, r, rs, p⟩
  obtain ⟨⟨n, xs⟩, q, p⟩ := post_opt p
  obtain ⟨i', w, rfl, rfl, hw, p⟩ := post_arg1 rs p
  obtain ⟨i, q4, p⟩ := post_opt p
  obtain ⟨hi, p⟩ := post_if p
  obtain ⟨i1, i2⟩ := of_decide_eq_true hi
  obtain ⟨k, q3, p⟩ := post_opt p
  obtain ⟨d, q2, p⟩ := post_opt p
  obtain ⟨a, ws, rfl, e1, e2, e3, e4⟩ := mth_at c r q
  obtain rfl : w = .int i := asInt_of q4 hw
  obtain ⟨y, h5, h6⟩ := e3.get q2
  have x : Ext io H io (upd H a (.lst (ws.eraseIdx k))) := Ext.chg (List.mem_of_getElem? e1)
  refine mt_popAt pins s σ H _ _ v us Q I rx rv ⟨a, ws, i, k, y, rfl, rfl, e2, i1, i2, by rw [e3.length]; exact q3, h5, ?_⟩
  exact p y _ io x (c.chg e1 (e3.erase k) (nlAll_iff.mpr fun w hw => nlAll_iff.mp e4 w (List.eraseIdx_subset hw))) (h6.ext x)
theorem mt_ins : MtR X "list.insert" (rMt (Wd.mk X.K fa) .insert) := by
  intro pins s σ H x vs v us Q I rx rv ⟨io, z, S, d, ds, c, r, rs, p⟩
  obtain ⟨⟨n, xs⟩, q, p⟩ := post_opt p
  obtain ⟨i', d, w, y, rfl, hw, ry, p⟩ := post_arg2 rs p
  obtain ⟨i, q4, p⟩ := post_opt p
  obtain ⟨hc, p⟩ := post_if p
  rw [Bool.and_eq_true, Bool.and_eq_true] at hc
  obtain ⟨⟨h2, h3⟩, h4⟩ := hc
  obtain ⟨i1, i2⟩ := of_decide_eq_true h2
  obtain ⟨a, ws, rfl, e1, e2, e3, e4⟩ := mth_at c r q
  obtain rfl : w = .int i := asInt_of q4 hw
  have hl : ws.length < sizeLine := by
    rw [e3.length]
    have : xs.length ≤ 1000000 := of_decide_eq_true h3
    have e : sizeLine = 16777216 := by decide
    show xs.length < _
    omega
  have rr : Reps (Wd.mk X.K fa) H io z (xs.take i.toNat ++ [d] ++ xs.drop i.toNat) (ws.take i.toNat ++ [y] ++ ws.drop i.toNat) := ((e3.take _).append (Reps.cons ry (show Reps _ _ _ _ [] [] from rfl))).append (e3.drop _)
  have hn : nlAll (xs.take i.toNat ++ [d] ++ xs.drop i.toNat) = true := nl_append (nl_append (nlAll_iff.mpr fun w hw => nlAll_iff.mp e4 w (List.mem_of_mem_take hw)) (by simp [nlAll, h4])) (nlAll_iff.mpr fun w hw => nlAll_iff.mp e4 w (List.mem_of_mem_drop hw))
  refine mt_insert pins s σ H _ _ v us Q I rx rv ⟨a, ws, i, y, rfl, rfl, e2, hl, i1, i2, ?_⟩
  exact p .non _ io (Ext.chg (List.mem_of_getElem? e1)) (c.chg e1 rr hn) rfl
theorem mt_ext : MtR X "list.extend" (rMt (Wd.mk X.K fa) .extend) := by
  intro pins s σ H x vs v us Q I rx rv ⟨io, z, S, d, ds, c, r, rs, p⟩
  obtain ⟨⟨n, xs⟩, q, p⟩ := post_opt p
  obtain ⟨d, y, rfl, rfl, ry, p⟩ := post_arg1 rs p
  obtain ⟨ys, q2, p⟩ := post_opt p
  obtain ⟨hc, p⟩ := post_if p
  rw [Bool.and_eq_true] at hc
  obtain ⟨h3, h4⟩ := hc
  obtain ⟨a, ws, rfl, e1, e2, e3, e4⟩ := mth_at c r q
  obtain ⟨b, zs, rfl, f1, f2⟩ := asOwn_of c q2 ry
  have hl : ws.length + zs.length ≤ sizeLine := by
    rw [e3.length, f2.length]
    exact okLen_line h3
  refine mt_extend pins s σ H _ _ v us Q I rx rv ⟨a, b, ws, zs, rfl, rfl, e2, f1, hl, ?_⟩
  exact p .non _ io (Ext.chg (List.mem_of_getElem? e1)) (c.chg e1 (e3.append f2) (nl_append e4 h4)) rfl
/-- o[i] = v -/
theorem set_store : PSet X (fun o i v H Q => ∃ io z S x y d S', Cells (Wd.mk X.K fa) H io z S ∧ Rep (Wd.mk X.K fa) H io z x o ∧ Rep (Wd.mk X.K fa) H io z y i ∧ Rep (Wd.mk X.K fa) H io z d v ∧ setD S x y d = some S' ∧
    ∀ H', Ext io H io H' → Cells (Wd.mk X.K fa) H' io z S' → Q H') := by
  intro pins s σ H o i v ov iv u Q I ro ri rv ⟨io, z, S, x, y, d, S', c, r1, r2, r3, e, q⟩
  obtain ⟨⟨n, xs⟩, q1, e⟩ := opt_bind e
  obtain ⟨k, q3, e⟩ := opt_bind e
  obtain ⟨j, q2, e⟩ := opt_bind e
  split at e
  · rename_i hn
    cases e
    obtain ⟨a, ws, rfl, e1, e2, e3, e4⟩ := mth_at c r1 q1
    obtain rfl : i = .int k := asInt_of q3 r2
    refine set_list pins s σ H _ _ v ov iv u Q I ro ri rv ⟨a, ws, k, j, rfl, rfl, e2, by rw [e3.length]; exact q2, ?_⟩
    refine q _ (Ext.chg (List.mem_of_getElem? e1)) (c.chg e1 (e3.set r3 j) (nlAll_iff.mpr fun w hw => ?_))
    rcases List.mem_or_eq_of_mem_set hw with hw | hw
    · exact nlAll_iff.mp e4 w hw
    · rw [hw]; exact hn
  · cases e
end
end Pz
namespace Pz
open PySem PySem.Spec PyProof.Rows L2

/-! ### targets -/
mutual
/-- the places that a target stores at -/
def ITg.nms : ITg → List Nat
  | .nm i => [i]
  | .tup ts => nmsL ts
  | .sub _ _ => []
def nmsL : List ITg → List Nat
  | [] => []
  | t :: ts => t.nms ++ nmsL ts
end
/-- slots other than vs are as they were -/
structure Only (vs : List Nat) (σ σ' : L2.St) : Prop where
  len : σ'.length = σ.length
  at_ : ∀ j, j ∉ vs → σ'[j]? = σ[j]?
theorem Only.refl {vs : List Nat} {σ : L2.St} : Only vs σ σ := ⟨rfl, fun _ _ => rfl⟩
theorem Only.trans {vs ws : List Nat} {a b c : L2.St} (h : Only vs a b) (k : Only ws b c) : Only (vs ++ ws) a c :=
  ⟨k.len.trans h.len, fun j hj => (k.at_ j fun q => hj (List.mem_append_right _ q)).trans (h.at_ j fun q => hj (List.mem_append_left _ q))⟩
theorem Only.mono {vs ws : List Nat} {a b : L2.St} (h : Only vs a b) (s : ∀ i ∈ vs, i ∈ ws) : Only ws a b := ⟨h.len, fun j hj => h.at_ j fun q => hj (s j q)⟩
theorem Only.set {i : Nat} {σ : L2.St} {v : Option V} : Only [i] σ (σ.set i v) := ⟨List.length_set, fun j hj => by rw [List.getElem?_set_ne]; intro e; exact hj (by simp [e])⟩
theorem wipe_get {σ : L2.St} : ∀ {vs : List Nat} {j : Nat}, (wipe σ vs)[j]? = if j ∈ vs then (if j < σ.length then some none else none) else σ[j]?
  | [], j => by simp [wipe]
  | v :: vs, j => by
    unfold wipe
    rw [List.getElem?_set, wipe_length, wipe_get (vs := vs)]
    by_cases e : v = j
    · subst e; simp
    · by_cases h : j ∈ vs
      · simp [e, h, Ne.symm e]
      · simp [e, h, Ne.symm e]
theorem Only.wipe {vs ws : List Nat} {σ σ2 : L2.St} (h : Only vs (wipe σ ws) σ2) (s : ∀ i ∈ vs, i ∈ ws) : wipe σ2 ws = wipe σ ws := by
  apply List.ext_getElem?
  intro j
  rw [wipe_get, wipe_get]
  by_cases hj : j ∈ ws
  · rw [if_pos hj, if_pos hj, h.len, wipe_length]
  · rw [if_neg hj, if_neg hj, h.at_ j fun q => hj (s j q), wipe_get, if_neg hj]
theorem EnvR.set {W : Wd} {H : Hp} {io z : List Addr} {r : Rho} {σ : L2.St} (e : EnvR W H io z r σ) (i : Nat) {d : Dt} {v : V} (h : Rep W H io z d v) : EnvR W H io z (r.set i (some d)) (σ.set i (some v)) := by
  refine ⟨by rw [List.length_set, List.length_set, e.len], fun j d' hj => ?_⟩
  rw [List.getElem?_set] at hj
  rw [List.getElem?_set]
  by_cases c : i = j
  · subst c
    rw [if_pos rfl] at hj ⊢
    rw [← e.len]
    split at hj
    · rename_i hl
      rw [if_pos hl]
      cases hj
      exact ⟨v, rfl, h⟩
    · cases hj
  · rw [if_neg c] at hj ⊢
    exact e.at_ j d' hj
theorem EnvR.wipe {W : Wd} {H : Hp} {io z : List Addr} {r : Rho} {σ : L2.St} (e : EnvR W H io z r σ) : ∀ vs : List Nat, EnvR W H io z (wipeR r vs) (wipe σ vs)
  | [] => e
  | v :: vs => by
    have ih := e.wipe vs
    unfold wipeR L2.wipe
    refine ⟨by rw [List.length_set, List.length_set, ih.len], fun j d' hj => ?_⟩
    rw [List.getElem?_set] at hj
    rw [List.getElem?_set]
    by_cases c : v = j
    · subst c
      rw [if_pos rfl] at hj
      split at hj <;> cases hj
    · rw [if_neg c] at hj ⊢
      exact ih.at_ j d' hj

abbrev RS (W : Wd) (vs : List Nat) (σ : L2.St) : RelF Rho L2.St := fun H io z r σ' => EnvR W H io z r σ' ∧ Only vs σ σ'
/-- a target's reading -/
def gR (W : Wd) (vs : List Nat) (f : Dt → Rho → Mo Rho) : TG := fun v σ H Q => ∃ io z r S d, Cells W H io z S ∧ EnvR W H io z r σ ∧ Rep W H io z d v ∧ Post W (RS W vs σ) io z H (f d r S) Q
/-- of several -/
def gRs (W : Wd) (vs : List Nat) (f : List Dt → Rho → Mo Rho) : TGs := fun v σ H Q => ∃ io z r S d, Cells W H io z S ∧ EnvR W H io z r σ ∧ Reps W H io z d v ∧ Post W (RS W vs σ) io z H (f d r S) Q
theorem pgW {X : Cx} {e : Expr} {t t' : TG} (h : PG X e t) (w : ∀ v σ H Q, t' v σ H Q → t v σ H Q) : PG X e t' := ⟨fun pins s σ H v u Q I r q => h.run pins s σ H v u Q I r (w v σ H Q q)⟩
theorem pgsW {X : Cx} {e : List Expr} {t t' : TGs} (h : PGs X e t) (w : ∀ v σ H Q, t' v σ H Q → t v σ H Q) : PGs X e t' := ⟨fun pins s σ H v u Q I r q => h.run pins s σ H v u Q I r (w v σ H Q q)⟩

section
variable {X : Cx} {fa : Nat → Addr} {cv : Nat → Dt} {Ph : Nat → List Dt → Mo Dt}
theorem g_name {i : Nat} {x : Str} {pos : Pos} (hN : X.N.Nodup) (hi : X.N[i]? = some x) (hx : Loc X.env.scope x) (hf : X.fn x = true ∨ X.env.scope.names.lookup x = some .local) : PG X (.Name x pos) (gR (Wd.mk X.K fa) [i] (evT cv Ph (.nm i))) := by
  refine pgW (pg_name hN hi hx hf) ?_
  rintro v σ H Q ⟨io, z, r, S, d, c, e, rv, p⟩
  rw [evT] at p
  exact Post.here p c ⟨e.set i rv, .set⟩
theorem gs_nil : PGs X [] (gRs (Wd.mk X.K fa) [] (evTs cv Ph [])) := by
  refine pgsW pgs_nil ?_
  rintro v σ H Q ⟨io, z, r, S, d, c, e, rv, p⟩
  cases d with
  | nil =>
    rw [evTs] at p
    exact ⟨rv, Post.here p c ⟨e, .refl⟩⟩
  | cons d ds => rw [evTs] at p; exact p.elim; all_goals simp
theorem notStar_assign {e : Expr} {es : List Expr} {env : Env} (h : noStar e = true) : assignEach (e :: es) env = (false, assign e env) :: assignEach es env := by
  cases e <;> first | rfl | (cases h)
theorem gs_cons {e : Expr} {es : List Expr} {t : ITg} {ts : List ITg} (hn : noStar e = true) (h1 : PG X e (gR (Wd.mk X.K fa) t.nms (evT cv Ph t))) (h2 : PGs X es (gRs (Wd.mk X.K fa) (nmsL ts) (evTs cv Ph ts))) : PGs X (e :: es) (gRs (Wd.mk X.K fa) (nmsL (t :: ts)) (evTs cv Ph (t :: ts))) := by
  refine pgsW (pgs_cons h1 h2 (by rw [notStar_assign hn]; rfl)) ?_
  rintro v σ H Q ⟨io, z, r, S, d, c, e, rv, p⟩
  cases d with
  | nil => rw [evTs] at p; exact p.elim; all_goals simp
  | cons d ds =>
    rw [evTs] at p
    obtain ⟨u, us, rfl, r1, r2⟩ := rv
    refine ⟨u, us, rfl, io, z, r, S, d, c, e, r1, (Post.bind (RF := RS _ t.nms σ) p).mono ?_⟩
    rintro σ1 H1 ⟨io1, S1, r', _, x1, c1, ⟨e1, o1⟩, p1⟩
    refine ⟨io1, z, r', S1, ds, c1, e1, Reps.ext x1 _ _ r2, ?_⟩
    cases q : evTs cv Ph ts ds r' S1 with
    | ok r2 S2 =>
      rw [q] at p1
      exact fun σ2 H2 io2 x2 c2 ⟨e2, o2⟩ => p1 σ2 H2 io2 x2 c2 ⟨e2, by unfold nmsL; exact o1.trans o2⟩
    | err _ _ => rw [q] at p1; exact p1
    | bad => rw [q] at p1; exact p1
theorem assign_len : ∀ {es : List Expr} {env : Env}, (assignEach es env).length = es.length
  | [], _ => rfl
  | e :: es, env => by cases e <;> (unfold assignEach; simp [assign_len (es := es)])
theorem assign_noStar : ∀ {es : List Expr} {env : Env}, es.all noStar = true → (assignEach es env).findIdx? (·.1) = none
  | [], _, _ => rfl
  | e :: es, env, h => by
    simp only [List.all_cons, Bool.and_eq_true] at h
    rw [notStar_assign h.1, List.findIdx?_cons]
    simp [assign_noStar (env := env) h.2]
theorem bind_ok {α β : Type} {R : Res α} {f : α → Store → Res β} {b : β} {S : Store} (h : R.bind f = .ok b S) : ∃ a S1, R = .ok a S1 ∧ f a S1 = .ok b S := by
  cases R with
  | ok a S1 => exact ⟨a, S1, rfl, h⟩
  | err _ _ => cases h
  | bad => cases h
theorem evTs_len : ∀ {ts : List ITg} {ds : List Dt} {r r' : Rho} {S S' : Store}, evTs cv Ph ts ds r S = .ok r' S' → ds.length = ts.length
  | [], [], _, _, _, _, _ => rfl
  | [], d :: ds, _, _, _, _, h => by rw [evTs] at h; cases h; all_goals simp
  | t :: ts, [], _, _, _, _, h => by rw [evTs] at h; cases h; all_goals simp
  | t :: ts, d :: ds, _, _, _, _, h => by
    rw [evTs] at h
    obtain ⟨r1, S1, _, h⟩ := bind_ok h
    rw [List.length_cons, List.length_cons, evTs_len h]
theorem post_ok {α β : Type} {W : Wd} {RF : RelF α β} {io z : List Addr} {H : Hp} {R : Res α} {Q : β → Hp → Prop} (p : Post W RF io z H R Q) : ∃ a S, R = .ok a S := by
  cases R with
  | ok a S => exact ⟨a, S, rfl⟩
  | err _ _ => exact p.elim
  | bad => exact p.elim
theorem g_tup {es : List Expr} {ts : List ITg} {k : Nat} {pos : Pos} (hc : X.calm = true) (hn : es.all noStar = true) (hl : es.length = ts.length) (h : PGs X es (gRs (Wd.mk X.K fa) (nmsL ts) (evTs cv Ph ts))) : PG X (.Tuple es k pos) (gR (Wd.mk X.K fa) (ITg.tup ts).nms (evT cv Ph (.tup ts))) := by
  refine pgW (pg_tup (n := es.length) hc h assign_len (assign_noStar hn)) ?_
  rintro v σ H Q ⟨io, z, r, S, d, c, e, rv, p⟩
  rw [evT] at p
  cases q : asTup d with
  | none => rw [q] at p; exact p.elim
  | some xs =>
    rw [q] at p
    obtain ⟨a, vs, rfl, h1, h2⟩ := asTup_of q rv
    obtain ⟨r', S', hr⟩ := post_ok (show Post _ _ _ _ _ (evTs cv Ph ts xs r S) Q from p)
    exact ⟨a, vs, rfl, sqT_of h1, by rw [h2.length, evTs_len hr, hl], io, z, r, S, xs, c, e, h2, p⟩
def notSl : Expr → Bool
  | .Slice .. => false
  | _ => true
theorem assign_sub {o i : Expr} {pos : Pos} {env : Env} (h : notSl i = true) (v : Value) : assign (.Subscript o i pos) env v = (do
      let ov ← holding [v] (eval o env)
      let iv ← holding [v, ov] (eval i env)
      standAt pos
      holding [v, ov, iv] (setItem ov iv v)
      release [v, ov, iv] []) := by
  cases i <;> first | rfl | (cases h)
theorem g_sub {o i : Expr} {a j : IEx} {pos : Pos} (hi : notSl i = true) (h1 : PE X o (rdE (Wd.mk X.K fa) (evE cv Ph a))) (h2 : PE X i (rdE (Wd.mk X.K fa) (evE cv Ph j))) : PG X (.Subscript o i pos) (gR (Wd.mk X.K fa) (ITg.sub a j).nms (evT cv Ph (.sub a j))) := by
  refine pgW (pg_sub h1 h2 (set_store (fa := fa)) (assign_sub hi)) ?_
  rintro v σ H Q ⟨io, z, r, S, d, c, e, rv, p⟩
  rw [evT] at p
  refine ⟨io, z, r, S, c, e, (Post.bind p).mono ?_⟩
  rintro x H1 ⟨io1, S1, dx, _, x1, c1, r1, p1⟩
  refine ⟨io1, z, r, S1, c1, e.ext x1, (Post.bind p1).mono ?_⟩
  rintro y H2 ⟨io2, S2, dy, _, x2, c2, r2, p2⟩
  cases q : setD S2 dx dy d with
  | none => rw [q] at p2; exact p2.elim
  | some S3 =>
    rw [q] at p2
    refine ⟨io2, z, S2, dx, dy, d, S3, c2, r1.ext x2, r2, (rv.ext x1).ext x2, q, fun H' x3 c3 => ?_⟩
    exact p2 σ H' io2 x3 c3 ⟨((e.ext x1).ext x2).ext x3, .refl⟩
end
end Pz
namespace Pz
open PySem PySem.Spec PyProof.Rows L2

/-! ### what is walked -/
theorem Rep.zs {W : Wd} {H : Hp} {io z : List Addr} : ∀ (ex : List Addr), (∀ p ∈ ex, H p = none) → ∀ (d : Dt) (v : V), Rep W H io z d v → Rep W H io (ex ++ z) d v
  | [], _, _, _, h => h
  | p :: ex, hp, d, v, h => Rep.more (hp p List.mem_cons_self) d v (Rep.zs ex (fun q hq => hp q (List.mem_cons_of_mem _ hq)) d v h)
theorem Reps.zs {W : Wd} {H : Hp} {io z : List Addr} : ∀ (ex : List Addr), (∀ p ∈ ex, H p = none) → ∀ (d : List Dt) (v : List V), Reps W H io z d v → Reps W H io (ex ++ z) d v
  | [], _, _, _, h => h
  | p :: ex, hp, d, v, h => Reps.more (hp p List.mem_cons_self) d v (Reps.zs ex (fun q hq => hp q (List.mem_cons_of_mem _ hq)) d v h)
structure Turns (W : Wd) (io z : List Addr) (H : Hp) (S : Store) (items : List Dt) (J : It) : Prop where
  go : ∀ (i : Nat) (d : Dt), items[i]? = some d → J.go i H ∧ ∀ x H', J.yld i H x H' → Ext io H io H' ∧ Cells W H' io z S ∧ Rep W H' io z d x
  stop : J.stop items.length H
/-- the iterator J walks w -/
def WalkR (W : Wd) (H0 : Hp) (io0 z0 : List Addr) (w : Walk) (J : It) : Prop :=
  ∀ (ex io : List Addr) (H : Hp) (S : Store), (∀ p ∈ ex, H0 p = none) → Ext io0 H0 io H → Cells W H io (ex ++ z0) S → still S w.src = true → Turns W io (ex ++ z0) H S w.items J
/-- an iterator's reading -/
abbrev iR (W : Wd) (f : Rho → Mo Walk) : TI := rdG W (fun H io z w J => WalkR W H io z w J) f
theorem piW {X : Cx} {tg e : Expr} {t t' : TI} (h : PI X tg e t) (w : ∀ σ H Q, t' σ H Q → t σ H Q) : PI X tg e t' := ⟨fun pins s σ H R I q => h.run pins s σ H R I (w σ H R q)⟩

theorem still_one {S : Store} {n : Nat} {xs : List Dt} (h : still S [(n, xs)] = true) : S[n]? = some xs := by
  unfold still at h
  rw [Bool.and_eq_true] at h
  cases e : S[n]? with
  | none => rw [e] at h; exact absurd h.1 (by simp)
  | some ys => rw [e] at h; rw [sameAll_eq _ _ h.1]
theorem still_app {S : Store} : ∀ {a b : List (Nat × List Dt)}, still S (a ++ b) = true → still S a = true ∧ still S b = true
  | [], b, h => ⟨rfl, h⟩
  | (n, xs) :: a, b, h => by
    have h : ((match S[n]? with | some ys => sameAll ys xs | none => false) && still S (a ++ b)) = true := h
    rw [Bool.and_eq_true] at h
    obtain ⟨h1, h2⟩ := still_app h.2
    refine ⟨?_, h2⟩
    show ((match S[n]? with | some ys => sameAll ys xs | none => false) && still S a) = true
    rw [Bool.and_eq_true]
    exact ⟨h.1, h1⟩
/-- a list that is walked, later -/
theorem later_lst {W : Wd} {H0 H : Hp} {io0 io z0 ex : List Addr} {S0 S : Store} {d : Dt} {xs : List Dt} {v : V} (hx : ∀ p ∈ ex, H0 p = none) (x : Ext io0 H0 io H) (c0 : Cells W H0 io0 z0 S0) (c : Cells W H io (ex ++ z0) S) (st : still S (srcOf d xs) = true) (h : asLst S0 d = some xs) (r : Rep W H0 io0 z0 d v) :
    ∃ a vs, v = .ref a ∧ SqL W.K H a vs ∧ Reps W H io (ex ++ z0) xs vs := by
  have r1 := (Rep.zs ex hx d v r).ext x
  cases d with
  | scr ns => exact asLst_of c (d := .scr ns) h r1
  | lst ys => exact asLst_of c (d := .lst ys) h r1
  | loc n =>
    refine asLst_of c (d := .loc n) ?_ r1
    have := still_one st
    exact this
  | _ => cases h
theorem later_tup {W : Wd} {H0 H : Hp} {io0 io z0 ex : List Addr} {d : Dt} {xs : List Dt} {v : V} (hx : ∀ p ∈ ex, H0 p = none) (x : Ext io0 H0 io H) (h : asTup d = some xs) (r : Rep W H0 io0 z0 d v) :
    ∃ a vs, v = .ref a ∧ TupAt W.K H (io ++ (ex ++ z0)) a vs ∧ Reps W H io (ex ++ z0) xs vs := asTup_of h ((Rep.zs ex hx d v r).ext x)
theorem tup_some {d : Dt} {xs : List Dt} (h : asTup d = some xs) : d = .tup xs := by cases d <;> cases h; rfl

section
variable {X : Cx} {tg : Expr} {fa : Nat → Addr}
theorem walk_tup {H : Hp} {io z : List Addr} {d : Dt} {xs : List Dt} {v : V} {a : Addr} (e : v = .ref a) (h : asTup d = some xs) (r : Rep (Wd.mk X.K fa) H io z d v) : WalkR (Wd.mk X.K fa) H io z ⟨xs, srcOf d xs⟩ (Itt X.K a) := by
  intro ex io1 H1 S1 hx x c st
  obtain ⟨a', vs, e', h1, h2⟩ := later_tup hx x h r
  rw [e] at e'
  cases e'
  have sq : SqT X.K H1 a vs := sqT_of h1
  refine ⟨fun i d' hd => ?_, ⟨vs, sq, by rw [h2.length]; exact Nat.le_refl _⟩⟩
  obtain ⟨w, hw, rw'⟩ := h2.get hd
  refine ⟨⟨vs, w, sq, hw⟩, ?_⟩
  rintro y H' ⟨rfl, hy⟩
  have := hy vs sq
  rw [hw] at this
  cases this
  exact ⟨Ext.refl _ _, c, rw'⟩
theorem walk_lst {H : Hp} {io z : List Addr} {S : Store} {d : Dt} {xs : List Dt} {v : V} {a : Addr} (e : v = .ref a) (c0 : Cells (Wd.mk X.K fa) H io z S) (h : asLst S d = some xs) (r : Rep (Wd.mk X.K fa) H io z d v) : WalkR (Wd.mk X.K fa) H io z ⟨xs, srcOf d xs⟩ (Itl X.K a) := by
  intro ex io1 H1 S1 hx x c st
  obtain ⟨a', vs, e', h1, h2⟩ := later_lst hx x c0 c st h r
  rw [e] at e'
  cases e'
  refine ⟨fun i d' hd => ?_, ⟨vs, h1, by rw [h2.length]; exact Nat.le_refl _⟩⟩
  obtain ⟨w, hw, rw'⟩ := h2.get hd
  refine ⟨⟨vs, w, h1, hw⟩, ?_⟩
  rintro y H' ⟨rfl, hy⟩
  have := hy vs h1
  rw [hw] at this
  cases this
  exact ⟨Ext.refl _ _, c, rw'⟩
theorem i_seq {l : Expr} {f : Rho → Mo Dt} (hl : PE X l (rdE (Wd.mk X.K fa) f)) : PI X tg l (iR (Wd.mk X.K fa) fun r S => (f r S).bind seqK) := by
  refine ⟨fun pins s σ H R I h => ?_⟩
  obtain ⟨io, z, r, S, c, e, p⟩ := h
  obtain ⟨w, S9, hw⟩ := post_ok p
  obtain ⟨d, S1, hd, hw⟩ := bind_ok hw
  have p : Post (Wd.mk X.K fa) (fun H io z w J => WalkR (Wd.mk X.K fa) H io z w J) io z H ((f r S).bind seqK) R := p
  rw [hd] at p
  have p : Post (Wd.mk X.K fa) (fun H io z w J => WalkR (Wd.mk X.K fa) H io z w J) io z H (seqK d S1) R := p
  unfold seqK at hw p
  cases q : asTup d with
  | some xs =>
    have q2 : asSeq S1 d = some xs := by unfold asSeq; rw [q]
    rw [q2] at p
    refine (pi_tup hl).run pins s σ H R I ⟨io, z, r, S, c, e, ?_⟩
    rw [hd]
    intro v H' io' x c' rv
    obtain ⟨a, vs, ev, h1, h2⟩ := asTup_of q rv
    exact ⟨a, ev, ⟨vs, sqT_of h1⟩, p _ H' io' x c' (walk_tup ev q rv)⟩
  | none =>
    have q2 : asSeq S1 d = asLst S1 d := by unfold asSeq; rw [q]
    rw [q2] at p hw
    cases q3 : asLst S1 d with
    | none => rw [q3] at p; exact p.elim
    | some xs =>
      rw [q3] at p
      refine (pi_list hl).run pins s σ H R I ⟨io, z, r, S, c, e, ?_⟩
      rw [hd]
      intro v H' io' x c' rv
      obtain ⟨a, vs, ev, h1, h2⟩ := asLst_of c' q3 rv
      exact ⟨a, ev, ⟨vs, h1⟩, p _ H' io' x c' (walk_lst ev c' q3 rv)⟩
theorem rngL_get {lo c : Int} {n i : Nat} {d : Dt} (h : (rngL lo c n)[i]? = some d) : i < n ∧ d = .int (lo + (i : Nat) * c) := by
  unfold rngL at h
  rw [List.getElem?_map] at h
  cases q : (List.range n)[i]? with
  | none => rw [q] at h; cases h
  | some k =>
    rw [q] at h
    obtain ⟨hl, hk⟩ := List.getElem?_eq_some_iff.mp q
    rw [List.getElem_range] at hk
    subst hk
    cases h
    exact ⟨by simpa using hl, rfl⟩
theorem rngL_len {lo c : Int} {n : Nat} : (rngL lo c n).length = n := by unfold rngL; rw [List.length_map, List.length_range]
theorem walk_rng {H : Hp} {io z : List Addr} {lo : Int} {n : Nat} : WalkR (Wd.mk X.K fa) H io z ⟨rngL lo 1 n, []⟩ (Itr lo n) := by
  intro ex io1 H1 S1 hx x c st
  refine ⟨fun i d hd => ?_, by rw [rngL_len]; exact Nat.le_refl _⟩
  obtain ⟨h1, rfl⟩ := rngL_get hd
  refine ⟨h1, ?_⟩
  rintro y H' ⟨rfl, rfl⟩
  exact ⟨Ext.refl _ _, c, by rw [Int.mul_one]; rfl⟩
theorem walk_rngC {H : Hp} {io z : List Addr} {lo k : Int} {n : Nat} : WalkR (Wd.mk X.K fa) H io z ⟨rngL lo k n, []⟩ (Itc lo k n) := by
  intro ex io1 H1 S1 hx x c st
  refine ⟨fun i d hd => ?_, by rw [rngL_len]; exact Nat.le_refl _⟩
  obtain ⟨h1, rfl⟩ := rngL_get hd
  refine ⟨h1, ?_⟩
  rintro y H' ⟨rfl, rfl⟩
  exact ⟨Ext.refl _ _, c, rfl⟩
theorem postIf {W : Wd} {α β : Type} {RF : RelF α β} {io z : List Addr} {H : Hp} {b : Bool} {R : Res α} {Q : β → Hp → Prop} (p : Post W RF io z H (if b = true then R else .bad) Q) : b = true ∧ Post W RF io z H R Q := by
  cases b with
  | true => exact ⟨rfl, p⟩
  | false => exact p.elim
abbrev RW (W : Wd) : RelF Walk It := fun H io z w J => WalkR W H io z w J
theorem starOne {e : Expr} {env : Env} (h : noStar e = true) : starEach [e] env = [(false, eval e env)] := star_cons h
theorem reps1 {W : Wd} {H : Hp} {io z : List Addr} {d : Dt} {vs : List V} (h : Reps W H io z [d] vs) : ∃ v, vs = [v] ∧ Rep W H io z d v := by
  obtain ⟨v, r, e, h1, h2⟩ := h
  rw [show r = [] from h2] at e
  exact ⟨v, e, h1⟩
theorem reps2 {W : Wd} {H : Hp} {io z : List Addr} {d e : Dt} {vs : List V} (h : Reps W H io z [d, e] vs) : ∃ v w, vs = [v, w] ∧ Rep W H io z d v ∧ Rep W H io z e w := by
  obtain ⟨v, r, e1, h1, h2⟩ := h
  obtain ⟨w, rfl, h3⟩ := reps1 h2
  exact ⟨v, w, e1, h1, h3⟩
theorem reps3 {W : Wd} {H : Hp} {io z : List Addr} {d e g : Dt} {vs : List V} (h : Reps W H io z [d, e, g] vs) : ∃ v w u, vs = [v, w, u] ∧ Rep W H io z d v ∧ Rep W H io z e w ∧ Rep W H io z g u := by
  obtain ⟨v, r, e1, h1, h2⟩ := h
  obtain ⟨w, u, rfl, h3, h4⟩ := reps2 h2
  exact ⟨v, w, u, e1, h1, h3, h4⟩
/-- one part's reading as a list's -/
theorem rA1 {W : Wd} {γ δ : Type} {RG : RelF γ δ} {f : Rho → Mo Dt} {k : Dt → Store → Res γ} {σ : L2.St} {H : Hp} {Q : δ → Hp → Prop} (h : rdG W RG (fun r S => (f r S).bind k) σ H Q) :
    rdA W (consK f fun _ S => .ok [] S) σ H fun vs H1 => ∃ io z S a v, vs = [v] ∧ Cells W H1 io z S ∧ Rep W H1 io z a v ∧ Post W RG io z H1 (k a S) Q := by
  obtain ⟨io, z, r, S, c, e, p⟩ := h
  refine ⟨io, z, r, S, c, e, ?_⟩
  dsimp only at p
  show Post _ _ _ _ _ ((f r S).bind fun d S1 => .ok [d] S1) _
  cases q : f r S with
  | ok d S1 =>
    rw [q] at p
    intro vs H1 io1 x c1 rv
    obtain ⟨v, rfl, r1⟩ := reps1 rv
    exact ⟨io1, z, S1, d, v, rfl, c1, r1, Post.at_ (show Post W RG io z H (k d S1) Q from p) x⟩
  | err _ _ => rw [q] at p; exact p
  | bad => rw [q] at p; exact p
theorem rA2 {W : Wd} {γ δ : Type} {RG : RelF γ δ} {f g : Rho → Mo Dt} {k : Dt → Dt → Store → Res γ} {σ : L2.St} {H : Hp} {Q : δ → Hp → Prop} (h : rdG W RG (fun r S => (f r S).bind fun x S1 => (g r S1).bind fun y S2 => k x y S2) σ H Q) :
    rdA W (consK f (consK g fun _ S => .ok [] S)) σ H fun vs H1 => ∃ io z S x y v w, vs = [v, w] ∧ Cells W H1 io z S ∧ Rep W H1 io z x v ∧ Rep W H1 io z y w ∧ Post W RG io z H1 (k x y S) Q := by
  obtain ⟨io, z, r, S, c, e, p⟩ := h
  refine ⟨io, z, r, S, c, e, ?_⟩
  dsimp only at p
  show Post _ _ _ _ _ ((f r S).bind fun d S1 => ((g r S1).bind fun d' S2 => .ok [d'] S2).bind fun ds S2 => .ok (d :: ds) S2) _
  cases q : f r S with
  | ok d S1 =>
    rw [q] at p
    have p : Post W RG io z H ((g r S1).bind fun y S2 => k d y S2) Q := p
    show Post _ _ _ _ _ (((g r S1).bind fun d' S2 => .ok [d'] S2).bind fun ds S2 => .ok (d :: ds) S2) _
    cases q2 : g r S1 with
    | ok d2 S2 =>
      rw [q2] at p
      intro vs H1 io1 x c1 rv
      obtain ⟨v, w, rfl, r1, r2⟩ := reps2 rv
      exact ⟨io1, z, S2, d, d2, v, w, rfl, c1, r1, r2, Post.at_ (show Post W RG io z H (k d d2 S2) Q from p) x⟩
    | err _ _ => rw [q2] at p; exact p
    | bad => rw [q2] at p; exact p
  | err _ _ => rw [q] at p; exact p
  | bad => rw [q] at p; exact p
theorem rA3 {W : Wd} {γ δ : Type} {RG : RelF γ δ} {f g l : Rho → Mo Dt} {k : Dt → Dt → Dt → Store → Res γ} {σ : L2.St} {H : Hp} {Q : δ → Hp → Prop} (h : rdG W RG (fun r S => (f r S).bind fun x S1 => (g r S1).bind fun y S2 => (l r S2).bind fun z S3 => k x y z S3) σ H Q) :
    rdA W (consK f (consK g (consK l fun _ S => .ok [] S))) σ H fun vs H1 => ∃ io z S x y t v w u, vs = [v, w, u] ∧ Cells W H1 io z S ∧ Rep W H1 io z x v ∧ Rep W H1 io z y w ∧ Rep W H1 io z t u ∧ Post W RG io z H1 (k x y t S) Q := by
  obtain ⟨io, z, r, S, c, e, p⟩ := h
  refine ⟨io, z, r, S, c, e, ?_⟩
  dsimp only at p
  show Post _ _ _ _ _ ((f r S).bind fun d S1 => ((g r S1).bind fun d' S2 => ((l r S2).bind fun d2 S3 => .ok [d2] S3).bind fun ds S2 => .ok (d' :: ds) S2).bind fun ds S2 => .ok (d :: ds) S2) _
  cases q : f r S with
  | ok d S1 =>
    rw [q] at p
    have p : Post W RG io z H ((g r S1).bind fun y S2 => (l r S2).bind fun z S3 => k d y z S3) Q := p
    show Post _ _ _ _ _ (((g r S1).bind fun d' S2 => ((l r S2).bind fun d2 S3 => .ok [d2] S3).bind fun ds S2 => .ok (d' :: ds) S2).bind fun ds S2 => .ok (d :: ds) S2) _
    cases q2 : g r S1 with
    | ok d2 S2 =>
      rw [q2] at p
      have p : Post W RG io z H ((l r S2).bind fun z S3 => k d d2 z S3) Q := p
      show Post _ _ _ _ _ ((((l r S2).bind fun d3 S3 => .ok [d3] S3).bind fun ds S2 => .ok (d2 :: ds) S2).bind fun ds S2 => .ok (d :: ds) S2) _
      cases q3 : l r S2 with
      | ok d3 S3 =>
        rw [q3] at p
        intro vs H1 io1 x c1 rv
        obtain ⟨v, w, u, rfl, r1, r2, r3⟩ := reps3 rv
        exact ⟨io1, z, S3, d, d2, d3, v, w, u, rfl, c1, r1, r2, r3, Post.at_ (show Post W RG io z H (k d d2 d3 S3) Q from p) x⟩
      | err _ _ => rw [q3] at p; exact p
      | bad => rw [q3] at p; exact p
    | err _ _ => rw [q2] at p; exact p
    | bad => rw [q2] at p; exact p
  | err _ _ => rw [q] at p; exact p
  | bad => rw [q] at p; exact p
theorem okR_of {i : Int} (h : okR i = true) : -(2 ^ 62) ≤ i ∧ i < 2 ^ 62 := of_decide_eq_true h
theorem i_rng1 {a : Expr} {f : Rho → Mo Dt} {p pos : Pos} (hg : Gl X "range") (hm : X.mg "range" = none) (hn : noStar a = true) (ha : PE X a (rdE (Wd.mk X.K fa) f)) :
    PI X tg (.Call (.Name "range" p) [a] [] pos) (iR (Wd.mk X.K fa) fun r S => (f r S).bind rng1K) := by
  refine piW (pi_range1 hg hm (a_cons hn ha a_nil) (starOne hn)) fun σ H R q => rdG_mono (rA1 (RG := RW _) q) ?_
  rintro vs H1 ⟨io, z, S, d, v, rfl, c, r, p⟩
  unfold rng1K at p
  cases d with
  | int j =>
    (dsimp only at p); obtain ⟨h, p⟩ := postIf p
    obtain ⟨h1, h2⟩ := okR_of h
    exact ⟨j, by rw [show v = .int j from r], h1, h2, p _ _ _ (Ext.refl _ _) c walk_rng⟩
  | _ => exact p.elim
theorem starTwo {a b : Expr} {env : Env} (h : noStar a = true) (k : noStar b = true) : starEach [a, b] env = [(false, eval a env), (false, eval b env)] := by rw [star_cons h, starOne k]
theorem i_rng2 {a b : Expr} {f g : Rho → Mo Dt} {p pos : Pos} (hg : Gl X "range") (hm : X.mg "range" = none) (hn : noStar a = true) (hn2 : noStar b = true) (ha : PE X a (rdE (Wd.mk X.K fa) f)) (hb : PE X b (rdE (Wd.mk X.K fa) g)) :
    PI X tg (.Call (.Name "range" p) [a, b] [] pos) (iR (Wd.mk X.K fa) fun r S => (f r S).bind fun x S1 => (g r S1).bind fun y S2 => rng2K x y S2) := by
  refine piW (pi_range2 hg hm (a_cons hn ha (a_cons hn2 hb a_nil)) (starTwo hn hn2) (starOne hn2)) fun σ H R q => rdG_mono (rA2 (RG := RW _) q) ?_
  rintro vs H1 ⟨io, z, S, d, d2, v, w, rfl, c, r, r2, p⟩
  unfold rng2K at p
  cases d with
  | int i =>
    cases d2 with
    | int j =>
      (dsimp only at p); obtain ⟨h, p⟩ := postIf p
      rw [Bool.and_eq_true] at h
      obtain ⟨h1, h2⟩ := okR_of h.1
      obtain ⟨h3, h4⟩ := okR_of h.2
      exact ⟨i, j, by rw [show v = .int i from r, show w = .int j from r2], ⟨h1, h2, h3, h4⟩, p _ _ _ (Ext.refl _ _) c walk_rng⟩
    | _ => exact p.elim
  | _ => cases d2 <;> exact p.elim
theorem starTail {a b c : Expr} {env : Env} {pos : Pos} (h : noStar a = true) (k : noStar b = true) (l : noStar c = true) : starEach [a, b, c] env = (false, eval a env) :: starEach [b, c] env ∧ (backTo pos (starEach [b, c] env)).any (·.1) = false := by
  refine ⟨star_cons h, ?_⟩
  exact star_any (by simp [k, l])
theorem i_rng3 {a b d : Expr} {f g l : Rho → Mo Dt} {p pos : Pos} (hg : Gl X "range") (hm : X.mg "range" = none) (hn : noStar a = true) (hn2 : noStar b = true) (hn3 : noStar d = true) (ha : PE X a (rdE (Wd.mk X.K fa) f)) (hb : PE X b (rdE (Wd.mk X.K fa) g)) (hd : PE X d (rdE (Wd.mk X.K fa) l)) :
    PI X tg (.Call (.Name "range" p) [a, b, d] [] pos) (iR (Wd.mk X.K fa) fun r S => (f r S).bind fun x S1 => (g r S1).bind fun y S2 => (l r S2).bind fun z S3 => rng3K x y z S3) := by
  refine piW (pi_range3 hg hm (a_cons hn ha (a_cons hn2 hb (a_cons hn3 hd a_nil))) (starTail (pos := pos) hn hn2 hn3).1 (starTail hn hn2 hn3).2) fun σ H R q => rdG_mono (rA3 (RG := RW _) q) ?_
  rintro vs H1 ⟨io, z, S, d, d2, d3, v, w, u, rfl, c, r, r2, r3, p⟩
  unfold rng3K at p
  cases d with
  | int i =>
    cases d2 with
    | int j =>
      cases d3 with
      | int k =>
        (dsimp only at p); obtain ⟨h, p2⟩ := postIf p; clear p
        rw [Bool.and_eq_true, Bool.and_eq_true] at h
        obtain ⟨h1, h2⟩ := okR_of h.1.1
        obtain ⟨h3, h4⟩ := okR_of h.1.2
        obtain rfl : k = -1 := of_decide_eq_true h.2
        exact ⟨i, j, -1, (i - j).toNat, by rw [show v = .int i from r, show w = .int j from r2, show u = .int (-1) from r3], RgC.neg h1 h2 h3 h4, p2 _ _ _ (Ext.refl _ _) c walk_rngC⟩
      | _ => exact p.elim
    | _ => cases d3 <;> exact p.elim
  | _ => cases d2 <;> cases d3 <;> exact p.elim
end
end Pz
namespace Pz
open PySem PySem.Spec PyProof.Rows L2

/-! ### enumerate of a tuple -/
theorem meets_enumB {v : Value} {o : Obj} {H : Heap → Prop} (B : Begins v o H) :
    Meets (Builtin.«enumerate.__new__» ⟨[.type "enumerate", v], []⟩) (fun _ R s => H s.heap ∧
      R (.ok (.ret (.ref (s.heap.push o).objs.size))) { s with heap := (s.heap.push o).push { cls := .type "enumerate", data := .fields #[.none, .bool false, .ref s.heap.objs.size, rawInt 0, .none, .none] } }) :=
  .of_wp fun prog w A R s h => by
    obtain ⟨hp, g, d, tk, os⟩ := s
    obtain ⟨h1, h⟩ := h
    have hsub := sub_enumerate
    have q1 : ∀ {A' : Around} {E : Value → Shared → Prop} {Q : Value → Shared → Prop}, Q (.ref hp.objs.size) ⟨hp.push o, g, d, tk, os⟩ → wpAny (model prog w) A' (pyIter v) Q E ⟨hp, g, d, tk, os⟩ :=
      fun q => B.iter prog w _ _ ⟨hp, g, d, tk, os⟩ _ h1 q
    wp_walk using q1
    refine wpAny_stack_any fun st => wpAny_pure ?_
    split
    · rename_i c _ _ _ _ _
      cases (c == Value.type "enumerate") <;> (wp_walk using q1; exact ⟨_, rfl, h⟩)
    · wp_walk using q1
      exact ⟨_, rfl, h⟩
theorem call_enumB {prog : Program} {w : World} {A : Around} {E : Value → Shared → Prop} {s : Shared} {v : Value} {o : Obj} {H : Heap → Prop} {Q : Value → Shared → Prop} (B : Begins v o H) (h1 : H s.heap)
    (h : ∀ h', IsEnum h' (s.heap.objs.size + 1) s.heap.objs.size 0 .none → h'.get? s.heap.objs.size = some o → (∀ b o, s.heap.get? b = some o → h'.get? b = some o) → Q (.ref (s.heap.objs.size + 1)) { s with heap := h' }) :
    wpAny (model prog w) A (call (.type "enumerate") [v]) Q E s := by
  refine callType_new F.called_enumerate (by decide) (F.typeCall_enumerate_1 _) (F.newCall_enumerate_1 _) (fun obj => F.args_object_init_2 obj _) F.entry_enumerate_new (meets_enumB B) ⟨h1, ?_⟩
  have hz : (s.heap.push o).objs.size = s.heap.objs.size + 1 := Heap.size_push ..
  show _ ∧ _
  rw [hz]
  have he : IsEnum ((s.heap.push o).push { cls := .type "enumerate", data := .fields #[.none, .bool false, .ref s.heap.objs.size, rawInt 0, .none, .none] }) (s.heap.objs.size + 1) s.heap.objs.size 0 .none := by
    have q := Heap.get?_push_size (s.heap.push o) (o := { cls := .type "enumerate", data := .fields #[.none, .bool false, .ref s.heap.objs.size, rawInt 0, .none, .none] }) rfl
    rw [hz] at q; exact q
  exact ⟨⟨_, he, rfl⟩, h _ he (Heap.get?_push_of_some _ (Heap.get?_push_size _ B.free)) fun b o x => Heap.get?_push_of_some _ (Heap.get?_push_of_some _ x)⟩
/-- the tuple at a, each item in a new pair -/
def IteT (K : PySem.W.Frag) (a : Addr) : It :=
  ⟨fun i H => ∃ (xs : List V) (x : V), SqT K H a xs ∧ xs[i]? = some x, fun i H v H' => ∃ T x, v = .ref T ∧ H T = none ∧ H' = upd H T (.tup [.int (i : Nat), x]) ∧ ∀ xs, SqT K H a xs → xs[i]? = some x, fun i H => ∃ xs : List V, SqT K H a xs ∧ xs.length = i⟩
theorem turn_enumT {P : Program} {w : World} {K : PySem.W.Frag} {elts : List Expr} {kk : Nat} {tpos : Pos} (a e it : Addr) (ae : a ≠ e) (ai : a ≠ it) :
    Turn P w K (.Tuple elts kk tpos) (IteT K a) [e, it] e (fun i h => (∃ old, IsEnum h e it ((i : Nat) : Int) old) ∧ h.IsTupleIter it a i ∧ e ≠ it) where
  mem := by simp
  obj := fun i h st b hb => by
    obtain ⟨⟨old, he⟩, ⟨o, ho, hc, hd⟩, _⟩ := st
    have e' : b = e ∨ b = it := by simpa using hb
    rcases e' with z | z
    · rw [z]; exact ⟨_, he, fun v q => nomatch q⟩
    · rw [z]; exact ⟨o, ho, fun v q => by rw [hd] at q; cases q⟩
  keep := fun i h h' st k => let ⟨⟨old, he⟩, hi, hne⟩ := st; ⟨⟨old, k e (by simp) _ he⟩, hi.at fun o q => k it (by simp) o q, hne⟩
  item := by
    intro X hP hw hK hc i pins s σ H E I hf st hg
    subst hP hw hK
    obtain ⟨⟨old, he⟩, hit, hne⟩ := st
    obtain ⟨xs, x, hq, hx⟩ := hg
    obtain ⟨its, rv, p, hz⟩ := I.tuple hq
    have p : s.heap.IsTuple a its.toArray := p
    have hel : e < s.heap.objs.size := Heap.lt_size he
    have hil : it < s.heap.objs.size := by obtain ⟨_, q, _⟩ := hit; exact Heap.lt_size q
    have hl := rv.length
    have hlt : i < its.toArray.size := by
      have := (List.getElem?_eq_some_iff.mp hx).1
      simp; omega
    refine wpAny_pyNext_enum_itemD (Draws.tuple (prog := X.prog) (w := X.w) (A := X.A.in1) (I.ok.hd hc) it a ai its.toArray) he ⟨hit, p⟩ hlt hne (by simp [hne, Ne.symm ae]) fun u h' tk hP ho st' hT hsz hk => ?_
    obtain ⟨u', hu, ru⟩ := rv.get hx
    have eu : u' = u := by
      have hP : its.toArray[i]? = some u := hP
      have hu2 : its.toArray[i]? = some u' := by simpa using hu
      rw [hP] at hu2
      exact (Option.some.inj hu2).symm
    subst eu
    refine ⟨_, rfl, wpAny_letOwnedTupleGo_enum (s := { s with heap := h', toks := tk + 1 }) ho fun h'' he' sb => ?_⟩
    have hT2 : h''.get? s.heap.objs.size = some { cls := .type "tuple", data := .seq #[.int i tk, u'] } := (sb.2 _ (Nat.ne_of_gt hel)).trans hT
    have new : ObjOk X.prog X.w (upd H s.heap.objs.size (.tup [.int (i : Nat), x])) h'' s.heap.objs.size (.tup [.int (i : Nat), x]) :=
      ⟨by show 2 ≤ sizeLine; decide, [.int i tk, u'], .cons ⟨_, rfl⟩ (.cons ru .nil), ⟨_, hT2, rfl, _, rfl⟩⟩
    have I1 : L2.Inv X pins σ (upd H s.heap.objs.size (.tup [.int (i : Nat), x])) { s with heap := h'', toks := tk + 1 } :=
      I.turnedNew (ch := [e, it]) (fun b ob hb q => (sb.2 b (fun z => hb (by simp [z]))).trans (hk b ob (fun z => hb (by simp [z])) (fun z => hb (by simp [z])) q)) hf (Nat.le_refl _) new
    refine ⟨.ref s.heap.objs.size, _, I1, rfl, ⟨_, x, rfl, I.hok.fresh (Nat.le_refl _), rfl, fun ys hy => by rw [I.tuple_inj hy hq]; exact hx⟩, ⟨⟨u', ?_⟩, st'.1.at fun o q => (sb.2 it (Ne.symm hne)).trans q, hne⟩, fun b hb => ?_⟩
    · have e1 : ((i + 1 : Nat) : Int) = (i : Int) + 1 := by omega
      rw [e1]; exact he'
    · have hb' : b < s.heap.objs.size := by
        have e' : b = e ∨ b = it := by simpa using hb
        rcases e' with z | z
        · rw [z]; exact hel
        · rw [z]; exact hil
      rw [upd_ne (Nat.ne_of_lt hb')]
      exact (hf b hb).1
  done := by
    intro X hP hw hK hc i pins s σ H E I hf st hg
    subst hP hw hK
    obtain ⟨⟨old, he⟩, hit, hne⟩ := st
    obtain ⟨xs, hq, hx⟩ := hg
    obtain ⟨its, rv, p, hz⟩ := I.tuple hq
    have p : s.heap.IsTuple a its.toArray := p
    obtain ⟨f0, f1, f2, f3, f4, f5⟩ := hf it (by simp)
    have hl := rv.length
    have e1 : its.toArray.size = i := by simp; omega
    refine wpAny_pyNext_enum_endD (Draws.tuple (prog := X.prog) (w := X.w) (A := X.A.in1) (I.ok.hd hc) it a ai its.toArray) he (by rw [e1]; exact ⟨hit, p⟩) fun h' eb => ⟨rfl, I.turned (t' := s.toks) (fun b o hb q => eb b o hb q) f0 f1 f3 f4 f5⟩
  self := fun A i s Q E st h => let ⟨⟨_, he⟩, _⟩ := st; wpAny_pyIter_enum he h
def iEnumT (K : PySem.W.Frag) (ta : TA) : TI := fun σ H R => ta σ H fun vs H1 => ∃ a xs, vs = [.ref a] ∧ SqT K H1 a xs ∧ R (IteT K a) H1
theorem pi_enumT {X : Cx} {e : Expr} {ta : TA} {p pos tpos : Pos} {elts : List Expr} {kk : Nat} (hg : Gl X "enumerate") (hm : X.mg "enumerate" = none) (ha : PA X [e] ta) (hs : starEach [e] X.env = [(false, eval e X.env)]) :
    PI X (.Tuple elts kk tpos) (.Call (.Name "enumerate" p) [e] [] pos) (iEnumT X.K ta) := by
  refine ⟨fun pins s σ H R I h => ?_⟩
  refine Call_ (ld_blt I hg hm boot_enumerate (PyProof.Rows.callWith_type1 (thn (ha.run pos pins s σ H _ I h) fun us s1 ⟨vs, H1, I1, r1, q1⟩ => ?_) hs rfl))
  obtain ⟨a, xs, ex, hq, q⟩ := q1
  subst ex
  cases r1 with
  | cons r rr =>
    cases rr
    cases r
    obtain ⟨its, rv, p', hz⟩ := I1.tuple hq
    have p' : s1.heap.IsTuple a its.toArray := p'
    have al : a < s1.heap.objs.size := by obtain ⟨o, ho, _⟩ := id p'; exact Heap.lt_size ho
    refine call_enumB (begins_tuple a its.toArray) p' fun h' he hit hk => wpAny_pyIter_enum he ?_
    have I2 : L2.Inv X pins σ H1 { s1 with heap := h' } := I1.kept (t' := s1.toks) hk
    refine ⟨s1.heap.objs.size + 1, [s1.heap.objs.size + 1, s1.heap.objs.size], _, _, H1, rfl, I2, turn_enumT a (s1.heap.objs.size + 1) s1.heap.objs.size (Nat.ne_of_lt (Nat.lt_succ_of_lt al)) (Nat.ne_of_lt al), ⟨⟨.none, he⟩, ⟨_, hit, rfl, rfl⟩, Nat.succ_ne_self _⟩, fun b hb => ?_, q⟩
    have e' : b = s1.heap.objs.size + 1 ∨ b = s1.heap.objs.size := by simpa using hb
    have hle : s1.heap.objs.size ≤ b := by
      rcases e' with z | z
      · rw [z]; exact Nat.le_add_right _ _
      · rw [z]; exact Nat.le_refl _
    exact I1.fpOk hle (I1.hok.fresh hle)
theorem enumL_get : ∀ {xs : List Dt} {k i : Nat} {d : Dt}, (enumL k xs)[i]? = some d → ∃ x, xs[i]? = some x ∧ d = .tup [.int ((k + i : Nat) : Int), x]
  | [], _, _, _, h => by simp [enumL] at h
  | x :: xs, k, 0, d, h => by
    have h : some (Dt.tup [.int k, x]) = some d := h
    cases h
    exact ⟨x, rfl, rfl⟩
  | x :: xs, k, i + 1, d, h => by
    have h : (enumL (k + 1) xs)[i]? = some d := h
    obtain ⟨y, h1, h2⟩ := enumL_get h
    exact ⟨y, h1, by rw [h2, show k + 1 + i = k + (i + 1) by omega]⟩
theorem enumL_len : ∀ {xs : List Dt} {k : Nat}, (enumL k xs).length = xs.length
  | [], _ => rfl
  | x :: xs, k => by
    show (enumL (k + 1) xs).length + 1 = xs.length + 1
    rw [enumL_len]
theorem new_pair {W : Wd} {H : Hp} {io z : List Addr} {S : Store} (c : Cells W H io z S) {T : Addr} {d e : Dt} {v w : V} (hT : H T = none) (r1 : Rep W H io z d v) (r2 : Rep W H io z e w) :
    Ext io H io (upd H T (.tup [v, w])) ∧ Cells W (upd H T (.tup [v, w])) io z S ∧ Rep W (upd H T (.tup [v, w])) io z (.tup [d, e]) (.ref T) := by
  have x : Ext io H io (upd H T (.tup [v, w])) := Ext.new hT
  exact ⟨x, c.new hT, T, [v, w], rfl, .inl ⟨c.fresh hT, .inl upd_same⟩, Reps.ext x _ _ (.cons r1 (.cons r2 rfl))⟩
section
variable {X : Cx} {tg : Expr} {fa : Nat → Addr}
theorem walk_enumT {H : Hp} {io z : List Addr} {d : Dt} {xs : List Dt} {v : V} {a : Addr} (e : v = .ref a) (h : asTup d = some xs) (r : Rep (Wd.mk X.K fa) H io z d v) : WalkR (Wd.mk X.K fa) H io z ⟨enumL 0 xs, srcOf d xs⟩ (IteT X.K a) := by
  intro ex io1 H1 S1 hx x c st
  obtain ⟨a', vs, e', h1, h2⟩ := later_tup hx x h r
  rw [e] at e'
  cases e'
  have sq : SqT X.K H1 a vs := sqT_of h1
  refine ⟨fun i d' hd => ?_, ⟨vs, sq, by rw [h2.length, enumL_len]⟩⟩
  obtain ⟨d2, hd2, rfl⟩ := enumL_get hd
  obtain ⟨w, hw, rw'⟩ := h2.get hd2
  refine ⟨⟨vs, w, sq, hw⟩, ?_⟩
  rintro y H' ⟨T, u, rfl, hT, rfl, hy⟩
  have := hy vs sq
  rw [hw] at this
  cases this
  exact new_pair c hT (by rw [Nat.zero_add]; rfl) rw'
theorem walk_enumL {H : Hp} {io z : List Addr} {S : Store} {d : Dt} {xs : List Dt} {v : V} {a : Addr} (e : v = .ref a) (c0 : Cells (Wd.mk X.K fa) H io z S) (h : asLst S d = some xs) (r : Rep (Wd.mk X.K fa) H io z d v) : WalkR (Wd.mk X.K fa) H io z ⟨enumL 0 xs, srcOf d xs⟩ (Ite X.K a) := by
  intro ex io1 H1 S1 hx x c st
  obtain ⟨a', vs, e', h1, h2⟩ := later_lst hx x c0 c st h r
  rw [e] at e'
  cases e'
  refine ⟨fun i d' hd => ?_, ⟨vs, h1, by rw [h2.length, enumL_len]; exact Nat.le_refl _⟩⟩
  obtain ⟨d2, hd2, rfl⟩ := enumL_get hd
  obtain ⟨w, hw, rw'⟩ := h2.get hd2
  refine ⟨⟨vs, w, h1, hw⟩, ?_⟩
  rintro y H' ⟨T, u, rfl, hT, rfl, hy⟩
  have := hy vs h1
  rw [hw] at this
  cases this
  exact new_pair c hT (by rw [Nat.zero_add]; rfl) rw'
theorem i_enum {l : Expr} {f : Rho → Mo Dt} {p pos tpos : Pos} {elts : List Expr} {kk : Nat} (hg : Gl X "enumerate") (hm : X.mg "enumerate" = none) (hn : noStar l = true) (hl : PE X l (rdE (Wd.mk X.K fa) f)) :
    PI X (.Tuple elts kk tpos) (.Call (.Name "enumerate" p) [l] [] pos) (iR (Wd.mk X.K fa) fun r S => (f r S).bind enumK) := by
  have ha := a_cons hn hl a_nil
  refine ⟨fun pins s σ H R I h => ?_⟩
  obtain ⟨io, z, r, S, c, e, p⟩ := h
  have p : Post (Wd.mk X.K fa) (RW (Wd.mk X.K fa)) io z H ((f r S).bind enumK) R := p
  obtain ⟨w, S9, hw⟩ := post_ok p
  obtain ⟨d, S1, hd, hw⟩ := bind_ok hw
  rw [hd] at p
  have p : Post (Wd.mk X.K fa) (RW (Wd.mk X.K fa)) io z H (enumK d S1) R := p
  have hd2 : consK f (fun _ S => .ok [] S) r S = .ok [d] S1 := by
    unfold consK
    rw [hd] <;> rfl
  unfold enumK at hw p
  cases q : asTup d with
  | some xs =>
    have q2 : asSeq S1 d = some xs := by unfold asSeq; rw [q]
    rw [q2] at p
    refine (pi_enumT hg hm ha (starOne hn)).run pins s σ H R I ⟨io, z, r, S, c, e, ?_⟩
    rw [hd2]
    intro vs H' io' x c' rv
    obtain ⟨v, rfl, rv1⟩ := reps1 rv
    obtain ⟨a, vs, ev, h1, h2⟩ := asTup_of q rv1
    exact ⟨a, vs, by rw [ev], sqT_of h1, p _ H' io' x c' (walk_enumT ev q rv1)⟩
  | none =>
    have q2 : asSeq S1 d = asLst S1 d := by unfold asSeq; rw [q]
    rw [q2] at p hw
    cases q3 : asLst S1 d with
    | none => rw [q3] at p; exact p.elim
    | some xs =>
      rw [q3] at p
      refine (pi_enum hg hm ha (starOne hn)).run pins s σ H R I ⟨io, z, r, S, c, e, ?_⟩
      rw [hd2]
      intro vs H' io' x c' rv
      obtain ⟨v, rfl, rv1⟩ := reps1 rv
      obtain ⟨a, vs, ev, h1, h2⟩ := asLst_of c' q3 rv1
      exact ⟨a, vs, by rw [ev], h1, p _ H' io' x c' (walk_enumL ev c' q3 rv1)⟩
theorem zipL_get : ∀ {xs ys : List Dt} {i : Nat} {d : Dt}, (zipL xs ys)[i]? = some d → ∃ x y, xs[i]? = some x ∧ ys[i]? = some y ∧ d = .tup [x, y]
  | [], _, _, _, h => by simp [zipL] at h
  | _ :: _, [], _, _, h => by simp [zipL] at h
  | x :: xs, y :: ys, 0, d, h => by
    have h : some (Dt.tup [x, y]) = some d := h
    cases h
    exact ⟨x, y, rfl, rfl, rfl⟩
  | x :: xs, y :: ys, i + 1, d, h => zipL_get (xs := xs) (ys := ys) (i := i) h
theorem zipL_len : ∀ {xs ys : List Dt}, xs.length ≤ (zipL xs ys).length ∨ ys.length ≤ (zipL xs ys).length
  | [], _ => .inl (Nat.zero_le _)
  | _ :: _, [] => .inr (Nat.zero_le _)
  | x :: xs, y :: ys => (zipL_len (xs := xs) (ys := ys)).imp Nat.succ_le_succ Nat.succ_le_succ
theorem walk_zipT {H : Hp} {io z : List Addr} {d d2 : Dt} {xs ys : List Dt} {v w : V} {a b : Addr} (e : v = .ref a) (e2 : w = .ref b) (h : asTup d = some xs) (k : asTup d2 = some ys) (r : Rep (Wd.mk X.K fa) H io z d v) (r2 : Rep (Wd.mk X.K fa) H io z d2 w) : WalkR (Wd.mk X.K fa) H io z ⟨zipL xs ys, []⟩ (RZ.ItzT X.K a b) := by
  intro ex io1 H1 S1 hx x c st
  obtain ⟨a', vs, e', h1, h2⟩ := later_tup hx x h r
  rw [e] at e'
  cases e'
  obtain ⟨b', ws, e', h3, h4⟩ := later_tup hx x k r2
  rw [e2] at e'
  cases e'
  have sq : SqT X.K H1 a vs := sqT_of h1
  have sq2 : SqT X.K H1 b ws := sqT_of h3
  refine ⟨fun i d' hd => ?_, ⟨vs, ws, sq, sq2, by rw [h2.length, h4.length]; exact zipL_len⟩⟩
  obtain ⟨x1, y1, hx1, hy1, rfl⟩ := zipL_get hd
  obtain ⟨u, hu, ru⟩ := h2.get hx1
  obtain ⟨u2, hu2, ru2⟩ := h4.get hy1
  refine ⟨⟨vs, ws, u, u2, sq, sq2, hu, hu2⟩, ?_⟩
  rintro y H' ⟨T, u', u2', rfl, hT, rfl, hy, hy2⟩
  have q1 := hy vs sq
  rw [hu] at q1
  cases q1
  have q2 := hy2 ws sq2
  rw [hu2] at q2
  cases q2
  exact new_pair c hT ru ru2
theorem walk_zipL {H : Hp} {io z : List Addr} {S : Store} {d d2 : Dt} {xs ys : List Dt} {v w : V} {a b : Addr} (e : v = .ref a) (e2 : w = .ref b) (c0 : Cells (Wd.mk X.K fa) H io z S) (h : asLst S d = some xs) (k : asLst S d2 = some ys) (r : Rep (Wd.mk X.K fa) H io z d v) (r2 : Rep (Wd.mk X.K fa) H io z d2 w) : WalkR (Wd.mk X.K fa) H io z ⟨zipL xs ys, srcOf d xs ++ srcOf d2 ys⟩ (Itz X.K a b) := by
  intro ex io1 H1 S1 hx x c st
  obtain ⟨st1, st2⟩ := still_app st
  obtain ⟨a', vs, e', sq, h2⟩ := later_lst hx x c0 c st1 h r
  rw [e] at e'
  cases e'
  obtain ⟨b', ws, e', sq2, h4⟩ := later_lst hx x c0 c st2 k r2
  rw [e2] at e'
  cases e'
  refine ⟨fun i d' hd => ?_, ⟨vs, ws, sq, sq2, by rw [h2.length, h4.length]; exact zipL_len⟩⟩
  obtain ⟨x1, y1, hx1, hy1, rfl⟩ := zipL_get hd
  obtain ⟨u, hu, ru⟩ := h2.get hx1
  obtain ⟨u2, hu2, ru2⟩ := h4.get hy1
  refine ⟨⟨vs, ws, u, u2, sq, sq2, hu, hu2⟩, ?_⟩
  rintro y H' ⟨T, u', u2', rfl, hT, rfl, hy, hy2⟩
  have q1 := hy vs sq
  rw [hu] at q1
  cases q1
  have q2 := hy2 ws sq2
  rw [hu2] at q2
  cases q2
  exact new_pair c hT ru ru2
theorem i_zip {l m : Expr} {f g : Rho → Mo Dt} {p pos tpos : Pos} {elts : List Expr} {kk : Nat} (hg : Gl X "zip") (hm : X.mg "zip" = none) (hn : noStar l = true) (hn2 : noStar m = true) (hl : PE X l (rdE (Wd.mk X.K fa) f)) (hl2 : PE X m (rdE (Wd.mk X.K fa) g)) :
    PI X (.Tuple elts kk tpos) (.Call (.Name "zip" p) [l, m] [] pos) (iR (Wd.mk X.K fa) fun r S => (f r S).bind fun x S1 => (g r S1).bind fun y S2 => zipK x y S2) := by
  refine piW (RZ.pi_zipA hg hm (a_cons hn hl (a_cons hn2 hl2 a_nil)) (by rw [star_cons hn]) (star_any (by simp [hn2]))) fun σ H R q => rdG_mono (rA2 (RG := RW _) q) ?_
  rintro vs H1 ⟨io, z, S, d, d2, v, w, rfl, c, r, r2, p⟩
  unfold zipK at p
  cases q1 : asTup d with
  | some xs =>
    cases q2 : asTup d2 with
    | some ys =>
      rw [q1, q2] at p
      obtain ⟨a, vs, rfl, h1, h2⟩ := asTup_of q1 r
      obtain ⟨b, ws, rfl, h3, h4⟩ := asTup_of q2 r2
      exact ⟨a, b, vs, ws, rfl, .inr ⟨sqT_of h1, sqT_of h3, p _ _ _ (Ext.refl _ _) c (walk_zipT rfl rfl q1 q2 r r2)⟩⟩
    | none =>
      rw [tup_some q1] at p
      rw [tup_some q1] at r
      dsimp only [asTup, asLst] at p
      cases d2 <;> first | exact p.elim | (cases q2)
  | none =>
    rw [q1] at p
    dsimp only at p
    cases q3 : asLst S d with
    | none => rw [q3] at p; exact p.elim
    | some xs =>
      cases q4 : asLst S d2 with
      | none => rw [q3, q4] at p; exact p.elim
      | some ys =>
        rw [q3, q4] at p
        obtain ⟨a, vs, rfl, h1, h2⟩ := asLst_of c q3 r
        obtain ⟨b, ws, rfl, h3, h4⟩ := asLst_of c q4 r2
        exact ⟨a, b, vs, ws, rfl, .inl ⟨h1, h3, p _ _ _ (Ext.refl _ _) c (walk_zipL rfl rfl c q3 q4 r r2)⟩⟩
end
end Pz
namespace Pz
open PySem PySem.Spec PyProof.Rows L2

/-! ### statements -/
/-- how a statement leaves -/
inductive VO where
  | nx (σ : L2.St) | rt (v : V) | bk (σ : L2.St) | ct (σ : L2.St)
def RO (W : Wd) : RelF Out VO := fun H io z o v => match o, v with
  | .nx r, .nx σ => EnvR W H io z r σ
  | .rt d, .rt v => Rep W H io z d v
  | .bk r, .bk σ => EnvR W H io z r σ
  | .ct r, .ct σ => EnvR W H io z r σ
  | _, _ => False
def endQ (D : Ends) : VO → Hp → Prop
  | .nx σ, H => D.nx σ H
  | .rt v, H => D.rt v H
  | .bk σ, H => D.bk σ H
  | .ct σ, H => D.ct σ H
/-- a statement's reading -/
def sR (W : Wd) (f : Rho → Mo Out) : TS := fun D σ H => rdG W (RO W) f σ H (endQ D)
theorem Post.val {α β : Type} {W : Wd} {RF : RelF α β} {io z : List Addr} {H : Hp} {a : α} {S : Store} {Q : β → Hp → Prop} (p : Post W RF io z H (.ok a S) Q) : ∀ v H' io', Ext io H io' H' → Cells W H' io' z S → RF H' io' z a v → Q v H' := p
theorem rdG_of {W : Wd} {α β : Type} {RF : RelF α β} {f : Rho → Mo α} {σ : L2.St} {H : Hp} {Q : β → Hp → Prop} {io z : List Addr} {r : Rho} {S : Store} (c : Cells W H io z S) (e : EnvR W H io z r σ) (p : Post W RF io z H (f r S) Q) : rdG W RF f σ H Q := ⟨io, z, r, S, c, e, p⟩

section
variable {X : Cx} {fa : Nat → Addr} {pos : Pos}
theorem st_pass : PS X (.Pass pos) (sR (Wd.mk X.K fa) fun r S => .ok (.nx r) S) := psW ps_pass fun D σ H ⟨io, z, r, S, c, e, p⟩ => p (.nx σ) _ _ (Ext.refl _ _) c e
theorem st_break : PS X (.Break pos) (sR (Wd.mk X.K fa) fun r S => .ok (.bk r) S) := psW ps_break fun D σ H ⟨io, z, r, S, c, e, p⟩ => p (.bk σ) _ _ (Ext.refl _ _) c e
theorem st_cont : PS X (.Continue pos) (sR (Wd.mk X.K fa) fun r S => .ok (.ct r) S) := psW ps_continue fun D σ H ⟨io, z, r, S, c, e, p⟩ => p (.ct σ) _ _ (Ext.refl _ _) c e
theorem st_doc {x : Str} {j pos'} : PS X (.Expr (.Constant (.str x) j pos) pos') (sR (Wd.mk X.K fa) fun r S => .ok (.nx r) S) := psW ps_doc fun D σ H ⟨io, z, r, S, c, e, p⟩ => p (.nx σ) _ _ (Ext.refl _ _) c e
/-- code that is not come to -/
theorem st_never {st : Stmt} : PS X st (sR (Wd.mk X.K fa) fun _ _ => .bad) := psW ps_never fun D σ H ⟨io, z, r, S, c, e, p⟩ => p
theorem st_ret {x : Expr} {f : Rho → Mo Dt} (he : PE X x (rdE (Wd.mk X.K fa) f)) : PS X (.Return (some x) pos) (sR (Wd.mk X.K fa) fun r S => (f r S).bind fun d S1 => .ok (.rt d) S1) := by
  refine psW (ps_ret he) fun D σ H q => rdG_mono (rd1 (RF := RepW _) (RG := RO _) q) ?_
  rintro v H1 ⟨io, z, S, d, c, r, p⟩
  exact p (.rt v) _ _ (Ext.refl _ _) c r
theorem st_retN : PS X (.Return none pos) (sR (Wd.mk X.K fa) fun r S => .ok (.rt .non) S) := psW ps_retN fun D σ H ⟨io, z, r, S, c, e, p⟩ => p (.rt .non) _ _ (Ext.refl _ _) c rfl
def notLc : Expr → Bool
  | .ListComp .. => false
  | .SetComp .. => false
  | .DictComp .. => false
  | _ => true
theorem swaps_no {e : Expr} {t : Option Expr} {l : Nat} {env : Env} (h : notLc e = true) : swapsWith e t l env = pure false := by
  cases e <;> first | rfl | (cases h)
def notNm : Expr → Bool
  | .Name _ _ => false
  | _ => true
theorem swaps_no2 {e t : Expr} {l : Nat} {env : Env} (h : (notLc e || notNm t) = true) : swapsWithSole [t] e l env = pure false := by
  show swapsWith e (some t) l env = pure false
  cases hn : notLc e with
  | true => exact swaps_no hn
  | false =>
    rw [hn, Bool.false_or] at h
    cases e <;> first | rfl | (cases t <;> first | rfl | cases h)
theorem st_ex {x : Expr} {f : Rho → Mo Dt} (hn : notLc x = true) (he : PE X x (rdE (Wd.mk X.K fa) f)) : PS X (.Expr x pos) (sR (Wd.mk X.K fa) fun r S => (f r S).bind fun _ S1 => .ok (.nx r) S1) := by
  refine psW (ps_expr he (swaps_no hn)) fun D σ H q => rdG_mono (rdN (RF := RepW _) (RG := RO _) q) ?_
  rintro v H1 ⟨io, z, r, S, d, c, e, _, p⟩
  exact p (.nx σ) _ _ (Ext.refl _ _) c e
theorem st_if {c : Expr} {a b : List Stmt} {f : Rho → Mo Dt} {g h : Rho → Mo Out} (hc : PT X c (rdT (Wd.mk X.K fa) f)) (ha : PSs X a (sR (Wd.mk X.K fa) g)) (hb : PSs X b (sR (Wd.mk X.K fa) h)) :
    PS X (.If c a b pos) (sR (Wd.mk X.K fa) fun r S => (toB (f r S)).bind fun k S1 => if k = true then g r S1 else h r S1) := by
  refine psW (ps_if hc ha hb) fun D σ H q => rdG_mono (rdN (RF := fun _ _ _ (b : Bool) b' => b' = b) (RG := RO _) q) ?_
  rintro b H1 ⟨io, z, r, S, k, c, e, rfl, p⟩
  cases b with
  | true => exact ⟨io, z, r, S, c, e, p⟩
  | false => exact ⟨io, z, r, S, c, e, p⟩
def seqK2 (g h : Rho → Mo Out) : Rho → Mo Out := fun r S => (g r S).bind fun o S1 => match o with
  | .nx r1 => h r1 S1
  | o => .ok o S1
theorem ss_nil : PSs X [] (sR (Wd.mk X.K fa) fun r S => .ok (.nx r) S) := pssW pss_nil fun D σ H ⟨io, z, r, S, c, e, p⟩ => p (.nx σ) _ _ (Ext.refl _ _) c e
theorem post_seq {W : Wd} {io z : List Addr} {H : Hp} {g h : Rho → Mo Out} {r : Rho} {S : Store} {D : Ends} (p : Post W (RO W) io z H (seqK2 g h r S) (endQ D)) :
    Post W (RO W) io z H (g r S) (endQ { D with nx := fun σ1 H1 => ∃ io1 r1 S1, Ext io H io1 H1 ∧ Cells W H1 io1 z S1 ∧ EnvR W H1 io1 z r1 σ1 ∧ Post W (RO W) io1 z H1 (h r1 S1) (endQ D) }) := by
  unfold seqK2 at p
  cases q : g r S with
  | bad => rw [q] at p; exact p
  | err _ _ => rw [q] at p; exact p
  | ok o S1 =>
    rw [q] at p
    cases o with
    | nx r1 =>
      intro v H1 io1 x c ro
      cases v with
      | nx σ1 => exact ⟨io1, r1, S1, x, c, ro, Post.at_ (show Post W (RO W) io z H (h r1 S1) (endQ D) from p) x⟩
      | _ => exact ro.elim
    | rt d =>
      intro v H1 io1 x c ro
      cases v with
      | rt w => exact Post.val p (.rt w) H1 io1 x c ro
      | _ => exact ro.elim
    | bk r1 =>
      intro v H1 io1 x c ro
      cases v with
      | bk w => exact Post.val p (.bk w) H1 io1 x c ro
      | _ => exact ro.elim
    | ct r1 =>
      intro v H1 io1 x c ro
      cases v with
      | ct w => exact Post.val p (.ct w) H1 io1 x c ro
      | _ => exact ro.elim
theorem ss_cons {st : Stmt} {sts : List Stmt} {g h : Rho → Mo Out} (h1 : PS X st (sR (Wd.mk X.K fa) g)) (h2 : PSs X sts (sR (Wd.mk X.K fa) h)) : PSs X (st :: sts) (sR (Wd.mk X.K fa) (seqK2 g h)) := by
  refine pssW (pss_cons h1 h2) ?_
  rintro D σ H ⟨io, z, r, S, c, e, p⟩
  refine ⟨io, z, r, S, c, e, (post_seq p).mono ?_⟩
  rintro v H1 q
  cases v with
  | nx σ1 =>
    obtain ⟨io1, r1, S1, x, c1, e1, p1⟩ := q
    exact ⟨io1, z, r1, S1, c1, e1, p1⟩
  | _ => exact q
/-- target = e -/
theorem st_asg {tg x : Expr} {t : ITg} {f : Rho → Mo Dt} {g : Dt → Rho → Mo Rho} {vs : List Nat} (he : PE X x (rdE (Wd.mk X.K fa) f)) (hg : PG X tg (gR (Wd.mk X.K fa) vs g)) (hn : (notLc x || notNm tg) = true) (hw : swappedStores [tg] x X.env = pure none) (hs : noStar tg = true) :
    PS X (.Assign [tg] x pos) (sR (Wd.mk X.K fa) fun r S => (f r S).bind fun d S1 => (g d r S1).bind fun r1 S2 => .ok (.nx r1) S2) := by
  refine psW (ps_asg he hg (swaps_no2 hn) hw (by rw [notStar_assign hs]; rfl)) fun D σ H q => rdG_mono (rdN (RF := RepW _) (RG := RO _) (k := fun r d S1 => (g d r S1).bind fun r1 S2 => .ok (.nx r1) S2) q) ?_
  rintro v H1 ⟨io, z, r, S, d, c, e, rv, p⟩
  refine ⟨io, z, r, S, d, c, e, rv, (Post.bind (RF := RS _ vs σ) p).mono ?_⟩
  rintro σ1 H2 ⟨io2, S2, r1, _, x2, c2, ⟨e2, _⟩, p2⟩
  exact p2 (.nx σ1) _ _ (Ext.refl _ _) c2 e2
/-- name op= e -/
theorem st_aug {i : Nat} {y : Str} {x : Expr} {sb : Bool} {f : Rho → Mo Dt} {pos' : Pos} (hN : X.N.Nodup) (hi : X.N[i]? = some y) (hx : Loc X.env.scope y) (he : PE X x (rdE (Wd.mk X.K fa) f)) (hf : X.fn y = true ∨ X.env.scope.names.lookup y = some .local) :
    PS X (.AugAssign (.Name y pos') (if sb then .Sub else .Add) x pos) (sR (Wd.mk X.K fa) fun r S => (getR r i S).bind fun x S1 => (f r S1).bind fun y S2 => match augK sb x y with
      | some d => .ok (.nx (r.set i (some d))) S2
      | none => .bad) := by
  have key : ∀ (D : Ends) (σ : L2.St) (H : Hp), sR (Wd.mk X.K fa) (fun r S => (getR r i S).bind fun x S1 => (f r S1).bind fun y S2 => match augK sb x y with
      | some d => .ok (.nx (r.set i (some d))) S2
      | none => .bad) D σ H → tAug i (rdE (Wd.mk X.K fa) f) (ipI fun a b => if sb then a - b else a + b) D σ H := by
    rintro D σ H ⟨io, z, r, S, c, e, p⟩
    dsimp only at p
    unfold getR at p
    split at p
    · rename_i d hd
      obtain ⟨v, h1, h2⟩ := e.at_ i d hd
      refine ⟨v, h1, io, z, r, S, c, e, (Post.bind (RF := RepW _) (show Post _ (RO _) io z H ((f r S).bind fun y S2 => match augK sb d y with
        | some d => .ok (.nx (r.set i (some d))) S2
        | none => .bad) (endQ D) from p)).mono ?_⟩
      rintro w H1 ⟨io1, S1, d1, _, x1, c1, r1, p1⟩
      cases d with
      | int a =>
        cases d1 with
        | int b =>
          obtain rfl : v = .int a := h2
          obtain rfl : w = .int b := r1
          refine ⟨a, b, rfl, rfl, ?_⟩
          exact p1 (.nx _) _ _ (Ext.refl _ _) c1 ((e.ext x1).set i (d := .int _) rfl)
        | _ => exact p1.elim
      | _ => cases d1 <;> exact p1.elim
    · exact p.elim
  cases sb with
  | true => exact psW (ps_aug hN hi hx he ip_sub hf) fun D σ H q => key D σ H q
  | false => exact psW (ps_aug hN hi hx he ip_add hf) fun D σ H q => key D σ H q
/-- a, b = x, y -/
theorem st_par {i j : Nat} {x y : Str} {a b : Expr} {f : Rho → Mo (List Dt)} {px py pt : Pos} {kt k2 pt2} (hc : X.calm = true) (hN : X.N.Nodup) (hi : X.N[i]? = some x) (hj : X.N[j]? = some y) (hij : i ≠ j)
    (hx : X.env.scope.names.lookup x = some .local) (hy : X.env.scope.names.lookup y = some .local) (ha : PA X [a, b] (rdA (Wd.mk X.K fa) f))
    (hw : swappedStores [.Tuple [.Name x px, .Name y py] kt pt] (.Tuple [a, b] k2 pt2) X.env = pure (some [x, y])) :
    PS X (.Assign [.Tuple [.Name x px, .Name y py] kt pt] (.Tuple [a, b] k2 pt2) pos) (sR (Wd.mk X.K fa) fun r S => (f r S).bind fun ds S1 => match setAll [i, j] ds r with | some r1 => .ok (.nx r1) S1 | none => .bad) := by
  refine psW (ps_par hc hN hi hj hij hx hy ha hw) fun D σ H q => rdG_mono (rdN (RF := fun H io z d v => Reps _ H io z d v) (RG := RO _) (k := fun r ds S1 => match setAll [i, j] ds r with | some r1 => .ok (.nx r1) S1 | none => .bad) q) ?_
  rintro vs H1 ⟨io, z, r, S, ds, c, e, rv, p⟩
  cases ds with
  | nil => exact p.elim
  | cons d ds =>
    cases ds with
    | nil => exact p.elim
    | cons d2 ds =>
      cases ds with
      | cons _ _ => exact p.elim
      | nil =>
        obtain ⟨v, w, rfl, r1, r2⟩ := reps2 rv
        exact ⟨v, w, rfl, Post.val p (.nx _) _ _ (Ext.refl _ _) c ((e.set i r1).set j r2)⟩
theorem st_par3 {i j l : Nat} {x y z : Str} {a b d : Expr} {f : Rho → Mo (List Dt)} {px py pz pt : Pos} {kt k2 pt2} (hc : X.calm = true) (hN : X.N.Nodup) (hi : X.N[i]? = some x) (hj : X.N[j]? = some y) (hl : X.N[l]? = some z) (hij : i ≠ j) (hil : i ≠ l) (hjl : j ≠ l)
    (hx : X.env.scope.names.lookup x = some .local) (hy : X.env.scope.names.lookup y = some .local) (hz : X.env.scope.names.lookup z = some .local) (ha : PA X [a, b, d] (rdA (Wd.mk X.K fa) f))
    (hw : swappedStores [.Tuple [.Name x px, .Name y py, .Name z pz] kt pt] (.Tuple [a, b, d] k2 pt2) X.env = pure (some [x, y, z])) :
    PS X (.Assign [.Tuple [.Name x px, .Name y py, .Name z pz] kt pt] (.Tuple [a, b, d] k2 pt2) pos) (sR (Wd.mk X.K fa) fun r S => (f r S).bind fun ds S1 => match setAll [i, j, l] ds r with | some r1 => .ok (.nx r1) S1 | none => .bad) := by
  refine psW (ps_par3 hc hN hi hj hl hij hil hjl hx hy hz ha hw) fun D σ H q => rdG_mono (rdN (RF := fun H io z d v => Reps _ H io z d v) (RG := RO _) (k := fun r ds S1 => match setAll [i, j, l] ds r with | some r1 => .ok (.nx r1) S1 | none => .bad) q) ?_
  rintro vs H1 ⟨io, z, r, S, ds, c, e, rv, p⟩
  cases ds with
  | nil => exact p.elim
  | cons d ds =>
    cases ds with
    | nil => exact p.elim
    | cons d2 ds =>
      cases ds with
      | nil => exact p.elim
      | cons d3 ds =>
        cases ds with
        | cons _ _ => exact p.elim
        | nil =>
          obtain ⟨v, w, u, rfl, r1, r2, r3⟩ := reps3 rv
          exact ⟨v, w, u, rfl, Post.val p (.nx _) _ _ (Ext.refl _ _) c (((e.set i r1).set j r2).set l r3)⟩
/-- while -/
theorem st_while {c : Expr} {body : List Stmt} {f : Rho → Mo Dt} {g : Rho → Mo Out} (hp : PassesOwn (model X.prog X.w) X.A X.env X.xe) (hc : PT X c (rdT (Wd.mk X.K fa) f)) (hb : PSs X body (sR (Wd.mk X.K fa) g)) (n : Nat) :
    PS X (.While c body [] pos) (sR (Wd.mk X.K fa) fun r S => whileF f g n r S) := by
  refine psW (ps_while hp hc hb) ?_
  rintro D σ H ⟨io, z, r, S, c, e, p⟩
  refine ⟨fun m σ1 H1 => rdG (Wd.mk X.K fa) (RO (Wd.mk X.K fa)) (fun r S => whileF f g m r S) σ1 H1 (endQ D), ⟨n, io, z, r, S, c, e, p⟩, ?_⟩
  rintro m σ1 H1 ⟨io, z, r, S, c, e, p⟩
  cases m with
  | zero => exact p.elim
  | succ m =>
    refine ⟨io, z, r, S, c, e, (Post.bind (RF := fun _ _ _ (b : Bool) b' => b' = b) (show Post _ _ _ _ _ ((toB (f r S)).bind fun b S1 => if b = true then (g r S1).bind fun o S2 => match o with
      | .nx r2 => whileF f g m r2 S2
      | .ct r2 => whileF f g m r2 S2
      | .bk r2 => .ok (.nx r2) S2
      | .rt d => .ok (.rt d) S2
    else .ok (.nx r) S1) _ from p)).mono ?_⟩
    rintro b H2 ⟨io2, S2, b', _, x2, c2, rfl, p2⟩
    cases b with
    | false => exact Post.val p2 (.nx σ1) _ _ (Ext.refl _ _) c2 (e.ext x2)
    | true =>
      have p2 : Post (Wd.mk X.K fa) (RO (Wd.mk X.K fa)) io2 z H2 ((g r S2).bind fun o S2 => match o with
        | .nx r2 => whileF f g m r2 S2
        | .ct r2 => whileF f g m r2 S2
        | .bk r2 => .ok (.nx r2) S2
        | .rt d => .ok (.rt d) S2) (endQ D) := p2
      refine ⟨fun σ' H' => rdG (Wd.mk X.K fa) (RO (Wd.mk X.K fa)) (fun r S => whileF f g m r S) σ' H' (endQ D), fun σ' H' h => ⟨m, Nat.lt_succ_self _, h⟩, io2, z, r, S2, c2, e.ext x2, ?_⟩
      refine (Post.bind (RF := RO _) p2).mono ?_
      rintro v H3 ⟨io3, S3, o, _, x3, c3, ro, p3⟩
      cases o with
      | nx r2 =>
        cases v with
        | nx σ2 => exact ⟨io3, z, r2, S3, c3, ro, p3⟩
        | _ => exact ro.elim
      | ct r2 =>
        cases v with
        | ct σ2 => exact ⟨io3, z, r2, S3, c3, ro, p3⟩
        | _ => exact ro.elim
      | bk r2 =>
        cases v with
        | bk σ2 => exact Post.val p3 (.nx σ2) _ _ (Ext.refl _ _) c3 ro
        | _ => exact ro.elim
      | rt d =>
        cases v with
        | rt w => exact Post.val p3 (.rt w) _ _ (Ext.refl _ _) c3 ro
        | _ => exact ro.elim
def notSet : Expr → Bool
  | .Set .. => false
  | _ => true
theorem folded_no {e : Expr} {env : Env} (h : notSet e = true) (x : Value) : foldedSetIterable e env x = pure x := by
  cases e <;> first | rfl | (cases h)
/-- for -/
theorem st_for {tg iter : Expr} {body : List Stmt} {vs : List Nat} {w : Rho → Mo Walk} {t : Dt → Rho → Mo Rho} {g : Rho → Mo Out} (hp : PassesOwn (model X.prog X.w) X.A X.env X.xe) (hc : X.calm = true) (hi : PI X tg iter (iR (Wd.mk X.K fa) w)) (ht : PG X tg (gR (Wd.mk X.K fa) vs t)) (hb : PSs X body (sR (Wd.mk X.K fa) g)) (hn : notSet iter = true) :
    PS X (.For tg iter body [] pos) (sR (Wd.mk X.K fa) fun r S => (w r S).bind fun w S1 => forF t g w.src w.items r S1) := by
  refine psW (ps_for hp hc hi ht hb (folded_no hn)) fun D σ H q => rdG_mono (rdN (RF := RW _) (RG := RO _) (k := fun r w S1 => forF t g w.src w.items r S1) q) ?_
  rintro J H1 ⟨io1, z, r1, S1, w, c1, e1, wk, p1⟩
  refine ⟨fun i m σ2 H2 => m = w.items.length - i ∧ i ≤ w.items.length ∧ ∃ io2 r2 S2, Ext io1 H1 io2 H2 ∧ Cells (Wd.mk X.K fa) H2 io2 z S2 ∧ EnvR (Wd.mk X.K fa) H2 io2 z r2 σ2 ∧ Post (Wd.mk X.K fa) (RO (Wd.mk X.K fa)) io2 z H2 (forF t g w.src (w.items.drop i) r2 S2) (endQ D),
    ⟨_, rfl, Nat.zero_le _, io1, r1, S1, Ext.refl _ _, c1, e1, p1⟩, ?_⟩
  rintro i m σ2 H2 ⟨rfl, hi, io2, r2, S2, x2, c2, e2, p2⟩
  by_cases hl : i < w.items.length
  · obtain ⟨d, hd⟩ : ∃ d, w.items[i]? = some d := ⟨_, List.getElem?_eq_getElem hl⟩
    have e3 : w.items.drop i = d :: w.items.drop (i + 1) := by
      rw [List.drop_eq_getElem_cons hl]
      have := (List.getElem?_eq_some_iff.mp hd).2
      rw [this]
    rw [e3] at p2
    unfold forF at p2
    split at p2
    · rename_i hst
      have T := wk [] io2 H2 S2 (by simp) x2 c2 hst
      obtain ⟨go, yl⟩ := T.go i d hd
      refine .inr ⟨go, fun σ' H' => i + 1 ≤ w.items.length ∧ ∃ io2 r2 S2, Ext io1 H1 io2 H' ∧ Cells (Wd.mk X.K fa) H' io2 z S2 ∧ EnvR (Wd.mk X.K fa) H' io2 z r2 σ' ∧ Post (Wd.mk X.K fa) (RO (Wd.mk X.K fa)) io2 z H' (forF t g w.src (w.items.drop (i + 1)) r2 S2) (endQ D), fun σ' H' h => ⟨w.items.length - (i + 1), by omega, rfl, h⟩, ?_⟩
      intro x H3 hx
      obtain ⟨x3, c3, rx⟩ := yl x H3 hx
      refine ⟨io2, z, r2, S2, d, c3, e2.ext x3, rx, (Post.bind (RF := RS _ vs σ2) (Post.at_ p2 x3)).mono ?_⟩
      rintro σ4 H4 ⟨io4, S4, r4, _, x4, c4, ⟨e4, _⟩, p4⟩
      refine ⟨io4, z, r4, S4, c4, e4, (Post.bind (RF := RO _) p4).mono ?_⟩
      rintro v H5 ⟨io5, S5, o, _, x5, c5, ro, p5⟩
      have xx : Ext io1 H1 io5 H5 := x2.trans (x3.trans (x4.trans x5))
      cases o with
      | nx r2 =>
        cases v with
        | nx σ2 => exact ⟨hl, io5, r2, S5, xx, c5, ro, p5⟩
        | _ => exact ro.elim
      | ct r2 =>
        cases v with
        | ct σ2 => exact ⟨hl, io5, r2, S5, xx, c5, ro, p5⟩
        | _ => exact ro.elim
      | bk r2 =>
        cases v with
        | bk σ2 => exact Post.val p5 (.nx σ2) _ _ (Ext.refl _ _) c5 ro
        | _ => exact ro.elim
      | rt d =>
        cases v with
        | rt w => exact Post.val p5 (.rt w) _ _ (Ext.refl _ _) c5 ro
        | _ => exact ro.elim
    · exact p2.elim
  · obtain rfl : i = w.items.length := by omega
    rw [List.drop_length] at p2
    unfold forF at p2
    split at p2
    · rename_i hst
      have T := wk [] io2 H2 S2 (by simp) x2 c2 hst
      exact .inl ⟨T.stop, Post.val p2 (.nx σ2) _ _ (Ext.refl _ _) c2 e2⟩
    · exact p2.elim
end
end Pz
namespace Pz
open PySem PySem.Spec PyProof.Rows L2

/-! ### comprehensions -/
theorem EnvR.more {W : Wd} {H : Hp} {io z : List Addr} {r : Rho} {σ : L2.St} {p : Addr} (e : EnvR W H io z r σ) (hp : H p = none) : EnvR W H io (p :: z) r σ :=
  ⟨e.len, fun i d h => let ⟨v, h1, h2⟩ := e.at_ i d h; ⟨v, h1, Rep.more hp d v h2⟩⟩
theorem priv_ne {io z : List Addr} {a p : Addr} (h : a ∉ io ++ z) (hp : p ∈ z) : a ≠ p := fun e => by
  subst e
  exact h (List.mem_append_right _ hp)
theorem priv_rd {io z : List Addr} {H : Hp} {a p : Addr} {o u : HO} (h : a ∉ io ++ z) (hp : p ∈ z) (r : Rd H a u) : Rd (upd H p o) a u := by
  rcases r with r | ⟨w, r⟩
  · exact .inl (by rw [upd_ne (priv_ne h hp)]; exact r)
  · exact .inr ⟨w, by rw [upd_ne (priv_ne h hp)]; exact r⟩
mutual
theorem Rep.priv {W : Wd} {io z : List Addr} {H : Hp} {p : Addr} {o : HO} (hp : p ∈ z) : ∀ (d : Dt) (v : V), Rep W H io z d v → Rep W (upd H p o) io z d v
  | .non, _, h => h
  | .bl _, _, h => h
  | .int _, _, h => h
  | .str _, _, h => h
  | .tup ds, _, ⟨a, vs, h1, h2, h3⟩ => ⟨a, vs, h1, h2.elim (fun q => .inl ⟨q.1, priv_rd q.1 hp q.2⟩) .inr, Reps.priv hp ds vs h3⟩
  | .lst ds, _, ⟨a, vs, h1, h2, h3, h4⟩ => ⟨a, vs, h1, h2, by rw [upd_ne (priv_ne h2 hp)]; exact h3, Reps.priv hp ds vs h4⟩
  | .dct, _, ⟨a, h1, h2, h3⟩ => ⟨a, h1, h2, by rw [upd_ne (priv_ne h2 hp)]; exact h3⟩
  | .loc _, _, h => h
  | .fn _, _, h => h
  | .clo _ _, _, h => h.elim
  | .scr _, _, ⟨a, h1, h2⟩ => ⟨a, h1, h2.elim (fun q => .inl ⟨q.1, priv_rd q.1 hp q.2⟩) .inr⟩
theorem Reps.priv {W : Wd} {io z : List Addr} {H : Hp} {p : Addr} {o : HO} (hp : p ∈ z) : ∀ (ds : List Dt) (vs : List V), Reps W H io z ds vs → Reps W (upd H p o) io z ds vs
  | [], _, h => h
  | d :: ds, _, ⟨v, r, h1, h2, h3⟩ => ⟨v, r, h1, Rep.priv hp d v h2, Reps.priv hp ds r h3⟩
end
theorem Cells.priv {W : Wd} {io z : List Addr} {H : Hp} {S : Store} {p : Addr} {o : HO} (c : Cells W H io z S) (hp : p ∈ z) : Cells W (upd H p o) io z S := by
  refine ⟨c.len, c.nd, c.apart, fun q hq => ?_, fun n a xs h1 h2 => ?_, c.nl⟩
  · by_cases e : q = p
    · subst e; rw [upd_same]; simp
    · rw [upd_ne e]; exact c.zt q hq
  · obtain ⟨vs, h3, h4⟩ := c.at_ n a xs h1 h2
    refine ⟨vs, ?_, Reps.priv hp _ _ h4⟩
    rw [upd_ne (fun e => c.apart p hp (by rw [← e]; exact List.mem_of_getElem? h1))]
    exact h3
theorem Ext.priv {io io1 : List Addr} {H H1 : Hp} {p : Addr} {o : HO} (x : Ext io H io1 H1) (hp : H p = none) : Ext io H io1 (upd H1 p o) := by
  refine ⟨x.pre, fun a u ha h => ?_, fun a h => ?_⟩
  · rw [upd_ne (ne_of_none h hp)]; exact x.keep a u ha h
  · by_cases e : a = p
    · subst e; rw [upd_same]; simp
    · rw [upd_ne e]; exact x.dom a h
section
variable {X : Cx} {fa : Nat → Addr} {pos : Pos}
def compK (own : List Nat) (w : Rho → Mo Walk) (t : Dt → Rho → Mo Rho) (tc g : Rho → Mo Dt) : Rho → Mo Dt := fun r S => (w r S).bind fun w S1 => if okLen w.items.length then
      (compF (fun x S => (t x (wipeR r own) S).bind fun r1 S1 => (toB (tc r1 S1)).bind fun k S2 => if k = true then (g r1 S2).bind fun d S3 => .ok (some d) S3 else .ok none S2) w.src w.items S1).bind fun ds S2 => .ok (.lst ds) S2 else .bad
theorem comp_read {vs own : List Nat} (hv : ∀ i ∈ vs, i ∈ own) {w : Rho → Mo Walk} {t : Dt → Rho → Mo Rho} {tc g : Rho → Mo Dt} {σ : L2.St} {H : Hp} {Q : VK} (h : rdF (Wd.mk X.K fa) (compK own w t tc g) σ H Q) :
    tLc (iR (Wd.mk X.K fa) w) (gR (Wd.mk X.K fa) vs t) (rdT (Wd.mk X.K fa) tc) (rdE (Wd.mk X.K fa) g) own σ H Q := by
  obtain ⟨io, z, r, S, c, e, p⟩ := h
  refine ⟨io, z, r, S, c, e, (PostF.bind (RF := RW _) p).mono ?_⟩
  rintro J H1 ⟨io1, S1, w, _, x1, c1, wk, p1⟩ D hD
  split at p1
  · rename_i hok
    have hlen : w.items.length ≤ 1000000 := of_decide_eq_true hok
    generalize hF : (fun x S => (t x (wipeR r own) S).bind fun r1 S1 => (toB (tc r1 S1)).bind fun k S2 => if k = true then (g r1 S2).bind fun d S3 => Res.ok (some d) S3 else Res.ok none S2) = F at p1
    have fin0 : ∃ ds S', compF F w.src (w.items.drop 0) S1 = .ok ds S' ∧ ∀ vs H' io', Ext io1 H1 io' H' → Cells (Wd.mk X.K fa) H' io' (D :: z) S' → Reps (Wd.mk X.K fa) H' io' (D :: z) ([] ++ ds) vs → H' D = some (.lst vs) → Q (.ref D) H' := by
      rw [List.drop_zero]
      cases q : compF F w.src w.items S1 with
      | bad => rw [q] at p1; exact p1.elim
      | err _ _ => rw [q] at p1; exact p1.elim
      | ok ds S' =>
        rw [q] at p1
        exact ⟨ds, S', rfl, fun vs H' io' x' c' r' h' => p1 D vs H' io' x' c' r' h' hD⟩
    refine ⟨fun i m H2 => m = w.items.length - i ∧ i ≤ w.items.length ∧ ∃ io2 S2 acc das, Ext io1 H1 io2 H2 ∧ Cells (Wd.mk X.K fa) H2 io2 (D :: z) S2 ∧ H2 D = some (.lst acc) ∧ Reps (Wd.mk X.K fa) H2 io2 (D :: z) das acc ∧ acc.length ≤ i ∧
      ∃ ds S', compF F w.src (w.items.drop i) S2 = .ok ds S' ∧ ∀ vs H' io', Ext io1 H1 io' H' → Cells (Wd.mk X.K fa) H' io' (D :: z) S' → Reps (Wd.mk X.K fa) H' io' (D :: z) (das ++ ds) vs → H' D = some (.lst vs) → Q (.ref D) H',
      ⟨_, rfl, Nat.zero_le _, io1, S1, [], [], Ext.new hD, c1.more hD, upd_same, rfl, Nat.zero_le _, fin0⟩, ?_⟩
    rintro i m H2 ⟨rfl, hi, io2, S2, acc, das, x2, c2, hD2, ra, hal, ds, S', hds, fin⟩
    have hDio : D ∉ io2 := c2.apart D List.mem_cons_self
    by_cases hl : i < w.items.length
    · obtain ⟨d, hd⟩ : ∃ d, w.items[i]? = some d := ⟨_, List.getElem?_eq_getElem hl⟩
      have e3 : w.items.drop i = d :: w.items.drop (i + 1) := by
        rw [List.drop_eq_getElem_cons hl]
        have := (List.getElem?_eq_some_iff.mp hd).2
        rw [this]
      rw [e3] at hds
      unfold compF at hds
      split at hds
      · rename_i hst
        have T := wk [D] io2 H2 S2 (by simpa using hD) x2 c2 hst
        obtain ⟨go, yl⟩ := T.go i d hd
        obtain ⟨o, S3, hF3, hds⟩ := bind_ok hds
        obtain ⟨ds2, S', hrest, hds⟩ := bind_ok hds
        cases hds
        rw [← hF] at hF3
        obtain ⟨r1, Sa, ht, hF3⟩ := bind_ok hF3
        obtain ⟨k, Sb, hk, hF3⟩ := bind_ok hF3
        refine .inr ⟨go, fun H' => i + 1 ≤ w.items.length ∧ ∃ io2 S2 acc das, Ext io1 H1 io2 H' ∧ Cells (Wd.mk X.K fa) H' io2 (D :: z) S2 ∧ H' D = some (.lst acc) ∧ Reps (Wd.mk X.K fa) H' io2 (D :: z) das acc ∧ acc.length ≤ i + 1 ∧
          ∃ ds S', compF F w.src (w.items.drop (i + 1)) S2 = .ok ds S' ∧ ∀ vs H' io', Ext io1 H1 io' H' → Cells (Wd.mk X.K fa) H' io' (D :: z) S' → Reps (Wd.mk X.K fa) H' io' (D :: z) (das ++ ds) vs → H' D = some (.lst vs) → Q (.ref D) H',
          fun H' h => ⟨w.items.length - (i + 1), by omega, rfl, h⟩, ?_⟩
        intro x H3 hx
        obtain ⟨x3, c3, rx⟩ := yl x H3 hx
        have e0 : EnvR (Wd.mk X.K fa) H3 io2 (D :: z) (wipeR r own) (wipe σ own) := (((((e.ext x1).more hD).ext x2).ext x3).wipe own)
        refine ⟨io2, D :: z, wipeR r own, S2, d, c3, e0, rx, ?_⟩
        rw [ht]
        rintro σ4 H4 io4 x4 c4 ⟨e4, o4⟩
        refine ⟨o4.wipe hv, io4, D :: z, r1, Sa, c4, e4, ?_⟩
        dsimp only
        rw [hk]
        rintro b H5 io5 x5 c5 rfl
        have x25 : Ext io2 H2 io5 H5 := x3.trans (x4.trans x5)
        cases b with
        | false =>
          cases hF3
          exact ⟨hl, io5, S3, acc, das, x2.trans x25, c5, x25.keep _ _ hDio hD2, Reps.ext x25 _ _ ra, Nat.le_succ_of_le hal, ds2, S', hrest, fin⟩
        | true =>
          obtain ⟨dd, Sc, hg, hF3⟩ := bind_ok (show (g r1 Sb).bind (fun d S3 => Res.ok (some d) S3) = .ok o S3 from hF3)
          cases hF3
          refine ⟨io5, D :: z, r1, Sb, c5, e4.ext x5, ?_⟩
          rw [hg]
          intro y H6 io6 x6 c6 ry
          have x26 : Ext io2 H2 io6 H6 := x25.trans x6
          have hD6 : H6 D = some (.lst acc) := x26.keep _ _ hDio hD2
          refine ⟨acc, hD6, ?_, hl, io6, S3, acc ++ [y], das ++ [dd], (x2.trans x26).priv hD, c6.priv List.mem_cons_self, upd_same, ?_, by rw [List.length_append]; simp; omega, ds2, S', hrest, fun vs H' io' x' c' r' h' => fin vs H' io' x' c' (by rw [List.append_assoc] at r'; exact r') h'⟩
          · have e : sizeLine = 16777216 := by decide
            omega
          · exact Reps.priv List.mem_cons_self _ _ ((Reps.ext x26 _ _ ra).append ⟨y, [], rfl, ry, rfl⟩)
      · cases hds
    · obtain rfl : i = w.items.length := by omega
      rw [List.drop_length] at hds
      unfold compF at hds
      split at hds
      · rename_i hst
        cases hds
        have T := wk [D] io2 H2 S2 (by simpa using hD) x2 c2 hst
        refine .inl ⟨T.stop, fin acc H2 io2 x2 c2 (by rw [List.append_nil]; exact ra) hD2⟩
      · cases hds
  · exact p1.elim
end
end Pz
namespace Pz
open PySem PySem.Spec PyProof.Rows L2

/-! ### behind a call -/
mutual
theorem resol_nl {n : Nat} {S : Store} : ∀ d : Dt, d.nl = true → resol n S d = d
  | .non, _ => rfl
  | .bl _, _ => rfl
  | .int _, _ => rfl
  | .str _, _ => rfl
  | .tup ds, h => by rw [resol, resols_nl ds h]
  | .lst ds, h => by rw [resol, resols_nl ds h]
  | .dct, _ => rfl
  | .loc _, h => by cases h
  | .fn _, _ => rfl
  | .clo _ _, h => by cases h
  | .scr _, _ => rfl
theorem resols_nl {n : Nat} {S : Store} : ∀ ds : List Dt, nlAll ds = true → resols n S ds = ds
  | [], _ => rfl
  | d :: ds, h => by
    have h : (d.nl && nlAll ds) = true := h
    rw [Bool.and_eq_true] at h
    rw [resols, resol_nl d h.1, resols_nl ds h.2]
end
theorem nmem_dr {io nw z : List Addr} {a : Addr} (h : a ∉ (io ++ nw) ++ z) : a ∉ io ++ z := fun q => h (by
  rcases List.mem_append.mp q with q | q
  · exact List.mem_append_left _ (List.mem_append_left _ q)
  · exact List.mem_append_right _ q)
mutual
theorem Rep.nlDrop {W : Wd} {H : Hp} {io nw z : List Addr} : ∀ (d : Dt) (v : V), d.nl = true → Rep W H (io ++ nw) z d v → Rep W H io z d v
  | .non, _, _, h => h
  | .bl _, _, _, h => h
  | .int _, _, _, h => h
  | .str _, _, _, h => h
  | .tup ds, _, hn, ⟨a, vs, h1, h2, h3⟩ => ⟨a, vs, h1, h2.elim (fun q => .inl ⟨nmem_dr q.1, q.2⟩) .inr, Reps.nlDrop ds vs hn h3⟩
  | .lst ds, _, hn, ⟨a, vs, h1, h2, h3, h4⟩ => ⟨a, vs, h1, nmem_dr h2, h3, Reps.nlDrop ds vs hn h4⟩
  | .dct, _, _, ⟨a, h1, h2, h3⟩ => ⟨a, h1, nmem_dr h2, h3⟩
  | .loc _, _, hn, _ => by cases hn
  | .fn _, _, _, h => h
  | .clo _ _, _, _, h => h.elim
  | .scr _, _, _, ⟨a, h1, h2⟩ => ⟨a, h1, h2.elim (fun q => .inl ⟨nmem_dr q.1, q.2⟩) .inr⟩
theorem Reps.nlDrop {W : Wd} {H : Hp} {io nw z : List Addr} : ∀ (ds : List Dt) (vs : List V), nlAll ds = true → Reps W H (io ++ nw) z ds vs → Reps W H io z ds vs
  | [], _, _, h => h
  | d :: ds, _, hn, ⟨v, r, h1, h2, h3⟩ => by
    have hn : (d.nl && nlAll ds) = true := hn
    rw [Bool.and_eq_true] at hn
    exact ⟨v, r, h1, Rep.nlDrop d v hn.1 h2, Reps.nlDrop ds r hn.2 h3⟩
end
theorem nodup_at {α : Type} : ∀ {l : List α} {i j : Nat} {a : α}, l.Nodup → l[i]? = some a → l[j]? = some a → i = j
  | [], i, _, _, _, h, _ => by simp at h
  | x :: l, 0, 0, _, _, _, _ => rfl
  | x :: l, 0, j + 1, a, nd, h, k => by
    simp at h k
    subst h
    exact absurd (List.mem_of_getElem? k) (List.nodup_cons.mp nd).1
  | x :: l, i + 1, 0, a, nd, h, k => by
    simp at h k
    subst k
    exact absurd (List.mem_of_getElem? h) (List.nodup_cons.mp nd).1
  | x :: l, i + 1, j + 1, a, nd, h, k => by
    simp at h k
    rw [nodup_at (List.nodup_cons.mp nd).2 h k]
mutual
theorem Rep.resol {W : Wd} {H : Hp} {io nw z : List Addr} {S : Store} (c : Cells W H (io ++ nw) z S) : ∀ (d : Dt) (v : V), Rep W H (io ++ nw) z d v → Rep W H io z (Pz.resol io.length S d) v
  | .non, _, h => h
  | .bl _, _, h => h
  | .int _, _, h => h
  | .str _, _, h => h
  | .tup ds, _, ⟨a, vs, h1, h2, h3⟩ => by
    rw [Pz.resol]
    exact ⟨a, vs, h1, h2.elim (fun q => .inl ⟨nmem_dr q.1, q.2⟩) .inr, Reps.resol c ds vs h3⟩
  | .lst ds, _, ⟨a, vs, h1, h2, h3, h4⟩ => by
    rw [Pz.resol]
    exact ⟨a, vs, h1, nmem_dr h2, h3, Reps.resol c ds vs h4⟩
  | .dct, _, ⟨a, h1, h2, h3⟩ => ⟨a, h1, nmem_dr h2, h3⟩
  | .loc n, _, ⟨a, h1, h2⟩ => by
    rw [Pz.resol]
    by_cases hn : n < io.length
    · rw [if_pos hn]
      exact ⟨a, h1, by rw [List.getElem?_append_left hn] at h2; exact h2⟩
    · rw [if_neg hn]
      have hl : n < S.length := by rw [← c.len]; exact (List.getElem?_eq_some_iff.mp h2).1
      have hs : S[n]? = some S[n] := List.getElem?_eq_getElem hl
      rw [hs]
      obtain ⟨vs, h3, h4⟩ := c.at_ n a S[n] h2 hs
      have hnl : nlAll S[n] = true := c.nl _ (List.mem_of_getElem? hs)
      have ha : a ∉ io ++ z := fun q => by
        rcases List.mem_append.mp q with q | q
        · obtain ⟨m, hm⟩ := List.mem_iff_getElem?.mp q
          have hml : m < io.length := (List.getElem?_eq_some_iff.mp hm).1
          have hm2 : (io ++ nw)[m]? = some a := by rw [List.getElem?_append_left hml]; exact hm
          have hne : m ≠ n := by omega
          exact hne (nodup_at c.nd hm2 h2)
        · exact c.apart a q (List.mem_of_getElem? h2)
      exact ⟨a, vs, h1, ha, h3, Reps.nlDrop _ _ hnl h4⟩
  | .fn _, _, h => h
  | .clo _ _, _, h => h.elim
  | .scr _, _, ⟨a, h1, h2⟩ => ⟨a, h1, h2.elim (fun q => .inl ⟨nmem_dr q.1, q.2⟩) .inr⟩
theorem Reps.resol {W : Wd} {H : Hp} {io nw z : List Addr} {S : Store} (c : Cells W H (io ++ nw) z S) : ∀ (ds : List Dt) (vs : List V), Reps W H (io ++ nw) z ds vs → Reps W H io z (resols io.length S ds) vs
  | [], _, h => h
  | d :: ds, _, ⟨v, r, h1, h2, h3⟩ => by
    rw [resols]
    exact ⟨v, r, h1, Rep.resol c d v h2, Reps.resol c ds r h3⟩
end
theorem Cells.dropN {W : Wd} {H : Hp} {io nw z : List Addr} {S : Store} (c : Cells W H (io ++ nw) z S) : Cells W H io z (S.take io.length) := by
  have hl : io.length ≤ S.length := by rw [← c.len, List.length_append]; omega
  refine ⟨by rw [List.length_take]; omega, (List.nodup_append.mp c.nd).1, fun p hp q => c.apart p hp (List.mem_append_left _ q), c.zt, fun n a xs h1 h2 => ?_, fun xs hx => c.nl xs (List.mem_of_mem_take hx)⟩
  have hn : n < io.length := (List.getElem?_eq_some_iff.mp h1).1
  rw [List.getElem?_take_of_lt hn] at h2
  obtain ⟨vs, h3, h4⟩ := c.at_ n a xs (by rw [List.getElem?_append_left hn]; exact h1) h2
  exact ⟨vs, h3, Reps.nlDrop _ _ (c.nl xs (List.mem_of_getElem? h2)) h4⟩
theorem Ext.dropN {io nw : List Addr} {H H' : Hp} (x : Ext io H (io ++ nw) H') : Ext io H io H' := ⟨⟨[], by simp, by simp⟩, x.keep, x.dom⟩
/-- what a call hands back -/
theorem Post.call {W : Wd} {io z : List Addr} {H : Hp} {Ph : Nat → List Dt → Mo Dt} {k : Nat} {ds : List Dt} {S : Store} {Q : VK} (c : Cells W H io z S) (p : Post W (RepW W) io z H (callR Ph k ds S) Q) : Post W (RepW W) io z H (Ph k ds S) Q := by
  unfold callR at p
  cases q : Ph k ds S with
  | bad => rw [q] at p; exact p
  | err _ _ => rw [q] at p; exact p
  | ok d S2 =>
    rw [q] at p
    intro v H' io' x c' r
    obtain ⟨nw, rfl, hn⟩ := x.pre
    refine Post.val p v H' io x.dropN ?_ ?_
    · rw [← c.len]; exact c'.dropN
    · rw [← c.len]; exact Rep.resol c' d v r
theorem Post.keep {W : Wd} {io z : List Addr} {H : Hp} {R : Res Dt} {S : Store} {Q : VK} (c : Cells W H io z S) (p : Post W (RepW W) io z H (R.bind fun d S2 => keepK S.length d S2) Q) : Post W (RepW W) io z H R Q := by
  cases R with
  | bad => exact p
  | err _ _ => exact p
  | ok d S2 =>
    intro v H' io' x c' r
    have p : Post W (RepW W) io z H (keepK S.length d S2) Q := p
    cases d with
    | loc m =>
      have p2 : Post W (RepW W) io z H (if m = S.length then .ok (.loc S.length) (S2.take (S.length + 1)) else .bad) Q := p
      clear p
      split at p2
      · rename_i hm
        subst hm
        obtain ⟨nw, rfl, hn⟩ := x.pre
        obtain ⟨a, rfl, h2⟩ := r
        rw [← c.len, List.getElem?_append_right (Nat.le_refl _), Nat.sub_self] at h2
        cases nw with
        | nil => simp at h2
        | cons b nw =>
          simp at h2
          subst h2
          have e : io ++ b :: nw = (io ++ [b]) ++ nw := by simp
          rw [e] at c'
          have el : (io ++ [b]).length = S.length + 1 := by rw [List.length_append, c.len]; rfl
          refine Post.val p2 (V.ref b) H' (io ++ [b]) ⟨⟨[b], rfl, fun q hq => ?_⟩, x.keep, x.dom⟩ ?_ ⟨b, rfl, ?_⟩
          · have : q = b := by simpa using hq
            subst this
            exact hn q List.mem_cons_self
          · rw [← el]; exact c'.dropN
          · rw [← c.len, List.getElem?_append_right (Nat.le_refl _), Nat.sub_self]; rfl
      · exact p2.elim
    | _ => exact p.elim

/-! ### calls -/
/-- the defs of the text keep their promises, called from here -/
def Calls1 (X : Cx) (fa : Nat → Addr) (Ph : Nat → List Dt → Mo Dt) : Prop :=
  ∀ (k : Nat) (pins : List (Addr × Obj)) (s : Shared) (σ : L2.St) (H : Hp) (vs : List V) (us : List Value) (Q : VK), L2.Inv X pins σ H s → Vals vs us → rP (Wd.mk X.K fa) (Ph k) vs H Q →
    wpAny (model X.prog X.w) X.A (call (.ref (fa k)) us) (EP X pins σ Q) X.xe s
def permK (Ph : Nat → List Dt → Mo Dt) (k : Nat) (pm : List Nat) (ds : List Dt) (S : Store) : Res Dt := match permD pm ds with
  | some es => Ph k es S
  | none => .bad
def CallsK (X : Cx) (fa : Nat → Addr) (Ph : Nat → List Dt → Mo Dt) (t : Nat × List Str × List Nat) : Prop :=
  ∀ (pins : List (Addr × Obj)) (s : Shared) (σ : L2.St) (H : Hp) (vs : List V) (us : List Value) (Q : VK), L2.Inv X pins σ H s → Vals vs us → us.length = t.2.1.length → rP (Wd.mk X.K fa) (permK Ph t.1 t.2.2) vs H Q →
    wpAny (model X.prog X.w) X.A (call (.ref (fa t.1)) [] (t.2.1.zip us)) (EP X pins σ Q) X.xe s
section
variable {X : Cx} {fa : Nat → Addr} {Ph : Nat → List Dt → Mo Dt} {x : Str} {p pos : Pos} {k : Nat}
/-- f(e, ..) by the promise -/
theorem pe_callP {e : Expr} {es : List Expr} {t : TA} {g : List Dt → Store → Res Dt} (hcall : ∀ (pins : List (Addr × Obj)) (s : Shared) (σ : L2.St) (H : Hp) (vs : List V) (us : List Value) (Q : VK), L2.Inv X pins σ H s → Vals vs us → rP (Wd.mk X.K fa) g vs H Q →
      wpAny (model X.prog X.w) X.A (call (.ref (fa k)) us) (EP X pins σ Q) X.xe s) (hg : Gl X x) (hm : X.mg x = some (.ref (fa k))) (hk : PySem.W.keepIn X.K (.ref (fa k)) = true) (hdb : (x == ("__debug__" : Str)) = false)
    (ha : PA X (e :: es) t) (hn : (e :: es).all noStar = true) : PE X (.Call (.Name x p) (e :: es) [] pos) (fun σ H Q => t σ H fun vs H1 => rP (Wd.mk X.K fa) g vs H1 Q) := by
  rw [List.all_cons, Bool.and_eq_true] at hn
  refine ⟨fun pins s σ H Q I h => ?_⟩
  refine wpAny_Call_Name_kw (ld_glob I hg hm ?_ hdb)
  refine PySem.W.callWith_K (h₀ := X.base) I.ok.mod.kin hk (thn (ha.run pos pins s σ H _ I h) fun us s1 ⟨vs, H1, I1, r, q⟩ => ⟨I1.kIn, ?_⟩) (star_cons hn.1) (star_any hn.2)
  exact hcall pins s1 σ H1 vs us Q I1 r q
theorem pe_callP0 {g : List Dt → Store → Res Dt} (hcall : ∀ (pins : List (Addr × Obj)) (s : Shared) (σ : L2.St) (H : Hp) (vs : List V) (us : List Value) (Q : VK), L2.Inv X pins σ H s → Vals vs us → rP (Wd.mk X.K fa) g vs H Q →
      wpAny (model X.prog X.w) X.A (call (.ref (fa k)) us) (EP X pins σ Q) X.xe s) (hg : Gl X x) (hm : X.mg x = some (.ref (fa k))) (hk : PySem.W.keepIn X.K (.ref (fa k)) = true) (hdb : (x == ("__debug__" : Str)) = false) :
    PE X (.Call (.Name x p) [] [] pos) (fun σ H Q => rP (Wd.mk X.K fa) g [] H Q) := by
  refine ⟨fun pins s σ H Q I h => ?_⟩
  refine wpAny_Call_Name_kw (ld_glob I hg hm ?_ hdb)
  exact PySem.W.callWith_K0 I.kIn hk (hcall pins s σ H [] [] Q I .nil h)
theorem s_call {es : List Expr} {f : Rho → Mo (List Dt)} (hcall : Calls1 X fa Ph) (hg : Gl X x) (hm : X.mg x = some (.ref (fa k))) (hk : PySem.W.keepIn X.K (.ref (fa k)) = true) (hdb : (x == ("__debug__" : Str)) = false) (hn : es.all noStar = true)
    (ha : PA X es (rdA (Wd.mk X.K fa) f)) (h0 : es = [] → ∀ r S, f r S = .ok [] S) : PE X (.Call (.Name x p) es [] pos) (rdE (Wd.mk X.K fa) fun r S => (f r S).bind fun ds S1 => callR Ph k ds S1) := by
  cases es with
  | nil =>
    refine peW (pe_callP0 (g := Ph k) (hcall k) hg hm hk hdb) ?_
    rintro σ H Q ⟨io, z, r, S, c, e, p⟩
    dsimp only at p
    rw [h0 rfl r S] at p
    exact ⟨io, z, S, [], c, rfl, Post.call c p⟩
  | cons e es =>
    refine peW (pe_callP (g := Ph k) (hcall k) hg hm hk hdb ha hn) fun σ H Q q => rdG_mono (rd1 (RF := RepsW _) q) ?_
    rintro vs H1 ⟨io, z, S, ds, c, r, p⟩
    exact ⟨io, z, S, ds, c, r, Post.call c p⟩
theorem s_callF {es : List Expr} {f : Rho → Mo (List Dt)} (hcall : Calls1 X fa Ph) (hg : Gl X x) (hm : X.mg x = some (.ref (fa k))) (hk : PySem.W.keepIn X.K (.ref (fa k)) = true) (hdb : (x == ("__debug__" : Str)) = false) (hn : es.all noStar = true)
    (ha : PA X es (rdA (Wd.mk X.K fa) f)) (h0 : es = [] → ∀ r S, f r S = .ok [] S) : PE X (.Call (.Name x p) es [] pos) (rdE (Wd.mk X.K fa) fun r S => (f r S).bind fun ds S1 => (Ph k ds S1).bind fun d S2 => keepK S1.length d S2) := by
  cases es with
  | nil =>
    refine peW (pe_callP0 (g := Ph k) (hcall k) hg hm hk hdb) ?_
    rintro σ H Q ⟨io, z, r, S, c, e, p⟩
    dsimp only at p
    rw [h0 rfl r S] at p
    exact ⟨io, z, S, [], c, rfl, Post.keep c p⟩
  | cons e es =>
    refine peW (pe_callP (g := Ph k) (hcall k) hg hm hk hdb ha hn) fun σ H Q q => rdG_mono (rd1 (RF := RepsW _) q) ?_
    rintro vs H1 ⟨io, z, S, ds, c, r, p⟩
    exact ⟨io, z, S, ds, c, r, Post.keep c p⟩
/-- the names of keywords -/
def kwNames (kws : List Keyword) : List (Option Str) := kws.map fun k => match k with | ⟨n, _, _⟩ => n
def kwVals (kws : List Keyword) : List Expr := kws.map fun k => match k with | ⟨_, v, _⟩ => v
theorem kw_names {pos : Pos} {env : Env} : ∀ {kws : List Keyword}, (backToKw pos (keywordEach kws env)).map (·.1) = kwNames kws
  | [] => rfl
  | ⟨n, v, p⟩ :: kws => by
    have ih := kw_names (pos := pos) (env := env) (kws := kws)
    show n :: (backToKw pos (keywordEach kws env)).map (·.1) = n :: kwNames kws
    rw [ih]
theorem kw_facts {l : List (Option Str × Sem Value)} {nm : List (Option Str)} {ks : List Str} (h : l.map (·.1) = nm) (e : nm = ks.map some) : l.all (·.1.isSome) = true ∧ l.filterMap (·.1) = ks ∧ l.any (·.1.isNone) = false := by
  subst h
  induction l generalizing ks with
  | nil => cases ks with
    | nil => exact ⟨rfl, rfl, rfl⟩
    | cons _ _ => cases e
  | cons a l ih =>
    cases ks with
    | nil => cases e
    | cons k ks =>
      rw [List.map_cons, List.map_cons] at e
      injection e with e1 e2
      obtain ⟨h1, h2, h3⟩ := ih e2
      refine ⟨?_, ?_, ?_⟩
      · rw [List.all_cons, e1, h1]; rfl
      · rw [List.filterMap_cons, e1, h2]
      · rw [List.any_cons, e1, h3]; rfl
theorem k_nil : PK X [] (rdA (Wd.mk X.K fa) fun _ S => .ok [] S) := by
  refine ⟨fun pos pins s σ H Q I q => pk_nil.run pos pins s σ H Q I ?_⟩
  obtain ⟨io, z, r, S, c, e, p⟩ := q
  exact Post.here p c rfl
theorem k_cons {nm : Option Str} {e : Expr} {kp : Pos} {kws : List Keyword} {f : Rho → Mo Dt} {g : Rho → Mo (List Dt)} (ha : PE X e (rdE (Wd.mk X.K fa) f)) (hb : PK X kws (rdA (Wd.mk X.K fa) g)) : PK X (⟨nm, e, kp⟩ :: kws) (rdA (Wd.mk X.K fa) (consK f g)) := by
  refine ⟨fun pos pins s σ H Q I q => (pk_cons ha hb).run pos pins s σ H Q I ?_⟩
  refine rdG_mono (rdN (RF := RepW _) (k := fun r d S1 => (g r S1).bind fun ds S2 => .ok (d :: ds) S2) q) fun u H1 ⟨io, z, r, S, x, c, e, r1, p1⟩ => ?_
  refine ⟨io, z, r, S, c, e, (Post.bind (RF := fun H io z d v => Reps _ H io z d v) p1).mono ?_⟩
  rintro v H2 ⟨io2, S2, ds, _, x2, c2, r2, p2⟩
  exact Post.here p2 c2 (.cons (r1.ext x2) r2)
theorem s_callK {kws : List Keyword} {f : Rho → Mo (List Dt)} {t : Nat × List Str × List Nat} (hcall : CallsK X fa Ph t) (hg : Gl X x) (hm : X.mg x = some (.ref (fa t.1))) (hk : PySem.W.keepIn X.K (.ref (fa t.1)) = true) (hdb : (x == ("__debug__" : Str)) = false)
    (hl : ∀ r S ds S', f r S = .ok ds S' → ds.length = t.2.1.length) (hnm : kwNames kws = t.2.1.map some) (ha : PK X kws (rdA (Wd.mk X.K fa) f)) :
    PE X (.Call (.Name x p) [] kws pos) (rdE (Wd.mk X.K fa) fun r S => (f r S).bind fun ds S1 => match permD t.2.2 ds with | some es => callR Ph t.1 es S1 | none => .bad) := by
  obtain ⟨h1, h2, h3⟩ := kw_facts (kw_names (pos := pos) (env := X.env) (kws := kws)) hnm
  refine ⟨fun pins s σ H Q I h => ?_⟩
  have h : rdE (Wd.mk X.K fa) (fun r S => (f r S).bind fun ds S1 => match permD t.2.2 ds with | some es => callR Ph t.1 es S1 | none => .bad) σ H Q := h
  have key : rdA (Wd.mk X.K fa) f σ H fun vs H1 => vs.length = t.2.1.length ∧ rP (Wd.mk X.K fa) (permK Ph t.1 t.2.2) vs H1 Q := by
    obtain ⟨io, z, r, S, c, e, p⟩ := h
    refine ⟨io, z, r, S, c, e, (Post.bind (RF := RepsW _) p).mono ?_⟩
    rintro vs H1 ⟨io1, S1, ds, hf, x1, c1, r1, p1⟩
    refine ⟨by rw [r1.length]; exact hl _ _ _ _ hf, io1, z, S1, ds, c1, r1, ?_⟩
    unfold permK
    cases q : permD t.2.2 ds with
    | none => rw [q] at p1; exact p1
    | some es => rw [q] at p1; exact Post.call c1 p1
  refine wpAny_Call_Name_kw (ld_glob I hg hm ?_ hdb)
  refine PySem.W.callWith_KW0 (h₀ := X.base) I.ok.mod.kin hk h1 (thn (ha.run pos pins s σ H _ I key) fun us s1 ⟨vs, H1, I1, r, hv, q⟩ => ⟨I1.kIn, ?_⟩) (by rw [h3]; rfl)
  rw [h2]
  exact hcall pins s1 σ H1 vs us Q I1 r (by rw [← r.length]; exact hv) q
end
end Pz
namespace Pz
open PySem PySem.Spec PyProof.Rows L2

/-! ### built-ins by name -/
section
variable {X : Cx} {fa : Nat → Addr} {p pos : Pos} {x : Str}
theorem star_all {pos : Pos} {env : Env} {es : List Expr} (h : es.all noStar = true) : (backTo pos (starEach es env)).all (fun x => !x.1) = true := by
  have q := star_any (pos := pos) (env := env) h
  rw [List.all_eq_not_any_not, Bool.not_eq_true']
  simpa using q
/-- a call of a built-in by its values -/
theorem s_cb {v : Value} {e : Expr} {es : List Expr} {f : Rho → Mo (List Dt)} {g : List Dt → Store → Res Dt} (hc : CallR X v (rP (Wd.mk X.K fa) g)) (hv : (∃ id, v = .builtin id) ∨ ∃ T, v = .type T) (hg : Gl X x) (hm : X.mg x = none) (hb : bootBuiltins x = some v) (hx : x ≠ "__name__") (hdb : (x == ("__debug__" : Str)) = false)
    (ha : PA X (e :: es) (rdA (Wd.mk X.K fa) f)) (hn : (e :: es).all noStar = true) : PE X (.Call (.Name x p) (e :: es) [] pos) (rdE (Wd.mk X.K fa) fun r S => (f r S).bind fun ds S1 => g ds S1) := by
  rw [List.all_cons, Bool.and_eq_true] at hn
  rcases hv with ⟨id, rfl⟩ | ⟨T, rfl⟩
  · exact peW (pe_callB hc hg hm hb ha hx hdb (star_cons hn.1) (star_any hn.2)) fun σ H Q q => rP_arg q
  · exact peW (pe_callTy hc hg hm hb ha hx hdb (star_cons hn.1) (star_any hn.2)) fun σ H Q q => rP_arg q
theorem s_gcd {e : Expr} {es : List Expr} {f : Rho → Mo (List Dt)} (hg : Gl X x) (hm : X.mg x = some (.builtin "math.gcd")) (hdb : (x == ("__debug__" : Str)) = false)
    (ha : PA X (e :: es) (rdA (Wd.mk X.K fa) f)) (hn : (e :: es).all noStar = true) : PE X (.Call (.Name x p) (e :: es) [] pos) (rdE (Wd.mk X.K fa) fun r S => (f r S).bind fun ds S1 => bltD S1 .gcd ds) := by
  rw [List.all_cons, Bool.and_eq_true] at hn
  exact peW (pe_callBfun (cb_gcd (fa := fa)) hg hm ha hdb (star_cons hn.1) (star_any hn.2)) fun σ H Q q => rP_arg q
def tyOk (T : String) : Bool := T == "int" || T == "bool" || T == "tuple" || T == "list" || T == "str" || T == "dict"
theorem ty_boot {T : String} (h : tyOk T = true) : bootBuiltins (Str.ofString T) = some (.type T) ∧ Str.ofString T ≠ "__name__" ∧ (Str.ofString T == ("__debug__" : Str)) = false := by
  unfold tyOk at h
  simp only [Bool.or_eq_true, beq_iff_eq] at h
  rcases h with ((((h | h) | h) | h) | h) | h <;> (subst h; exact ⟨by rfl, by decide, by decide⟩)
theorem s_isi {T : String} {a : Expr} {f : Rho → Mo Dt} {q : Pos} (hT : tyOk T = true) (hg : Gl X "isinstance") (hm : X.mg "isinstance" = none) (hg2 : Gl X (Str.ofString T)) (hm2 : X.mg (Str.ofString T) = none) (hn : noStar a = true) (ha : PE X a (rdE (Wd.mk X.K fa) f)) :
    PE X (.Call (.Name "isinstance" p) [a, .Name (Str.ofString T) q] [] pos) (rdE (Wd.mk X.K fa) fun r S => (consK f (fun _ S => .ok [] S) r S).bind fun ds S1 => bltD S1 (.isi T) ds) := by
  obtain ⟨b1, b2, b3⟩ := ty_boot hT
  have hty : PE X (.Name (Str.ofString T) q) (tC (.ty T)) := pe_bltn hg2 hm2 b1 rfl b2 b3
  have hA : PA X [a, .Name (Str.ofString T) q] (tCons (rdE (Wd.mk X.K fa) f) (tCons (tC (.ty T)) tNil)) := pa_cons ha (pa_cons hty pa_nil rfl) (star_cons hn)
  refine peW (pe_callB (cb_isi (fa := fa) (T := T)) hg hm (by rfl) hA (by decide) (by decide) (star_cons hn) rfl) ?_
  intro σ H Q h
  obtain ⟨io, z, r, S, c, e, p⟩ := h
  refine ⟨io, z, r, S, c, e, ?_⟩
  have p : Post (Wd.mk X.K fa) (RepW (Wd.mk X.K fa)) io z H ((f r S).bind fun d S1 => bltD S1 (.isi T) [d]) Q := by
    have e : ((consK f (fun _ S => .ok [] S) r S).bind fun ds S1 => bltD S1 (.isi T) ds) = (f r S).bind fun d S1 => bltD S1 (.isi T) [d] := by
      unfold consK
      cases f r S <;> rfl
    rw [← e]; exact p
  refine (Post.bind (RF := RepW _) p).mono ?_
  rintro v H1 ⟨io1, S1, d, _, x1, c1, r1, p1⟩
  exact ⟨v, rfl, io1, z, S1, [d], c1, Reps.cons r1 (show Reps _ _ _ _ [] [] from rfl), p1⟩
theorem s_listOf {a : Expr} {f : Rho → Mo Dt} (hg : Gl X "list") (hm : X.mg "list" = none) (hn : noStar a = true) (ha : PE X a (rdE (Wd.mk X.K fa) f)) :
    PE X (.Call (.Name "list" p) [a] [] pos) (rdF (Wd.mk X.K fa) fun r S => (f r S).bind fun x S1 => listK x S1) := by
  have hA : PA X [a] (tCons (rdE (Wd.mk X.K fa) f) tNil) := pa_cons ha pa_nil (star_cons hn)
  have hc : CallR X (.type "list") (fun vs H Q => ∃ io z S d v, vs = [v] ∧ Cells (Wd.mk X.K fa) H io z S ∧ Rep (Wd.mk X.K fa) H io z d v ∧ PostF (Wd.mk X.K fa) io z H (listK d S) Q) := cb_list
  refine peW (pe_callTy hc hg hm (by rfl) hA (by decide) (by decide) (star_cons hn) rfl) ?_
  intro σ H Q q
  refine rdG_mono (rf1 (RF := RepW _) q) ?_
  rintro v H1 ⟨io, z, S, d, c, r, p⟩
  exact ⟨io, z, S, d, v, rfl, c, r, p⟩
theorem s_dm {a b : Expr} {f g : Rho → Mo Dt} (hg : Gl X "divmod") (hm : X.mg "divmod" = none) (hn : noStar a = true) (hn2 : noStar b = true) (ha : PE X a (rdE (Wd.mk X.K fa) f)) (hb : PE X b (rdE (Wd.mk X.K fa) g)) :
    PE X (.Call (.Name "divmod" p) [a, b] [] pos) (rdE (Wd.mk X.K fa) fun r S => (f r S).bind fun x S1 => (g r S1).bind fun y S2 => dmK x y S2) := by
  refine peW (pe_callB (cb_dm (fa := fa)) hg hm (by rfl) (a_cons hn ha (a_cons hn2 hb a_nil)) (by decide) (by decide) (star_cons hn) (star_any (by simp [hn2]))) ?_
  intro σ H Q q
  refine rdG_mono (rA2 (RG := RepW _) q) ?_
  rintro vs H1 ⟨io, z, S, x, y, v, w, e, c, r1, r2, p⟩
  exact ⟨io, z, S, x, y, v, w, e, c, r1, r2, p⟩
def mthNm : Mth → Str
  | .append => "append" | .pop => "pop" | .popAt => "pop" | .insert => "insert" | .extend => "extend" | .index => "index" | .count => "count"
def mthOk : Mth → Bool
  | .index => false | .count => false | _ => true
theorem mth_slot (m : Mth) (h : mthOk m = true) : Slot "list" (mthNm m) (mthId m) ∧ typeOf (.builtin (mthId m)) = pure (.type "method_descriptor") ∧ MtR X (mthId m) (rMt (Wd.mk X.K fa) m) := by
  cases m with
  | append => exact ⟨F.slot_list_append, F.type_list_append, mt_app⟩
  | pop => exact ⟨F.slot_list_pop, F.type_list_pop, mt_popx⟩
  | popAt => exact ⟨F.slot_list_pop, F.type_list_pop, mt_popAtx⟩
  | insert => exact ⟨F.slot_list_insert, F.type_list_insert, mt_ins⟩
  | extend => exact ⟨F.slot_list_extend, F.type_list_extend, mt_ext⟩
  | index => cases h
  | count => cases h
theorem mthD_lst {W : Wd} {m : Mth} {io z : List Addr} {H : Hp} {S : Store} {x : Dt} {v : V} {ds : List Dt} {Q : VK} (c : Cells W H io z S) (r : Rep W H io z x v) (p : Post W (RepW W) io z H (mthD S m x ds) Q) : ∃ a xs, v = .ref a ∧ H a = some (.lst xs) := by
  obtain ⟨q, e, _⟩ := post_opt p
  obtain ⟨a, vs, rfl, _, h, _⟩ := mth_at c r e
  exact ⟨a, vs, rfl, h⟩
def notCall : Expr → Bool
  | .Call .. => false
  | _ => true
theorem base_of {o : Expr} {at_ : Str} {env : Env} {w : Sem Value} (h : notCall o = true) : attributeBase o at_ env w = w := by
  cases o <;> first | rfl | (cases h)
theorem tyV_loc {K : PySem.W.Frag} {H : Hp} {a : Addr} {xs : List V} (h : H a = some (.lst xs)) : tyV K "list" (.ref a) H := .inl ⟨rfl, xs, .of h⟩
theorem mth_loc {S : Store} {m : Mth} {d : Dt} {ds : List Dt} {W : Wd} {io z : List Addr} {H : Hp} {Q : VK} (p : Post W (RepW W) io z H (mthD S m d ds) Q) : ∃ n, d = .loc n := by
  obtain ⟨q, e, _⟩ := post_opt p
  cases d with
  | loc n => exact ⟨n, rfl⟩
  | _ => cases e
theorem loc_lst {W : Wd} {H : Hp} {io z : List Addr} {S : Store} (c : Cells W H io z S) {n : Nat} {v : V} (r : Rep W H io z (.loc n) v) : ∃ a xs, v = .ref a ∧ H a = some (.lst xs) := by
  obtain ⟨a, e, h⟩ := r
  obtain ⟨vs, h2⟩ := c.has (List.mem_of_getElem? h)
  exact ⟨a, vs, e, h2⟩
/-- l.m(e, ..) -/
theorem s_mth {m : Mth} {o e : Expr} {es : List Expr} {f : Rho → Mo Dt} {g : Rho → Mo (List Dt)} {apos : Pos} (hm : mthOk m = true) (ho : PE X o (rdE (Wd.mk X.K fa) f)) (ha : PA X (e :: es) (rdA (Wd.mk X.K fa) g)) (hn : (e :: es).all noStar = true) (hl : (e :: es).length < 30) (hb : notCall o = true) (hline : (apos.endLine == pos.line) = true) :
    PE X (.Call (.Attribute o (mthNm m) apos) (e :: es) [] pos) (rdE (Wd.mk X.K fa) fun r S => (f r S).bind fun x S1 => (g r S1).bind fun ds S2 => mthD S2 m x ds) := by
  obtain ⟨h1, h2, h3⟩ := mth_slot (X := X) (fa := fa) m hm
  have hn' := hn
  rw [List.all_cons, Bool.and_eq_true] at hn'
  refine peW (pe_bm F.plainAttrs_list h1 h2 h3 ho ha (base_of hb) (by rw [star_all hn]; simp [backToKw, keywordEach]; simpa using hl) hline (star_cons hn'.1) (star_any hn'.2)) ?_
  rintro σ H Q ⟨io, z, r, S, c, e, p⟩
  refine ⟨io, z, r, S, c, e, (Post.bind (RF := RepW _) p).mono ?_⟩
  rintro v H1 ⟨io1, S1, x, _, x1, c1, r1, p1⟩
  obtain ⟨_, _, hk⟩ := post_ok p1
  obtain ⟨ds, S2, hg, _⟩ := bind_ok hk
  have p2 := p1
  rw [hg] at p2
  obtain ⟨n, rfl⟩ := mth_loc (W := Wd.mk X.K fa) (m := m) (ds := ds) (S := S2) p2
  obtain ⟨a, xs, rfl, ha⟩ := loc_lst c1 r1
  refine ⟨tyV_loc ha, io1, z, r, S1, c1, e.ext x1, (Post.bind (RF := RepsW _) p1).mono ?_⟩
  rintro vs H2 ⟨io2, S3, ds', _, x2, c2, r2, p3⟩
  exact ⟨io2, z, S3, .loc n, ds', c2, r1.ext x2, r2, p3⟩
theorem s_mth0 {m : Mth} {o : Expr} {f : Rho → Mo Dt} {apos : Pos} (hm : mthOk m = true) (ho : PE X o (rdE (Wd.mk X.K fa) f)) (hb : notCall o = true) (hline : (apos.endLine == pos.line) = true) :
    PE X (.Call (.Attribute o (mthNm m) apos) [] [] pos) (rdE (Wd.mk X.K fa) fun r S => (f r S).bind fun x S1 => mthD S1 m x []) := by
  obtain ⟨h1, h2, h3⟩ := mth_slot (X := X) (fa := fa) m hm
  refine peW (pe_bm0 F.plainAttrs_list h1 h2 h3 ho (base_of hb) hline) ?_
  rintro σ H Q ⟨io, z, r, S, c, e, p⟩
  refine ⟨io, z, r, S, c, e, (Post.bind (RF := RepW _) p).mono ?_⟩
  rintro v H1 ⟨io1, S1, x, _, x1, c1, r1, p1⟩
  obtain ⟨n, rfl⟩ := mth_loc p1
  obtain ⟨a, xs, rfl, ha⟩ := loc_lst c1 r1
  exact ⟨tyV_loc ha, io1, z, S1, .loc n, [], c1, r1, rfl, p1⟩
end
end Pz
namespace Pz
open PySem PySem.Spec PyProof.Rows L2

/-! ### the check -/
/-- names: of the defs, of the constants; calls by keywords (def, the names as written, the places) -/
structure Tb where
  fn : List Str
  cn : List Str
  kw : List (Nat × List Str × List Nat)
/-- where a text stands: its names, its scope, the names whose cells are its own -/
structure Ck where
  N : List Str
  sc : Scope
  fnb : Str → Bool
def visB (sc : Scope) (x : Str) : Bool := match sc.names.lookup x with
  | some .local => true
  | some .cell => true
  | some .free => true
  | _ => false
def glB (sc : Scope) (x : Str) : Bool := decide (sc.names.lookup x = some .globalImplicit)
def locB (ck : Ck) (x : Str) : Bool := match ck.sc.names.lookup x with
  | some .local => true
  | some .cell => ck.fnb x
  | _ => false
def plainNm (x : Str) : Bool := !(x == ("__debug__" : Str)) && !(x == ("__classdict__" : Str))
def Ck.blk (ck : Ck) (scope : Scope) : Ck := ⟨ck.N, relS scope ck.sc, fun x => scope.names.lookup x == some .cell⟩
def IEx.mk : IEx → Bool
  | .lst _ => true
  | .cat _ _ => true
  | .rep _ _ => true
  | .comp _ _ _ _ _ => true
  | .listOf _ => true
  | .sl _ _ _ => true
  | _ => false
def bltNm : Blt → Str
  | .len => "len" | .abs => "abs" | .int => "int" | .tuple => "tuple" | .all => "all" | .any => "any" | .sum => "sum" | .min2 => "min" | .max2 => "max" | .gcd => "gcd" | .isi _ => "isinstance" | .repr => "repr"
def stOk (k : Int) : Expr → Bool
  | .Constant (.int j) _ _ => decide (k = j)
  | .UnaryOp .USub (.Constant (.int j) _ _) _ => decide (k = -j)
  | _ => false
def ownP (N : List Str) (own : List Nat) : List (Str × Nat) := own.map fun i => ((N[i]?).getD default, i)
def isTy (T : String) : List Expr → Option Expr
  | [a, .Name t _] => if t = Str.ofString T then some a else none
  | _ => none
def isTupE : Expr → Bool
  | .Tuple .. => true
  | _ => false
mutual
def cE (tb : Tb) : IEx → Ck → Expr → Bool
  | .var i, ck, x => match x with
    | .Name y _ => decide (ck.N[i]? = some y) && visB ck.sc y && plainNm y
    | _ => false
  | .cst k, ck, x => match x with
    | .Name y _ => decide (tb.cn[k]? = some y) && glB ck.sc y
    | _ => false
  | .fnv k, ck, x => match x with
    | .Name y _ => decide (tb.fn[k]? = some y) && glB ck.sc y
    | _ => false
  | .int i, _, x => match x with
    | .Constant (.int j) _ _ => decide (i = j)
    | _ => false
  | .bl b, _, x => match x with
    | .Constant (.bool c) _ _ => decide (b = c)
    | _ => false
  | .non, _, x => match x with
    | .Constant .none _ _ => true
    | _ => false
  | .str s, _, x => match x with
    | .Constant (.str y) _ _ => decide (s = y)
    | _ => false
  | .absent, _, _ => false
  | .bin o a b, ck, x => match x with
    | .BinOp l op r _ => decide (op = bopA o) && cE tb a ck l && cE tb b ck r
    | _ => false
  | .cat a b, ck, x => match x with
    | .BinOp l op r _ => decide (op = .Add) && cE tb a ck l && cE tb b ck r
    | _ => false
  | .rep a b, ck, x => match x with
    | .BinOp l op r _ => decide (op = .Mult) && cE tb a ck l && cE tb b ck r
    | _ => false
  | .neg a, ck, x => match x with
    | .UnaryOp op y _ => decide (op = .USub) && cE tb a ck y
    | _ => false
  | .cmp o a b, ck, x => match x with
    | .Compare l [op] [r] _ => decide (op = copA o) && cE tb a ck l && cE tb b ck r
    | _ => false
  | .eq ng a b, ck, x => match x with
    | .Compare l [op] [r] _ => decide (op = eqA ng) && cE tb a ck l && cE tb b ck r
    | _ => false
  | .is_ ng a b, ck, x => match x with
    | .Compare l [op] [r] _ => decide (op = isA ng) && cE tb a ck l && cE tb b ck r
    | _ => false
  | .chain o p a b c, ck, x => match x with
    | .Compare l [op, op2] [r, r2] _ => decide (op = copA o) && decide (op2 = copA p) && cE tb a ck l && cE tb b ck r && cE tb c ck r2
    | _ => false
  | .and_ a b, ck, x => match x with
    | .BoolOp op (y :: z :: rest) pos => decide (op = .And) && cE tb a ck y && (match rest with | [] => cE tb b ck z | _ => cE tb b ck (.BoolOp .And (z :: rest) pos))
    | _ => false
  | .or_ a b, ck, x => match x with
    | .BoolOp op (y :: z :: rest) pos => decide (op = .Or) && cE tb a ck y && (match rest with | [] => cE tb b ck z | _ => cE tb b ck (.BoolOp .Or (z :: rest) pos))
    | _ => false
  | .not_ a, ck, x => match x with
    | .UnaryOp op y _ => decide (op = .Not) && cE tb a ck y
    | _ => false
  | .ite c a b, ck, x => match x with
    | .IfExp y z w _ => cE tb c ck y && cE tb a ck z && cE tb b ck w
    | _ => false
  | .tup es, ck, x => match x with
    | .Tuple xs _ _ => cL tb es ck xs
    | _ => false
  | .lst es, ck, x => match x with
    | .List xs _ => cL tb es ck xs
    | _ => false
  | .ix a i, ck, x => match x with
    | .Subscript y z _ => notSl z && cE tb a ck y && cE tb i ck z
    | _ => false
  | .sl a lo hi, ck, x => match x with
    | .Subscript y (.Slice l h st _) _ => st.isNone && cE tb a ck y && (match l with | none => lo.isAbs | some l => !lo.isAbs && cE tb lo ck l) && (match h with | none => hi.isAbs | some h => !hi.isAbs && cE tb hi ck h)
    | _ => false
  | .slk a lo hi k, ck, x => match x with
    | .Subscript y (.Slice l h (some st) _) _ => stOk k st && decide (k ≠ 0 ∧ k ≠ 1) && cE tb a ck y && (match l with | none => lo.isAbs | some l => !lo.isAbs && cE tb lo ck l) && (match h with | none => hi.isAbs | some h => !hi.isAbs && cE tb hi ck h)
    | _ => false
  | .call k es, ck, x => match x with
    | .Call (.Name y _) xs kws _ => decide (tb.fn[k]? = some y) && glB ck.sc y && kws.isEmpty && cL tb es ck xs
    | _ => false
  | .callF k es, ck, x => match x with
    | .Call (.Name y _) xs kws _ => decide (tb.fn[k]? = some y) && glB ck.sc y && kws.isEmpty && cL tb es ck xs
    | _ => false
  | .callK k pm es, ck, x => match x with
    | .Call (.Name y _) [] kws _ => decide (tb.fn[k]? = some y) && glB ck.sc y && (tb.kw.any fun t => decide (t.1 = k) && decide (t.2.2 = pm) && decide (kwNames kws = t.2.1.map some)) && cL tb es ck (kwVals kws)
    | _ => false
  | .blt b es, ck, x => match x with
    | .Call (.Name y _) xs kws _ => decide (y = bltNm b) && glB ck.sc y && kws.isEmpty && (match b with
      | .isi T => (match isTy T xs with | some a => tyOk T && glB ck.sc (Str.ofString T) && cL tb es ck [a] | none => false)
      | _ => !xs.isEmpty && cL tb es ck xs)
    | _ => false
  | .listOf a, ck, x => match x with
    | .Call (.Name y _) [z] kws _ => decide (y = "list") && glB ck.sc y && kws.isEmpty && noStar z && cE tb a ck z
    | _ => false
  | .mth m a es, ck, x => match x with
    | .Call (.Attribute o nm apos) xs kws pos => decide (nm = mthNm m) && mthOk m && notCall o && kws.isEmpty && (apos.endLine == pos.line) && decide (xs.length < 30) && cE tb a ck o && cL tb es ck xs
    | _ => false
  | .divmod a b, ck, x => match x with
    | .Call (.Name y _) [z, w] kws _ => decide (y = "divmod") && glB ck.sc y && kws.isEmpty && noStar z && noStar w && cE tb a ck z && cE tb b ck w
    | _ => false
  | .comp own t it cs e, ck, x => match x with
    | .ListComp elt [⟨tg, iter, ifs, as⟩] scope _ => decide (as = 0) && blkC ck.N ck.sc scope (ownP ck.N own) && notSet iter && (t.nms.all fun i => decide (i ∈ own)) && cI tb it ck tg iter && cT tb t (ck.blk scope) tg &&
      (match cs, ifs with | [], [] => true | [c], [y] => cE tb c (ck.blk scope) y | _, _ => false) && cE tb e (ck.blk scope) elt
    | _ => false
  | .thaw e, ck, x => e.mk && cE tb e ck x
  | .never, _, _ => true
def cL (tb : Tb) : List IEx → Ck → List Expr → Bool
  | [], _, xs => xs.isEmpty
  | e :: es, ck, xs => match xs with
    | x :: xs => noStar x && cE tb e ck x && cL tb es ck xs
    | [] => false
def cT (tb : Tb) : ITg → Ck → Expr → Bool
  | .nm i, ck, x => match x with
    | .Name y _ => decide (ck.N[i]? = some y) && locB ck y
    | _ => false
  | .tup ts, ck, x => match x with
    | .Tuple xs _ _ => cTs tb ts ck xs
    | _ => false
  | .sub a i, ck, x => match x with
    | .Subscript y z _ => notSl z && cE tb a ck y && cE tb i ck z
    | _ => false
def cTs (tb : Tb) : List ITg → Ck → List Expr → Bool
  | [], _, xs => xs.isEmpty
  | t :: ts, ck, xs => match xs with
    | x :: xs => noStar x && cT tb t ck x && cTs tb ts ck xs
    | [] => false
def cI (tb : Tb) : IIt → Ck → Expr → Expr → Bool
  | .seq e, ck, _, x => cE tb e ck x
  | .rng1 a, ck, _, x => match x with
    | .Call (.Name y _) [z] kws _ => decide (y = "range") && glB ck.sc y && kws.isEmpty && noStar z && cE tb a ck z
    | _ => false
  | .rng2 a b, ck, _, x => match x with
    | .Call (.Name y _) [z, w] kws _ => decide (y = "range") && glB ck.sc y && kws.isEmpty && noStar z && noStar w && cE tb a ck z && cE tb b ck w
    | _ => false
  | .rng3 a b c, ck, _, x => match x with
    | .Call (.Name y _) [z, w, v] kws _ => decide (y = "range") && glB ck.sc y && kws.isEmpty && noStar z && noStar w && noStar v && cE tb a ck z && cE tb b ck w && cE tb c ck v
    | _ => false
  | .enum a, ck, tg, x => match x with
    | .Call (.Name y _) [z] kws _ => isTupE tg && decide (y = "enumerate") && glB ck.sc y && kws.isEmpty && noStar z && cE tb a ck z
    | _ => false
  | .zip a b, ck, tg, x => match x with
    | .Call (.Name y _) [z, w] kws _ => isTupE tg && decide (y = "zip") && glB ck.sc y && kws.isEmpty && noStar z && noStar w && cE tb a ck z && cE tb b ck w
    | _ => false
end
end Pz
namespace Pz
open PySem PySem.Spec PyProof.Rows L2

/-! ### the check is right -/
structure Same (X X' : Cx) : Prop where
  prog : X'.prog = X.prog
  w : X'.w = X.w
  K : X'.K = X.K
  mg : X'.mg = X.mg
  base : X'.base = X.base
  A : X'.A = X.A
def bltFree : List Str := ["len", "abs", "int", "tuple", "all", "any", "sum", "min", "max", "isinstance", "repr", "list", "divmod", "range", "enumerate", "zip", "bool", "str", "dict"]
structure CxOk (tb : Tb) (fa : Nat → Addr) (cv : Nat → Dt) (Ph : Nat → List Dt → Mo Dt) (ck : Ck) (X : Cx) : Prop where
  N : X.N = ck.N
  nd : X.N.Nodup
  sc : X.env.scope = ck.sc
  fn : ∀ x, ck.fnb x = true → X.fn x = true
  calm : X.calm = true
  gd : X.A.guards = some []
  un : X.A.units + 64 < cLine
  calls : ∀ X', Same X X' → Calls1 X' fa Ph ∧ ∀ t ∈ tb.kw, CallsK X' fa Ph t
  fns : ∀ (k : Nat) (x : Str), tb.fn[k]? = some x → X.mg x = some (.ref (fa k)) ∧ PySem.W.keepIn X.K (.ref (fa k)) = true ∧ (x == ("__debug__" : Str)) = false
  cns : ∀ (k : Nat) (x : Str), tb.cn[k]? = some x → (x == ("__debug__" : Str)) = false ∧ ∃ u v, X.mg x = some u ∧ RelV v u ∧ ∀ H io z, Rep (Wd.mk X.K fa) H io z (cv k) v
  free : ∀ x ∈ bltFree, X.mg x = none
  gcd : X.mg "gcd" = some (.builtin "math.gcd")
section
variable {tb : Tb} {fa : Nat → Addr} {cv : Nat → Dt} {Ph : Nat → List Dt → Mo Dt} {ck : Ck} {X : Cx}
theorem CxOk.gl (c : CxOk tb fa cv Ph ck X) {x : Str} (h : glB ck.sc x = true) : Gl X x := by
  show X.env.scope.names.lookup x = _
  rw [c.sc]; exact of_decide_eq_true h
theorem CxOk.vis (c : CxOk tb fa cv Ph ck X) {x : Str} (h : visB ck.sc x = true) : Vis X.env.scope x := by
  unfold visB at h
  unfold Vis
  rw [c.sc]
  split at h
  · exact .inl (by assumption)
  · exact .inr (.inl (by assumption))
  · exact .inr (.inr (by assumption))
  · cases h
theorem CxOk.loc (c : CxOk tb fa cv Ph ck X) {x : Str} (h : locB ck x = true) : L2.Loc X.env.scope x ∧ (X.fn x = true ∨ X.env.scope.names.lookup x = some .local) := by
  unfold locB at h
  unfold L2.Loc
  rw [c.sc]
  split at h
  · rename_i e; exact ⟨.inl e, .inr e⟩
  · rename_i e; exact ⟨.inr e, .inl (c.fn x h)⟩
  · cases h
theorem CxOk.nm (c : CxOk tb fa cv Ph ck X) {i : Nat} {x : Str} (h : ck.N[i]? = some x) : X.N[i]? = some x := by rw [c.N]; exact h
theorem CxOk.blk (c : CxOk tb fa cv Ph ck X) (scope : Scope) (s : Shared) (H : Hp) (C : Addr) (cl : List (Str × Addr)) (fp : List Addr) : CxOk tb fa cv Ph (ck.blk scope) (X.blk s H scope (compEnvC scope cl C X.env) fp) where
  N := c.N
  nd := c.nd
  sc := by
    show relabel scope X.env = relS scope ck.sc
    rw [← c.sc]; rfl
  fn := fun x h => h
  calm := c.calm
  gd := c.gd
  un := c.un
  calls := fun X' h => c.calls X' ⟨h.prog, h.w, h.K, h.mg, h.base, h.A⟩
  fns := c.fns
  cns := c.cns
  free := c.free
  gcd := c.gcd
end
theorem and2 {a b : Bool} (h : (a && b) = true) : a = true ∧ b = true := Bool.and_eq_true_iff.mp h
structure Snd (X : Cx) (fa : Nat → Addr) (cv : Nat → Dt) (Ph : Nat → List Dt → Mo Dt) (e : IEx) (x : Expr) : Prop where
  pe : PE X x (rdE (Wd.mk X.K fa) (evE cv Ph e))
  pt : PT X x (rdT (Wd.mk X.K fa) (evE cv Ph e))
  pf : e.mk = true → PE X x (rdF (Wd.mk X.K fa) (evE cv Ph e))
section
variable {X : Cx} {fa : Nat → Addr} {cv : Nat → Dt} {Ph : Nat → List Dt → Mo Dt}
/-- an expression that is tested by its value -/
def plainT : Expr → Bool
  | .UnaryOp .Not _ _ => false
  | .BoolOp _ _ _ => false
  | .IfExp _ _ _ _ => false
  | .Compare _ _ _ _ => false
  | _ => true
theorem test_plain {x : Expr} {env : Env} (h : plainT x = true) (whole : Sem Value) : isTrue x env whole = (do let v ← whole; standAt x.pos; holding [v] (truthy v)) := by
  cases x with
  | UnaryOp op y p => cases op <;> first | rfl | (cases h)
  | BoolOp _ _ _ => cases h
  | IfExp _ _ _ _ => cases h
  | Compare _ _ _ _ => cases h
  | _ => rfl
theorem Snd.plain {e : IEx} {x : Expr} (h : PE X x (rdE (Wd.mk X.K fa) (evE cv Ph e))) (hp : plainT x = true) (hm : e.mk = false) : Snd X fa cv Ph e x := ⟨h, pt_of h (test_plain hp), fun q => by rw [hm] at q; cases q⟩
theorem Snd.two {e : IEx} {x : Expr} (h : PE X x (rdE (Wd.mk X.K fa) (evE cv Ph e)) ∧ PT X x (rdT (Wd.mk X.K fa) (evE cv Ph e))) (hm : e.mk = false) : Snd X fa cv Ph e x := ⟨h.1, h.2, fun q => by rw [hm] at q; cases q⟩
theorem Snd.maker {e : IEx} {x : Expr} (h : PE X x (rdF (Wd.mk X.K fa) (evE cv Ph e))) (hp : plainT x = true) (hf : ∀ r S, (∃ xs S', evE cv Ph e r S = .ok (.lst xs) S') ∨ evE cv Ph e r S = .bad ∨ ∃ x S', evE cv Ph e r S = .err x S') : Snd X fa cv Ph e x :=
  have h1 : PE X x (rdE (Wd.mk X.K fa) (evE cv Ph e)) := peW h fun σ H Q q => rdF_of hf q
  ⟨h1, pt_of h1 (test_plain hp), fun _ => h⟩
theorem pw_pt {op : BoolOp} {vs : List Expr} {pos : Pos} {t : TT} (h : PT X (.BoolOp op vs pos) t) : PW X (.BoolOp op vs pos) t := ⟨fun whole pins s σ H Q I q => h.run pins s σ H Q I q⟩
theorem t_ite {c a b : Expr} {pos : Pos} {h f g : Rho → Mo Dt} (hc : PT X c (rdT (Wd.mk X.K fa) h)) (ha : PT X a (rdT (Wd.mk X.K fa) f)) (hb : PT X b (rdT (Wd.mk X.K fa) g)) : PT X (.IfExp c a b pos) (rdT (Wd.mk X.K fa) (iteK h f g)) := by
  refine ⟨fun pins s σ H Q I q => ?_⟩
  have q1 := rdT_toB (f := h) (k := fun r k S1 => if k = true then f r S1 else g r S1) q
  show wpAny _ _ (do if ← isTrue c X.env (eval c X.env) then isTrue a X.env (eval a X.env) else isTrue b X.env (eval b X.env)) _ _ s
  refine wpAny_bind (thn (hc.run pins s σ H _ I q1) fun k s1 ⟨H1, I1, q2⟩ => ?_)
  cases k with
  | true => exact ha.run pins s1 σ H1 Q I1 q2
  | false => exact hb.run pins s1 σ H1 Q I1 q2
theorem s_step {k : Int} {st : Expr} (h : stOk k st = true) : PE X st (tC (.int k)) := by
  cases st with
  | Constant c j p => cases c with
    | int i =>
      obtain rfl : k = i := of_decide_eq_true h
      exact pe_int
    | _ => cases h
  | UnaryOp op y p =>
    cases op with
    | USub => cases y with
      | Constant c j p2 => cases c with
        | int i =>
          obtain rfl : k = -i := of_decide_eq_true h
          exact peW (pe_un un_neg pe_int) fun σ H Q q => ⟨i, rfl, q⟩
        | _ => cases h
      | _ => cases h
    | _ => cases h
  | _ => cases h
theorem plain_ix {z : Expr} (h : notSl z = true) : PlainIx z := by
  intro o i
  cases z <;> first | rfl | (cases h)
theorem bind_mk {α : Type} {R : Res α} {k : α → Store → Res Dt} (hk : ∀ a S, (∃ xs S', k a S = .ok (.lst xs) S') ∨ k a S = .bad ∨ ∃ x S', k a S = .err x S') : (∃ xs S', R.bind k = .ok (.lst xs) S') ∨ R.bind k = .bad ∨ ∃ x S', R.bind k = .err x S' := by
  cases R with
  | ok a S => exact hk a S
  | err x S => exact .inr (.inr ⟨x, S, rfl⟩)
  | bad => exact .inr (.inl rfl)
theorem blt_nm {b : Blt} (h : ∀ T, b ≠ .isi T) (hg : b ≠ .gcd) : (∃ v, ((∃ id, v = Value.builtin id) ∨ ∃ T, v = .type T) ∧ bootBuiltins (bltNm b) = some v ∧ bltNm b ∈ bltFree ∧ bltNm b ≠ "__name__" ∧ (bltNm b == ("__debug__" : Str)) = false ∧ (X.calm = true → X.A.guards = some [] → X.A.units + 64 < cLine → CallR X v (rP (Wd.mk X.K fa) fun ds S => bltD S b ds))) := by
  cases b with
  | len => exact ⟨.builtin "len", .inl ⟨_, rfl⟩, by rfl, by decide, by decide, by decide, fun _ _ _ => cb_len⟩
  | abs => exact ⟨.builtin "abs", .inl ⟨_, rfl⟩, by rfl, by decide, by decide, by decide, fun _ _ _ => cb_abs⟩
  | int => exact ⟨.type "int", .inr ⟨_, rfl⟩, by rfl, by decide, by decide, by decide, fun _ _ _ => cb_int⟩
  | tuple => exact ⟨.type "tuple", .inr ⟨_, rfl⟩, by rfl, by decide, by decide, by decide, fun _ _ _ => cb_tuple⟩
  | all => exact ⟨.builtin "all", .inl ⟨_, rfl⟩, by rfl, by decide, by decide, by decide, fun c _ _ => cb_all c⟩
  | any => exact ⟨.builtin "any", .inl ⟨_, rfl⟩, by rfl, by decide, by decide, by decide, fun c _ _ => cb_any c⟩
  | sum => exact ⟨.builtin "sum", .inl ⟨_, rfl⟩, by rfl, by decide, by decide, by decide, fun c _ _ => cb_sum c⟩
  | min2 => exact ⟨.builtin "min", .inl ⟨_, rfl⟩, by rfl, by decide, by decide, by decide, fun c _ _ => cb_min2 c⟩
  | max2 => exact ⟨.builtin "max", .inl ⟨_, rfl⟩, by rfl, by decide, by decide, by decide, fun c _ _ => cb_max2 c⟩
  | gcd => exact absurd rfl hg
  | isi T => exact absurd rfl (h T)
  | repr => exact ⟨.builtin "repr", .inl ⟨_, rfl⟩, by rfl, by decide, by decide, by decide, fun _ g u => cb_repr g u⟩
theorem kwVals_nil {kws : List Keyword} (h : kwVals kws = []) : kws = [] := by
  cases kws with
  | nil => rfl
  | cons _ _ => cases h
theorem isTy_of {T : String} {xs : List Expr} {a : Expr} (h : isTy T xs = some a) : ∃ p, xs = [a, .Name (Str.ofString T) p] := by
  unfold isTy at h
  split at h
  · rename_i b t p
    split at h
    · rename_i e
      cases h
      exact ⟨p, by rw [e]⟩
    · cases h
  · cases h
theorem evL_len {es : List IEx} : ∀ {r : Rho} {S : Store} {ds : List Dt} {S' : Store}, evL cv Ph es r S = .ok ds S' → ds.length = es.length := by
  induction es with
  | nil => intro r S ds S' h; rw [evL] at h; cases h; rfl
  | cons e es ih =>
    intro r S ds S' h
    rw [evL] at h
    obtain ⟨d, S1, _, h⟩ := bind_ok h
    obtain ⟨ds2, S2, h2, h⟩ := bind_ok h
    cases h
    rw [List.length_cons, List.length_cons, ih h2]
end
/-- an argument list -/
structure SndL (X : Cx) (fa : Nat → Addr) (cv : Nat → Dt) (Ph : Nat → List Dt → Mo Dt) (es : List IEx) (xs : List Expr) : Prop where
  pa : PA X xs (rdA (Wd.mk X.K fa) (evL cv Ph es))
  ns : xs.all noStar = true
  pk : ∀ kws, kwVals kws = xs → PK X kws (rdA (Wd.mk X.K fa) (evL cv Ph es))
  len : xs.length = es.length
theorem SndL.nil {X : Cx} {fa : Nat → Addr} {cv : Nat → Dt} {Ph : Nat → List Dt → Mo Dt} {es : List IEx} {xs : List Expr} (h : SndL X fa cv Ph es xs) (e : xs = []) : ∀ r S, evL cv Ph es r S = .ok [] S := by
  have hl := h.len
  rw [e] at hl
  cases es with
  | nil => intro r S; rw [evL]
  | cons _ _ => cases hl
structure SndTs (X : Cx) (fa : Nat → Addr) (cv : Nat → Dt) (Ph : Nat → List Dt → Mo Dt) (ts : List ITg) (xs : List Expr) : Prop where
  pg : PGs X xs (gRs (Wd.mk X.K fa) (nmsL ts) (evTs cv Ph ts))
  ns : xs.all noStar = true
  len : xs.length = ts.length
/-- a part of a slice -/
def partR (cv : Nat → Dt) (Ph : Nat → List Dt → Mo Dt) (e : IEx) : Rho → Mo (Option Int) := fun r S => if e.isAbs = true then .ok none S else (evE cv Ph e r S).bind partK
theorem part_of {X : Cx} {fa : Nat → Addr} {cv : Nat → Dt} {Ph : Nat → List Dt → Mo Dt} {e : IEx} {l : Option Expr} (h : (l = none ∧ e.isAbs = true) ∨ ∃ x, l = some x ∧ e.isAbs = false ∧ PE X x (rdE (Wd.mk X.K fa) (evE cv Ph e))) : PO X l (rdO (Wd.mk X.K fa) (partR cv Ph e)) := by
  rcases h with ⟨rfl, h⟩ | ⟨x, rfl, h, hp⟩
  · refine poW (o_none (fa := fa)) ?_
    rintro σ H Q ⟨io, z, r, S, c, e2, p⟩
    have p : Post _ _ io z H (partR cv Ph e r S) Q := p
    unfold partR at p
    rw [if_pos h] at p
    exact ⟨io, z, r, S, c, e2, p⟩
  · refine poW (o_some hp) ?_
    rintro σ H Q ⟨io, z, r, S, c, e2, p⟩
    have p : Post _ _ io z H (partR cv Ph e r S) Q := p
    unfold partR at p
    rw [if_neg (by rw [h]; decide)] at p
    exact ⟨io, z, r, S, c, e2, p⟩
theorem isTupE_of {x : Expr} (h : isTupE x = true) : ∃ es k p, x = .Tuple es k p := by
  cases x with
  | Tuple es k p => exact ⟨es, k, p, rfl⟩
  | _ => cases h
end Pz
namespace Pz
open PySem PySem.Spec PyProof.Rows L2
section
variable {tb : Tb} {fa : Nat → Addr} {cv : Nat → Dt} {Ph : Nat → List Dt → Mo Dt}
theorem free_in {ck : Ck} {X : Cx} (c : CxOk tb fa cv Ph ck X) {x : Str} (h : (bltFree.contains x) = true) : X.mg x = none := c.free x (List.contains_iff_mem.mp h)
mutual
theorem sE : ∀ (e : IEx) (ck : Ck) (x : Expr) (X : Cx), CxOk tb fa cv Ph ck X → cE tb e ck x = true → Snd X fa cv Ph e x
  | .var i, ck, x, X, c, h => by
    unfold cE at h
    cases x with
    | Name y p =>
      obtain ⟨h, h3⟩ := and2 h
      obtain ⟨h1, h2⟩ := and2 h
      unfold plainNm at h3
      obtain ⟨h4, h5⟩ := and2 h3
      exact .plain (s_var (c.nm (of_decide_eq_true h1)) (c.vis h2) (by simpa using h4) (by simpa using h5)) rfl rfl
    | _ => cases h
  | .cst k, ck, x, X, c, h => by
    unfold cE at h
    cases x with
    | Name y p =>
      obtain ⟨h1, h2⟩ := and2 h
      obtain ⟨hd, u, v, hm, r, hr⟩ := c.cns k y (of_decide_eq_true h1)
      exact .plain (s_con (pe_glob (c.gl h2) hm r hd) hr) rfl rfl
    | _ => cases h
  | .fnv k, ck, x, X, c, h => by
    unfold cE at h
    cases x with
    | Name y p =>
      obtain ⟨h1, h2⟩ := and2 h
      obtain ⟨hm, _, hd⟩ := c.fns k y (of_decide_eq_true h1)
      exact .plain (s_con (v := .ref (fa k)) (pe_glob (c.gl h2) hm rfl hd) fun _ _ _ => rfl) rfl rfl
    | _ => cases h
  | .int i, ck, x, X, c, h => by
    unfold cE at h
    cases x with
    | Constant y j p => cases y with
      | int k =>
        obtain rfl : i = k := of_decide_eq_true h
        exact .plain (s_con pe_int fun _ _ _ => rfl) rfl rfl
      | _ => cases h
    | _ => cases h
  | .bl b, ck, x, X, c, h => by
    unfold cE at h
    cases x with
    | Constant y j p => cases y with
      | bool k =>
        obtain rfl : b = k := of_decide_eq_true h
        exact .plain (s_con pe_bl fun _ _ _ => rfl) rfl rfl
      | _ => cases h
    | _ => cases h
  | .non, ck, x, X, c, h => by
    unfold cE at h
    cases x with
    | Constant y j p => cases y with
      | none => exact .plain (s_con pe_non fun _ _ _ => rfl) rfl rfl
      | _ => cases h
    | _ => cases h
  | .str s, ck, x, X, c, h => by
    unfold cE at h
    cases x with
    | Constant y j p => cases y with
      | str k =>
        obtain rfl : s = k := of_decide_eq_true h
        exact .plain (s_con pe_str fun _ _ _ => rfl) rfl rfl
      | _ => cases h
    | _ => cases h
  | .absent, ck, x, X, c, h => by cases h
  | .bin o a b, ck, x, X, c, h => by
    unfold cE at h
    cases x with
    | BinOp l op r p =>
      obtain ⟨h, h3⟩ := and2 h
      obtain ⟨h1, h2⟩ := and2 h
      obtain rfl : op = bopA o := of_decide_eq_true h1
      exact .plain (s_bin (sE a ck l X c h2).pe (sE b ck r X c h3).pe) rfl rfl
    | _ => cases h
  | .cat a b, ck, x, X, c, h => by
    unfold cE at h
    cases x with
    | BinOp l op r p =>
      obtain ⟨h, h3⟩ := and2 h
      obtain ⟨h1, h2⟩ := and2 h
      obtain rfl : op = .Add := of_decide_eq_true h1
      refine .maker (s_cat (sE a ck l X c h2).pe (sE b ck r X c h3).pe) rfl fun r S => ?_
      rw [evE]
      refine bind_mk fun x S1 => bind_mk fun y S2 => ?_
      unfold catK
      cases catD S2 x y with
      | none => exact .inr (.inl rfl)
      | some xs => exact .inl ⟨xs, S2, rfl⟩
    | _ => cases h
  | .rep a b, ck, x, X, c, h => by
    unfold cE at h
    cases x with
    | BinOp l op r p =>
      obtain ⟨h, h3⟩ := and2 h
      obtain ⟨h1, h2⟩ := and2 h
      obtain rfl : op = .Mult := of_decide_eq_true h1
      refine .maker (s_rep (sE a ck l X c h2).pe (sE b ck r X c h3).pe) rfl fun r S => ?_
      rw [evE]
      refine bind_mk fun x S1 => bind_mk fun y S2 => ?_
      unfold repK
      cases y with
      | int k =>
        cases q : repD S2 x k with
        | none => exact .inr (.inl (by simp only [q]))
        | some xs => exact .inl ⟨xs, S2, by simp only [q]⟩
      | _ => exact .inr (.inl rfl)
    | _ => cases h
  | .neg a, ck, x, X, c, h => by
    unfold cE at h
    cases x with
    | UnaryOp op y p =>
      obtain ⟨h1, h2⟩ := and2 h
      obtain rfl : op = .USub := of_decide_eq_true h1
      exact .plain (s_neg (sE a ck y X c h2).pe) rfl rfl
    | _ => cases h
  | .cmp o a b, ck, x, X, c, h => by
    unfold cE at h
    split at h
    · rename_i l op r p
      obtain ⟨h, h3⟩ := and2 h
      obtain ⟨h1, h2⟩ := and2 h
      obtain rfl : op = copA o := of_decide_eq_true h1
      exact .two (s_cmp (sE a ck l X c h2).pe (sE b ck r X c h3).pe) rfl
    · cases h
  | .eq ng a b, ck, x, X, c, h => by
    unfold cE at h
    split at h
    · rename_i l op r p
      obtain ⟨h, h3⟩ := and2 h
      obtain ⟨h1, h2⟩ := and2 h
      obtain rfl : op = eqA ng := of_decide_eq_true h1
      exact .two (s_eq c.un (sE a ck l X c h2).pe (sE b ck r X c h3).pe) rfl
    · cases h
  | .is_ ng a b, ck, x, X, c, h => by
    unfold cE at h
    split at h
    · rename_i l op r p
      obtain ⟨h, h3⟩ := and2 h
      obtain ⟨h1, h2⟩ := and2 h
      obtain rfl : op = isA ng := of_decide_eq_true h1
      exact .two (s_is (sE a ck l X c h2).pe (sE b ck r X c h3).pe) rfl
    · cases h
  | .chain o p a b d, ck, x, X, c, h => by
    unfold cE at h
    split at h
    · rename_i l op op2 r r2 pp
      obtain ⟨h, h5⟩ := and2 h
      obtain ⟨h, h4⟩ := and2 h
      obtain ⟨h, h3⟩ := and2 h
      obtain ⟨h1, h2⟩ := and2 h
      obtain rfl : op = copA o := of_decide_eq_true h1
      obtain rfl : op2 = copA p := of_decide_eq_true h2
      exact .two (s_chain (sE a ck l X c h3).pe (sE b ck r X c h4).pe (sE d ck r2 X c h5).pe) rfl
    · cases h
  | .and_ a b, ck, x, X, c, h => by
    unfold cE at h
    split at h
    · rename_i op y z rest pos
      obtain ⟨h, h3⟩ := and2 h
      obtain ⟨h1, h2⟩ := and2 h
      obtain rfl : op = .And := of_decide_eq_true h1
      have ha := sE a ck y X c h2
      have hb : PE X (.BoolOp .And (z :: rest) pos) (rdE (Wd.mk X.K fa) (evE cv Ph b)) ∧ PW X (.BoolOp .And (z :: rest) pos) (rdT (Wd.mk X.K fa) (evE cv Ph b)) := by
        cases rest with
        | nil =>
          have q := sE b ck z X c h3
          exact ⟨pe_one q.pe, pw_and1 q.pt⟩
        | cons w ws =>
          have q := sE b ck (.BoolOp .And (z :: w :: ws) pos) X c h3
          exact ⟨q.pe, pw_pt q.pt⟩
      exact .two ⟨s_and ha.pe hb.1, (w_and ha.pt hb.2).pt⟩ rfl
    · cases h
  | .or_ a b, ck, x, X, c, h => by
    unfold cE at h
    split at h
    · rename_i op y z rest pos
      obtain ⟨h, h3⟩ := and2 h
      obtain ⟨h1, h2⟩ := and2 h
      obtain rfl : op = .Or := of_decide_eq_true h1
      have ha := sE a ck y X c h2
      have hb : PE X (.BoolOp .Or (z :: rest) pos) (rdE (Wd.mk X.K fa) (evE cv Ph b)) ∧ PW X (.BoolOp .Or (z :: rest) pos) (rdT (Wd.mk X.K fa) (evE cv Ph b)) := by
        cases rest with
        | nil =>
          have q := sE b ck z X c h3
          exact ⟨pe_one q.pe, pw_or1 q.pt⟩
        | cons w ws =>
          have q := sE b ck (.BoolOp .Or (z :: w :: ws) pos) X c h3
          exact ⟨q.pe, pw_pt q.pt⟩
      exact .two ⟨s_or ha.pe hb.1, (w_or ha.pt hb.2).pt⟩ rfl
    · cases h
  | .not_ a, ck, x, X, c, h => by
    unfold cE at h
    cases x with
    | UnaryOp op y p =>
      obtain ⟨h1, h2⟩ := and2 h
      obtain rfl : op = .Not := of_decide_eq_true h1
      have q := sE a ck y X c h2
      exact .two ⟨s_not q.pe, t_not q.pt⟩ rfl
    | _ => cases h
  | .ite d a b, ck, x, X, c, h => by
    unfold cE at h
    cases x with
    | IfExp y z w p =>
      obtain ⟨h, h3⟩ := and2 h
      obtain ⟨h1, h2⟩ := and2 h
      have q1 := sE d ck y X c h1
      have q2 := sE a ck z X c h2
      have q3 := sE b ck w X c h3
      exact .two ⟨s_ite q1.pt q2.pe q3.pe, t_ite q1.pt q2.pt q3.pt⟩ rfl
    | _ => cases h
  | .tup es, ck, x, X, c, h => by
    unfold cE at h
    cases x with
    | Tuple xs k p => exact .plain (s_tup (sL es ck xs X c h).pa) rfl rfl
    | _ => cases h
  | .lst es, ck, x, X, c, h => by
    unfold cE at h
    cases x with
    | List xs p =>
      refine .maker (s_lst (sL es ck xs X c h).pa) rfl fun r S => ?_
      rw [evE]
      refine bind_mk fun ds S1 => ?_
      unfold lstK
      split
      · exact .inl ⟨ds, S1, rfl⟩
      · exact .inr (.inl rfl)
    | _ => cases h
  | .ix a i, ck, x, X, c, h => by
    unfold cE at h
    cases x with
    | Subscript y z p =>
      obtain ⟨h, h3⟩ := and2 h
      obtain ⟨h1, h2⟩ := and2 h
      exact .plain (s_ix (plain_ix h1) (sE a ck y X c h2).pe (sE i ck z X c h3).pe) rfl rfl
    | _ => cases h
  | .sl a lo hi, ck, x, X, c, h => by
    unfold cE at h
    split at h
    · rename_i y l hh st p2 p
      obtain ⟨h, h4⟩ := and2 h
      obtain ⟨h, h3⟩ := and2 h
      obtain ⟨h1, h2⟩ := and2 h
      cases st with
      | some _ => cases h1
      | none =>
        have hl : PO X l (rdO (Wd.mk X.K fa) (partR cv Ph lo)) := part_of (by
          cases l with
          | none => exact .inl ⟨rfl, h3⟩
          | some u =>
            obtain ⟨g1, g2⟩ := and2 h3
            exact .inr ⟨u, rfl, by simpa using g1, (sE lo ck u X c g2).pe⟩)
        have hu : PO X hh (rdO (Wd.mk X.K fa) (partR cv Ph hi)) := part_of (by
          cases hh with
          | none => exact .inl ⟨rfl, h4⟩
          | some u =>
            obtain ⟨g1, g2⟩ := and2 h4
            exact .inr ⟨u, rfl, by simpa using g1, (sE hi ck u X c g2).pe⟩)
        have ha := (sE a ck y X c h2).pe
        have e : evE cv Ph (.sl a lo hi) = sl3 (evE cv Ph a) (partR cv Ph lo) (partR cv Ph hi) slK := by
          funext r S
          rw [evE] <;> rfl
        refine ⟨by rw [e]; exact s_sl ha hl hu, pt_of (by rw [e]; exact s_sl ha hl hu) (test_plain rfl), fun _ => by rw [e]; exact f_sl ha hl hu⟩
    · cases h
  | .slk a lo hi k, ck, x, X, c, h => by
    unfold cE at h
    split at h
    · rename_i y l hh st p2 p
      obtain ⟨h, h5⟩ := and2 h
      obtain ⟨h, h4⟩ := and2 h
      obtain ⟨h, h3⟩ := and2 h
      obtain ⟨h1, h2⟩ := and2 h
      have hl : PO X l (rdO (Wd.mk X.K fa) (partR cv Ph lo)) := part_of (by
        cases l with
        | none => exact .inl ⟨rfl, h4⟩
        | some u =>
          obtain ⟨g1, g2⟩ := and2 h4
          exact .inr ⟨u, rfl, by simpa using g1, (sE lo ck u X c g2).pe⟩)
      have hu : PO X hh (rdO (Wd.mk X.K fa) (partR cv Ph hi)) := part_of (by
        cases hh with
        | none => exact .inl ⟨rfl, h5⟩
        | some u =>
          obtain ⟨g1, g2⟩ := and2 h5
          exact .inr ⟨u, rfl, by simpa using g1, (sE hi ck u X c g2).pe⟩)
      have ha := (sE a ck y X c h3).pe
      have e : evE cv Ph (.slk a lo hi k) = sl3 (evE cv Ph a) (partR cv Ph lo) (partR cv Ph hi) (slkK k) := by
        funext r S
        rw [evE] <;> rfl
      exact .plain (by rw [e]; exact s_slk (s_step h1) h2 ha hl hu) rfl rfl
    · cases h
  | .call k es, ck, x, X, c, h => by
    unfold cE at h
    split at h
    · rename_i y p xs kws pos
      obtain ⟨h, h4⟩ := and2 h
      obtain ⟨h, h3⟩ := and2 h
      obtain ⟨h1, h2⟩ := and2 h
      obtain rfl : kws = [] := List.isEmpty_iff.mp h3
      obtain ⟨hm, hk, hd⟩ := c.fns k y (of_decide_eq_true h1)
      have q := sL es ck xs X c h4
      exact .plain (s_call (c.calls X ⟨rfl, rfl, rfl, rfl, rfl, rfl⟩).1 (c.gl h2) hm hk hd q.ns q.pa q.nil) rfl rfl
    · cases h
  | .callF k es, ck, x, X, c, h => by
    unfold cE at h
    split at h
    · rename_i y p xs kws pos
      obtain ⟨h, h4⟩ := and2 h
      obtain ⟨h, h3⟩ := and2 h
      obtain ⟨h1, h2⟩ := and2 h
      obtain rfl : kws = [] := List.isEmpty_iff.mp h3
      obtain ⟨hm, hk, hd⟩ := c.fns k y (of_decide_eq_true h1)
      have q := sL es ck xs X c h4
      exact .plain (s_callF (c.calls X ⟨rfl, rfl, rfl, rfl, rfl, rfl⟩).1 (c.gl h2) hm hk hd q.ns q.pa q.nil) rfl rfl
    · cases h
  | .callK k pm es, ck, x, X, c, h => by
    unfold cE at h
    split at h
    · rename_i y p kws pos
      obtain ⟨h, h4⟩ := and2 h
      obtain ⟨h, h3⟩ := and2 h
      obtain ⟨h1, h2⟩ := and2 h
      obtain ⟨t, ht, h3⟩ := List.any_eq_true.mp h3
      obtain ⟨h3, h7⟩ := and2 h3
      obtain ⟨h5, h6⟩ := and2 h3
      obtain ⟨hm, hk, hd⟩ := c.fns k y (of_decide_eq_true h1)
      have q := sL es ck (kwVals kws) X c h4
      obtain ⟨t1, t2, t3⟩ := t
      obtain rfl : t1 = k := of_decide_eq_true h5
      obtain rfl : t3 = pm := of_decide_eq_true h6
      have e7 : kwNames kws = t2.map some := of_decide_eq_true h7
      have el : t2.length = es.length := by
        have e1 := congrArg List.length e7
        have e2 := q.len
        unfold kwNames at e1
        unfold kwVals at e2
        simp at e1 e2
        omega
      exact .plain (s_callK ((c.calls X ⟨rfl, rfl, rfl, rfl, rfl, rfl⟩).2 _ ht) (c.gl h2) hm hk hd (fun r S ds S' he => by rw [evL_len he]; exact el.symm) e7 (q.pk kws rfl)) rfl rfl
    · cases h
  | .blt b es, ck, x, X, c, h => by
    unfold cE at h
    split at h
    · rename_i y p xs kws pos
      obtain ⟨h, h4⟩ := and2 h
      obtain ⟨h, h3⟩ := and2 h
      obtain ⟨h1, h2⟩ := and2 h
      obtain rfl : kws = [] := List.isEmpty_iff.mp h3
      obtain rfl : y = bltNm b := of_decide_eq_true h1
      by_cases hi : ∃ T, b = .isi T
      · obtain ⟨T, rfl⟩ := hi
        dsimp only at h4
        cases q : isTy T xs with
        | none => rw [q] at h4; cases h4
        | some a =>
          rw [q] at h4
          obtain ⟨h4, h7⟩ := and2 h4
          obtain ⟨h5, h6⟩ := and2 h4
          obtain ⟨p2, rfl⟩ := isTy_of q
          cases es with
          | nil => unfold cL at h7; cases h7
          | cons e es =>
            unfold cL at h7
            obtain ⟨h7, h8⟩ := and2 h7
            obtain ⟨h9, h10⟩ := and2 h7
            cases es with
            | cons e2 es2 => unfold cL at h8; cases h8
            | nil =>
              have hf : X.mg (Str.ofString T) = none := by
                unfold tyOk at h5
                simp only [Bool.or_eq_true, beq_iff_eq] at h5
                rcases h5 with ((((h5 | h5) | h5) | h5) | h5) | h5 <;> (subst h5; exact c.free _ (by decide))
              have hs := s_isi (p := p) (pos := pos) (q := p2) h5 (c.gl h2) (c.free _ (by decide)) (c.gl h6) hf h9 (sE e ck a X c h10).pe
              refine .plain ?_ rfl rfl
              have e2 : evE cv Ph (.blt (.isi T) [e]) = fun r S => (consK (evE cv Ph e) (fun _ S => .ok [] S) r S).bind fun ds S1 => bltD S1 (.isi T) ds := by
                funext r S
                rw [evE] <;> rfl
              rw [e2]
              exact hs
      · by_cases hg : b = .gcd
        · subst hg
          obtain ⟨h5, h6⟩ := and2 (show (!xs.isEmpty && cL tb es ck xs) = true from h4)
          cases xs with
          | nil => cases h5
          | cons e1 xs =>
            have q := sL es ck (e1 :: xs) X c h6
            exact .plain (s_gcd (c.gl h2) c.gcd (by decide) q.pa q.ns) rfl rfl
        · have hi' : ∀ T, b ≠ .isi T := fun T e => hi ⟨T, e⟩
          obtain ⟨v, hv, hb, hfr, hnm, hdb, hc⟩ := blt_nm (X := X) (fa := fa) hi' hg
          have h4' : (!xs.isEmpty && cL tb es ck xs) = true := by
            cases b <;> first | exact h4 | exact absurd rfl (hi' _)
          obtain ⟨h5, h6⟩ := and2 h4'
          cases xs with
          | nil => cases h5
          | cons e1 xs =>
            have q := sL es ck (e1 :: xs) X c h6
            exact .plain (s_cb (hc c.calm c.gd c.un) hv (c.gl h2) (c.free _ hfr) hb hnm hdb q.pa q.ns) rfl rfl
    · cases h
  | .listOf a, ck, x, X, c, h => by
    unfold cE at h
    split at h
    · rename_i y p z kws pos
      obtain ⟨h, h5⟩ := and2 h
      obtain ⟨h, h4⟩ := and2 h
      obtain ⟨h, h3⟩ := and2 h
      obtain ⟨h1, h2⟩ := and2 h
      obtain rfl : kws = [] := List.isEmpty_iff.mp h3
      obtain rfl : y = "list" := of_decide_eq_true h1
      refine .maker (s_listOf (c.gl h2) (c.free _ (by decide)) h4 (sE a ck z X c h5).pe) rfl fun r S => ?_
      rw [evE]
      refine bind_mk fun d S1 => ?_
      unfold listK
      cases asSeq S1 d with
      | none => exact .inr (.inl rfl)
      | some xs => exact .inl ⟨xs, S1, rfl⟩
    · cases h
  | .mth m a es, ck, x, X, c, h => by
    unfold cE at h
    split at h
    · rename_i o nm apos xs kws pos
      obtain ⟨h, h8⟩ := and2 h
      obtain ⟨h, h7⟩ := and2 h
      obtain ⟨h, h6⟩ := and2 h
      obtain ⟨h, h5⟩ := and2 h
      obtain ⟨h, h4⟩ := and2 h
      obtain ⟨h, h3⟩ := and2 h
      obtain ⟨h1, h2⟩ := and2 h
      obtain rfl : nm = mthNm m := of_decide_eq_true h1
      obtain rfl : kws = [] := List.isEmpty_iff.mp h4
      have ho := (sE a ck o X c h7).pe
      have q := sL es ck xs X c h8
      cases xs with
      | nil =>
        refine .plain ?_ rfl rfl
        refine peW (s_mth0 h2 ho h3 h5) ?_
        rintro σ H Q ⟨io, z, r, S, cc, e, pp⟩
        refine ⟨io, z, r, S, cc, e, ?_⟩
        rw [evE] at pp
        simp only [q.nil rfl] at pp
        exact pp
      | cons e1 xs => exact .plain (s_mth h2 ho q.pa q.ns (of_decide_eq_true h6) h3 h5) rfl rfl
    · cases h
  | .divmod a b, ck, x, X, c, h => by
    unfold cE at h
    split at h
    · rename_i y p z w kws pos
      obtain ⟨h, h7⟩ := and2 h
      obtain ⟨h, h6⟩ := and2 h
      obtain ⟨h, h5⟩ := and2 h
      obtain ⟨h, h4⟩ := and2 h
      obtain ⟨h, h3⟩ := and2 h
      obtain ⟨h1, h2⟩ := and2 h
      obtain rfl : kws = [] := List.isEmpty_iff.mp h3
      obtain rfl : y = "divmod" := of_decide_eq_true h1
      exact .plain (s_dm (c.gl h2) (c.free _ (by decide)) h4 h5 (sE a ck z X c h6).pe (sE b ck w X c h7).pe) rfl rfl
    · cases h
  | .comp own t it cs e, ck, x, X, c, h => by
    unfold cE at h
    split at h
    · rename_i elt tg iter ifs as scope pos
      obtain ⟨h, h8⟩ := and2 h
      obtain ⟨h, h7⟩ := and2 h
      obtain ⟨h, h6⟩ := and2 h
      obtain ⟨h, h5⟩ := and2 h
      obtain ⟨h, h4⟩ := and2 h
      obtain ⟨h, h3⟩ := and2 h
      obtain ⟨h1, h2⟩ := and2 h
      obtain rfl : as = 0 := of_decide_eq_true h1
      have hbk : BlkOk X.N X.env.scope scope (ownP ck.N own) := by rw [c.N, c.sc]; exact blkOk_by h2
      have eo : (ownP ck.N own).map (·.2) = own := by unfold ownP; rw [List.map_map]; exact List.map_id' own
      have hv : ∀ i ∈ t.nms, i ∈ own := fun i hi => of_decide_eq_true (List.all_eq_true.mp h4 i hi)
      have hi := sI it ck tg iter X c h5
      have hpg := fun (s : Shared) (H : Hp) (C : Addr) (cl : List (Str × Addr)) (fp : List Addr) => sT t (ck.blk scope) tg _ (c.blk scope s H C cl fp) h6
      have hpe := fun (s : Shared) (H : Hp) (C : Addr) (cl : List (Str × Addr)) (fp : List Addr) => (sE e (ck.blk scope) elt _ (c.blk scope s H C cl fp) h8).pe
      have hpt : ∃ tt : TT, (∀ (s : Shared) (H : Hp) (C : Addr) (cl : List (Str × Addr)) (fp : List Addr), PTs (X.blk s H scope (compEnvC scope cl C X.env) fp) ifs tt) ∧ ∀ σ H Q, rdT (Wd.mk X.K fa) (evC cv Ph cs) σ H Q → tt σ H Q := by
        split at h7
        · refine ⟨tYes, fun s H C cl fp => pts_nil, ?_⟩
          rintro σ H Q ⟨io, z, r, S, cc, e2, p⟩
          dsimp only at p
          rw [evC] at p
          exact Post.here p cc rfl
        · rename_i ce y hx
          refine ⟨rdT (Wd.mk X.K fa) (evE cv Ph ce), fun s H C cl fp => pts_one (sE ce (ck.blk scope) y _ (c.blk scope s H C cl fp) h7).pt, ?_⟩
          rintro σ H Q ⟨io, z, r, S, cc, e2, p⟩
          dsimp only at p
          rw [evC] at p
          exact ⟨io, z, r, S, cc, e2, p⟩
        · cases h7
      obtain ⟨tt, htt, hw⟩ := hpt
      have hlc := pe_lc (elt := elt) (te := rdE (Wd.mk X.K fa) (evE cv Ph e)) (g := gR (Wd.mk X.K fa) t.nms (evT cv Ph t)) (pos := pos) c.calm c.nd hi hbk hpg htt hpe (folded_no h3)
      rw [eo] at hlc
      have e2 : evE cv Ph (.comp own t it cs e) = compK own (evI cv Ph it) (evT cv Ph t) (evC cv Ph cs) (evE cv Ph e) := by
        funext r S
        rw [evE] <;> rfl
      refine .maker ?_ rfl fun r S => ?_
      · rw [e2]
        refine peW hlc fun σ H Q q => ?_
        have q2 := comp_read (X := X) (fa := fa) hv q
        refine rdG_mono q2 fun J H1 q3 D hD => ?_
        obtain ⟨W, w0, turn⟩ := q3 D hD
        refine ⟨W, w0, fun i m H2 w2 => ?_⟩
        rcases turn i m H2 w2 with hl | ⟨go, Nx, n1, step⟩
        · exact .inl hl
        · refine .inr ⟨go, Nx, n1, fun v H3 y => ?_⟩
          obtain ⟨io, z, r, S, d, cc, ee, rv, p⟩ := step v H3 y
          exact ⟨io, z, r, S, d, cc, ee, rv, p.mono fun σ2 H4 ⟨w1, q4⟩ => ⟨w1, hw _ _ _ q4⟩⟩
      · rw [e2]
        unfold compK
        refine bind_mk fun w S1 => ?_
        split
        · exact bind_mk fun ds S2 => .inl ⟨ds, S2, rfl⟩
        · exact .inr (.inl rfl)
    · cases h
  | .thaw e, ck, x, X, c, h => by
    unfold cE at h
    obtain ⟨h1, h2⟩ := and2 h
    have q := sE e ck x X c h2
    have hp : PE X x (rdE (Wd.mk X.K fa) (evE cv Ph (.thaw e))) := by
      refine peW (q.pf h1) fun σ H Q q => rdF_thaw ?_
      obtain ⟨io, z, r, S, cc, ee, p⟩ := q
      rw [evE] at p
      exact ⟨io, z, r, S, cc, ee, p⟩
    refine ⟨hp, ⟨fun pins s σ H Q I q2 => ?_⟩, fun hm => by cases hm⟩
    obtain ⟨io, z, r, S, cc, ee, p⟩ := q2
    dsimp only at p
    rw [evE] at p
    exfalso
    cases q3 : evE cv Ph e r S with
    | ok d S1 =>
      rw [q3] at p
      cases d with
      | lst xs =>
        have p : Post (Wd.mk X.K fa) (fun _ _ _ (b : Bool) b' => b' = b) io z H (toB (if nlAll xs then .ok (.loc S1.length) (S1 ++ [xs]) else .bad)) Q := p
        split at p <;> exact p
      | _ => exact p
    | err _ _ => rw [q3] at p; exact p
    | bad => rw [q3] at p; exact p
  | .never, ck, x, X, c, h => by
    have no : ∀ σ H Q, ¬ rdE (Wd.mk X.K fa) (evE cv Ph .never) σ H Q := by
      rintro σ H Q ⟨io, z, r, S, cc, ee, p⟩
      rw [evE] at p
      exact p
    refine ⟨⟨fun pins s σ H Q I q => (no _ _ _ q).elim⟩, ⟨fun pins s σ H Q I q => ?_⟩, fun hm => by cases hm⟩
    obtain ⟨io, z, r, S, cc, ee, p⟩ := q
    dsimp only at p
    rw [evE] at p
    exact p.elim
theorem sL : ∀ (es : List IEx) (ck : Ck) (xs : List Expr) (X : Cx), CxOk tb fa cv Ph ck X → cL tb es ck xs = true → SndL X fa cv Ph es xs
  | [], ck, xs, X, c, h => by
    unfold cL at h
    obtain rfl : xs = [] := List.isEmpty_iff.mp h
    have e : evL cv Ph [] = fun _ S => .ok [] S := by
      funext r S
      rw [evL]
    refine ⟨by rw [e]; exact a_nil, rfl, fun kws hk => ?_, rfl⟩
    obtain rfl := kwVals_nil hk
    rw [e]
    exact k_nil
  | e :: es, ck, xs, X, c, h => by
    unfold cL at h
    cases xs with
    | nil => cases h
    | cons x xs =>
      obtain ⟨h, h3⟩ := and2 h
      obtain ⟨h1, h2⟩ := and2 h
      have q1 := sE e ck x X c h2
      have q2 := sL es ck xs X c h3
      have e2 : evL cv Ph (e :: es) = consK (evE cv Ph e) (evL cv Ph es) := by
        funext r S
        rw [evL] <;> rfl
      refine ⟨by rw [e2]; exact a_cons h1 q1.pe q2.pa, ?_, fun kws hk => ?_, by rw [List.length_cons, List.length_cons, q2.len]⟩
      · rw [List.all_cons, h1, q2.ns]; rfl
      · cases kws with
        | nil => cases hk
        | cons kw kws =>
          obtain ⟨nm, v, p⟩ := kw
          have hk : v :: kwVals kws = x :: xs := hk
          cases hk
          rw [e2]
          exact k_cons q1.pe (q2.pk kws rfl)
theorem sT : ∀ (t : ITg) (ck : Ck) (x : Expr) (X : Cx), CxOk tb fa cv Ph ck X → cT tb t ck x = true → PG X x (gR (Wd.mk X.K fa) t.nms (evT cv Ph t))
  | .nm i, ck, x, X, c, h => by
    unfold cT at h
    cases x with
    | Name y p =>
      obtain ⟨h1, h2⟩ := and2 h
      obtain ⟨l1, l2⟩ := c.loc h2
      exact g_name c.nd (c.nm (of_decide_eq_true h1)) l1 l2
    | _ => cases h
  | .tup ts, ck, x, X, c, h => by
    unfold cT at h
    cases x with
    | Tuple xs k p =>
      have q := sTs ts ck xs X c h
      exact g_tup c.calm q.ns q.len q.pg
    | _ => cases h
  | .sub a i, ck, x, X, c, h => by
    unfold cT at h
    cases x with
    | Subscript y z p =>
      obtain ⟨h, h3⟩ := and2 h
      obtain ⟨h1, h2⟩ := and2 h
      exact g_sub h1 (sE a ck y X c h2).pe (sE i ck z X c h3).pe
    | _ => cases h
theorem sTs : ∀ (ts : List ITg) (ck : Ck) (xs : List Expr) (X : Cx), CxOk tb fa cv Ph ck X → cTs tb ts ck xs = true → SndTs X fa cv Ph ts xs
  | [], ck, xs, X, c, h => by
    unfold cTs at h
    obtain rfl : xs = [] := List.isEmpty_iff.mp h
    exact ⟨gs_nil, rfl, rfl⟩
  | t :: ts, ck, xs, X, c, h => by
    unfold cTs at h
    cases xs with
    | nil => cases h
    | cons x xs =>
      obtain ⟨h, h3⟩ := and2 h
      obtain ⟨h1, h2⟩ := and2 h
      have q2 := sTs ts ck xs X c h3
      exact ⟨gs_cons h1 (sT t ck x X c h2) q2.pg, by rw [List.all_cons, h1, q2.ns]; rfl, by rw [List.length_cons, List.length_cons, q2.len]⟩
theorem sI : ∀ (it : IIt) (ck : Ck) (tg x : Expr) (X : Cx), CxOk tb fa cv Ph ck X → cI tb it ck tg x = true → PI X tg x (iR (Wd.mk X.K fa) (evI cv Ph it))
  | .seq e, ck, tg, x, X, c, h => by
    unfold cI at h
    exact i_seq (sE e ck x X c h).pe
  | .rng1 a, ck, tg, x, X, c, h => by
    unfold cI at h
    split at h
    · rename_i y p z kws pos
      obtain ⟨h, h5⟩ := and2 h
      obtain ⟨h, h4⟩ := and2 h
      obtain ⟨h, h3⟩ := and2 h
      obtain ⟨h1, h2⟩ := and2 h
      obtain rfl : kws = [] := List.isEmpty_iff.mp h3
      obtain rfl : y = "range" := of_decide_eq_true h1
      exact i_rng1 (c.gl h2) (c.free _ (by decide)) h4 (sE a ck z X c h5).pe
    · cases h
  | .rng2 a b, ck, tg, x, X, c, h => by
    unfold cI at h
    split at h
    · rename_i y p z w kws pos
      obtain ⟨h, h7⟩ := and2 h
      obtain ⟨h, h6⟩ := and2 h
      obtain ⟨h, h5⟩ := and2 h
      obtain ⟨h, h4⟩ := and2 h
      obtain ⟨h, h3⟩ := and2 h
      obtain ⟨h1, h2⟩ := and2 h
      obtain rfl : kws = [] := List.isEmpty_iff.mp h3
      obtain rfl : y = "range" := of_decide_eq_true h1
      exact i_rng2 (c.gl h2) (c.free _ (by decide)) h4 h5 (sE a ck z X c h6).pe (sE b ck w X c h7).pe
    · cases h
  | .rng3 a b d, ck, tg, x, X, c, h => by
    unfold cI at h
    split at h
    · rename_i y p z w v kws pos
      obtain ⟨h, h9⟩ := and2 h
      obtain ⟨h, h8⟩ := and2 h
      obtain ⟨h, h7⟩ := and2 h
      obtain ⟨h, h6⟩ := and2 h
      obtain ⟨h, h5⟩ := and2 h
      obtain ⟨h, h4⟩ := and2 h
      obtain ⟨h, h3⟩ := and2 h
      obtain ⟨h1, h2⟩ := and2 h
      obtain rfl : kws = [] := List.isEmpty_iff.mp h3
      obtain rfl : y = "range" := of_decide_eq_true h1
      exact i_rng3 (c.gl h2) (c.free _ (by decide)) h4 h5 h6 (sE a ck z X c h7).pe (sE b ck w X c h8).pe (sE d ck v X c h9).pe
    · cases h
  | .enum a, ck, tg, x, X, c, h => by
    unfold cI at h
    split at h
    · rename_i y p z kws pos
      obtain ⟨h, h6⟩ := and2 h
      obtain ⟨h, h5⟩ := and2 h
      obtain ⟨h, h4⟩ := and2 h
      obtain ⟨h, h3⟩ := and2 h
      obtain ⟨h1, h2⟩ := and2 h
      obtain rfl : kws = [] := List.isEmpty_iff.mp h4
      obtain rfl : y = "enumerate" := of_decide_eq_true h2
      obtain ⟨es, k, pp, rfl⟩ := isTupE_of h1
      exact i_enum (c.gl h3) (c.free _ (by decide)) h5 (sE a ck z X c h6).pe
    · cases h
  | .zip a b, ck, tg, x, X, c, h => by
    unfold cI at h
    split at h
    · rename_i y p z w kws pos
      obtain ⟨h, h8⟩ := and2 h
      obtain ⟨h, h7⟩ := and2 h
      obtain ⟨h, h6⟩ := and2 h
      obtain ⟨h, h5⟩ := and2 h
      obtain ⟨h, h4⟩ := and2 h
      obtain ⟨h, h3⟩ := and2 h
      obtain ⟨h1, h2⟩ := and2 h
      obtain rfl : kws = [] := List.isEmpty_iff.mp h4
      obtain rfl : y = "zip" := of_decide_eq_true h2
      obtain ⟨es, k, pp, rfl⟩ := isTupE_of h1
      exact i_zip (c.gl h3) (c.free _ (by decide)) h5 h6 (sE a ck z X c h7).pe (sE b ck w X c h8).pe
    · cases h
end
end
end Pz
namespace Pz
open PySem PySem.Spec PyProof.Rows L2

/-! ### statements: the check -/
def isStarE : Expr → Bool
  | .Starred .. => true
  | _ => false
def locNames (sc : Scope) (line : Nat) (ts : List Expr) : List Str := ts.filterMap fun t => match t with
  | .Name id pos => if sc.names.lookup id == some .local && pos.line == line then some id else none
  | _ => none
/-- what swappedStores says, where it is sure -/
def swP (sc : Scope) (tg x : Expr) : Option (Option (List Str)) := match tg with
  | .Tuple ts _ _ => match x with
    | .Tuple vs _ _ =>
      if (!(ts.length == 2 || ts.length == 3) || vs.length != ts.length) = true then some none
      else if vs.any isStarE = true then some none
      else if ((locNames sc ((ts.head?.map (·.pos.line)).getD 0) ts).length != ts.length || (locNames sc ((ts.head?.map (·.pos.line)).getD 0) ts).eraseDups.length != (locNames sc ((ts.head?.map (·.pos.line)).getD 0) ts).length) = true then some none
      else if vs.all (foldedForSure 8) = true then some none
      else if vs.all (constantsAlone 8) = true then none
      else some (some (locNames sc ((ts.head?.map (·.pos.line)).getD 0) ts))
    | _ => some none
  | .List _ _ => none
  | _ => some none
theorem sw_eq {env : Env} (hk : env.scope.kind = .function) {tg x : Expr} {o : Option (List Str)} (h : swP env.scope tg x = some o) : swappedStores [tg] x env = pure o := by
  have hb : env.blockKind = .function := by unfold Env.blockKind; rw [hk]; rfl
  cases tg with
  | Tuple ts k p =>
    cases x with
    | Tuple vs k2 p2 =>
      have h : (if (!(ts.length == 2 || ts.length == 3) || vs.length != ts.length) = true then some none
        else if vs.any isStarE = true then some none
        else if ((locNames env.scope ((ts.head?.map (·.pos.line)).getD 0) ts).length != ts.length || (locNames env.scope ((ts.head?.map (·.pos.line)).getD 0) ts).eraseDups.length != (locNames env.scope ((ts.head?.map (·.pos.line)).getD 0) ts).length) = true then some none
        else if vs.all (foldedForSure 8) = true then some none
        else if vs.all (constantsAlone 8) = true then none
        else some (some (locNames env.scope ((ts.head?.map (·.pos.line)).getD 0) ts))) = some o := h
      have e : swappedStores [.Tuple ts k p] (.Tuple vs k2 p2) env = (if (!(ts.length == 2 || ts.length == 3) || vs.length != ts.length || env.blockKind != .function) = true then pure none
        else if vs.any isStarE = true then pure none
        else if ((locNames env.scope ((ts.head?.map (·.pos.line)).getD 0) ts).length != ts.length || (locNames env.scope ((ts.head?.map (·.pos.line)).getD 0) ts).eraseDups.length != (locNames env.scope ((ts.head?.map (·.pos.line)).getD 0) ts).length) = true then pure none
        else if vs.all (foldedForSure 8) = true then pure none
        else if vs.all (constantsAlone 8) = true then (do unsupported "assign.tuple-of-constant-expressions:order-of-the-stores"; pure (some (locNames env.scope ((ts.head?.map (·.pos.line)).getD 0) ts)))
        else pure (some (locNames env.scope ((ts.head?.map (·.pos.line)).getD 0) ts))) := by
        rfl
      rw [e, hb]
      have e2 : ((!(ts.length == 2 || ts.length == 3) || vs.length != ts.length || (ScopeKind.function != ScopeKind.function))) = (!(ts.length == 2 || ts.length == 3) || vs.length != ts.length) := by
        rw [show (ScopeKind.function != ScopeKind.function) = false from rfl, Bool.or_false]
      rw [e2]
      split at h
      · rename_i h1; rw [if_pos h1]; cases h; rfl
      · rename_i h1
        rw [if_neg h1]
        split at h
        · rename_i h1; rw [if_pos h1]; cases h; rfl
        · rename_i h1
          rw [if_neg h1]
          split at h
          · rename_i h1; rw [if_pos h1]; cases h; rfl
          · rename_i h1
            rw [if_neg h1]
            split at h
            · rename_i h1; rw [if_pos h1]; cases h; rfl
            · rename_i h1
              rw [if_neg h1]
              split at h
              · cases h
              · rename_i h1
                rw [if_neg h1]
                cases h
                rfl
    | _ => cases h; rfl
  | List _ _ => cases h
  | _ => cases h; cases x <;> rfl
/-- a comprehension, or one that is thawed -/
def isLc : IEx → Bool
  | .comp _ _ _ _ _ => true
  | .thaw (.comp _ _ _ _ _) => true
  | .never => true
  | _ => false
def locS (sc : Scope) (x : Str) : Bool := match sc.names.lookup x with
  | some .local => true
  | _ => false
def cPar (tb : Tb) (ck : Ck) (is : List Nat) (es : List IEx) : Stmt → Bool
  | .Assign [.Tuple [.Name x px, .Name y py] kt pt] (.Tuple [a, b] k2 p2) _ => match is with
    | [i, j] => decide (ck.N[i]? = some x) && decide (ck.N[j]? = some y) && decide (i ≠ j) && locS ck.sc x && locS ck.sc y && decide (swP ck.sc (.Tuple [.Name x px, .Name y py] kt pt) (.Tuple [a, b] k2 p2) = some (some [x, y])) && cL tb es ck [a, b]
    | _ => false
  | .Assign [.Tuple [.Name x px, .Name y py, .Name z pz] kt pt] (.Tuple [a, b, d] k2 p2) _ => match is with
    | [i, j, l] => decide (ck.N[i]? = some x) && decide (ck.N[j]? = some y) && decide (ck.N[l]? = some z) && decide (i ≠ j) && decide (i ≠ l) && decide (j ≠ l) && locS ck.sc x && locS ck.sc y && locS ck.sc z && decide (swP ck.sc (.Tuple [.Name x px, .Name y py, .Name z pz] kt pt) (.Tuple [a, b, d] k2 p2) = some (some [x, y, z])) && cL tb es ck [a, b, d]
    | _ => false
  | _ => false
def lcC (ck : Ck) : ITg → Expr → IEx → Bool
  | .nm i, .Name y _, e => isLc e && decide (ck.N[i]? = some y) && locB ck y
  | _, _, _ => false
mutual
def cS (tb : Tb) (ck : Ck) : ISt → Stmt → Bool
  | .asg t e, s => match s with
    | .Assign [tg] x _ => noStar tg && cT tb t ck tg && cE tb e ck x && decide (swP ck.sc tg x = some none) && (notLc x || notNm tg || lcC ck t tg e)
    | _ => false
  | .par is es, s => cPar tb ck is es s
  | .aug i sb e, s => match s with
    | .AugAssign (.Name y _) op x _ => decide (op = if sb then .Sub else .Add) && decide (ck.N[i]? = some y) && locB ck y && cE tb e ck x
    | _ => false
  | .ex e, s => match s with
    | .Expr x _ => notLc x && cE tb e ck x
    | _ => false
  | .ret e, s => match s with
    | .Return (some x) _ => cE tb e ck x
    | _ => false
  | .iff c a b, s => match s with
    | .If x p q _ => cE tb c ck x && cB tb ck a p && cB tb ck b q
    | _ => false
  | .whil c b, s => match s with
    | .While x p q _ => q.isEmpty && cE tb c ck x && cB tb ck b p
    | _ => false
  | .forr t it b, s => match s with
    | .For tg x p q _ => q.isEmpty && notSet x && cI tb it ck tg x && cT tb t ck tg && cB tb ck b p
    | _ => false
  | .brk, s => match s with
    | .Break _ => true
    | _ => false
  | .cont, s => match s with
    | .Continue _ => true
    | _ => false
  | .pass, s => match s with
    | .Pass _ => true
    | .Expr (.Constant (.str _) _ _) _ => true
    | _ => false
  | .never, _ => true
def cB (tb : Tb) (ck : Ck) : List ISt → List Stmt → Bool
  | [], l => l.isEmpty
  | s :: ss, l => match l with
    | st :: sts => cS tb ck s st && cB tb ck ss sts
    | [] => false
end
section
variable {tb : Tb} {fa : Nat → Addr} {cv : Nat → Dt} {Ph : Nat → List Dt → Mo Dt}
theorem lc_parts {own : List Nat} {t : ITg} {it : IIt} {cs : List IEx} {e : IEx} {ck : Ck} {x : Expr} {X : Cx} (c : CxOk tb fa cv Ph ck X) (h : cE tb (.comp own t it cs e) ck x = true) :
    ∃ elt tg iter ifs scope pos, x = .ListComp elt [⟨tg, iter, ifs, 0⟩] scope pos ∧ ∃ wi g tt te ownp, PI X tg iter wi ∧ BlkOk X.N X.env.scope scope ownp ∧
      (∀ (s : Shared) (H : Hp) (C : Addr) (cl : List (Str × Addr)) (fp : List Addr), PG (X.blk s H scope (compEnvC scope cl C X.env) fp) tg g) ∧ (∀ (s : Shared) (H : Hp) (C : Addr) (cl : List (Str × Addr)) (fp : List Addr), PTs (X.blk s H scope (compEnvC scope cl C X.env) fp) ifs tt) ∧
      (∀ (s : Shared) (H : Hp) (C : Addr) (cl : List (Str × Addr)) (fp : List Addr), PE (X.blk s H scope (compEnvC scope cl C X.env) fp) elt te) ∧ notSet iter = true ∧ ∀ σ H Q, rdF (Wd.mk X.K fa) (evE cv Ph (.comp own t it cs e)) σ H Q → tLc wi g tt te (ownp.map (·.2)) σ H Q := by
  unfold cE at h
  split at h
  · rename_i elt tg iter ifs as scope pos
    obtain ⟨h, h8⟩ := and2 h
    obtain ⟨h, h7⟩ := and2 h
    obtain ⟨h, h6⟩ := and2 h
    obtain ⟨h, h5⟩ := and2 h
    obtain ⟨h, h4⟩ := and2 h
    obtain ⟨h, h3⟩ := and2 h
    obtain ⟨h1, h2⟩ := and2 h
    obtain rfl : as = 0 := of_decide_eq_true h1
    have hbk : BlkOk X.N X.env.scope scope (ownP ck.N own) := by rw [c.N, c.sc]; exact blkOk_by h2
    have eo : (ownP ck.N own).map (·.2) = own := by unfold ownP; rw [List.map_map]; exact List.map_id' own
    have hv : ∀ i ∈ t.nms, i ∈ own := fun i hi => of_decide_eq_true (List.all_eq_true.mp h4 i hi)
    have hi := sI it ck tg iter X c h5
    have hpg := fun (s : Shared) (H : Hp) (C : Addr) (cl : List (Str × Addr)) (fp : List Addr) => sT t (ck.blk scope) tg _ (c.blk scope s H C cl fp) h6
    have hpe := fun (s : Shared) (H : Hp) (C : Addr) (cl : List (Str × Addr)) (fp : List Addr) => (sE e (ck.blk scope) elt _ (c.blk scope s H C cl fp) h8).pe
    have hpt : ∃ tt : TT, (∀ (s : Shared) (H : Hp) (C : Addr) (cl : List (Str × Addr)) (fp : List Addr), PTs (X.blk s H scope (compEnvC scope cl C X.env) fp) ifs tt) ∧ ∀ σ H Q, rdT (Wd.mk X.K fa) (evC cv Ph cs) σ H Q → tt σ H Q := by
      split at h7
      · refine ⟨tYes, fun s H C cl fp => pts_nil, ?_⟩
        rintro σ H Q ⟨io, z, r, S, cc, e2, p⟩
        dsimp only at p
        rw [evC] at p
        exact Post.here p cc rfl
      · rename_i ce y hx
        refine ⟨rdT (Wd.mk X.K fa) (evE cv Ph ce), fun s H C cl fp => pts_one (sE ce (ck.blk scope) y _ (c.blk scope s H C cl fp) h7).pt, ?_⟩
        rintro σ H Q ⟨io, z, r, S, cc, e2, p⟩
        dsimp only at p
        rw [evC] at p
        exact ⟨io, z, r, S, cc, e2, p⟩
      · cases h7
    obtain ⟨tt, htt, hw⟩ := hpt
    have e2 : evE cv Ph (.comp own t it cs e) = compK own (evI cv Ph it) (evT cv Ph t) (evC cv Ph cs) (evE cv Ph e) := by
      funext r S
      rw [evE] <;> rfl
    refine ⟨elt, tg, iter, ifs, scope, pos, rfl, iR (Wd.mk X.K fa) (evI cv Ph it), gR (Wd.mk X.K fa) t.nms (evT cv Ph t), tt, rdE (Wd.mk X.K fa) (evE cv Ph e), ownP ck.N own, hi, hbk, hpg, htt, hpe, h3, ?_⟩
    rw [e2, eo]
    intro σ H Q q
    have q2 := comp_read (X := X) (fa := fa) hv q
    refine rdG_mono q2 fun J H1 q3 D hD => ?_
    obtain ⟨W, w0, turn⟩ := q3 D hD
    refine ⟨W, w0, fun i m H2 w2 => ?_⟩
    rcases turn i m H2 w2 with hl | ⟨go, Nx, n1, step⟩
    · exact .inl hl
    · refine .inr ⟨go, Nx, n1, fun v H3 y => ?_⟩
      obtain ⟨io, z, r, S, d, cc, ee, rv, p⟩ := step v H3 y
      exact ⟨io, z, r, S, d, cc, ee, rv, p.mono fun σ2 H4 ⟨w1, q4⟩ => ⟨w1, hw _ _ _ q4⟩⟩
  · cases h
theorem comp_mk {own : List Nat} {t : ITg} {it : IIt} {cs : List IEx} {e : IEx} (r : Rho) (S : Store) : (∃ xs S', evE cv Ph (.comp own t it cs e) r S = .ok (.lst xs) S') ∨ evE cv Ph (.comp own t it cs e) r S = .bad ∨ ∃ x S', evE cv Ph (.comp own t it cs e) r S = .err x S' := by
  have e2 : evE cv Ph (.comp own t it cs e) = compK own (evI cv Ph it) (evT cv Ph t) (evC cv Ph cs) (evE cv Ph e) := by
    funext r S
    rw [evE] <;> rfl
  rw [e2]
  unfold compK
  refine bind_mk fun w S1 => ?_
  split
  · exact bind_mk fun ds S2 => .inl ⟨ds, S2, rfl⟩
  · exact .inr (.inl rfl)
/-- name = [..] by what it asks -/
theorem ps_lcAny {X : Cx} {ck : Ck} {own : List Nat} {t : ITg} {it : IIt} {cs : List IEx} {e : IEx} {x : Expr} {i : Nat} {y : Str} {py spos : Pos} (c : CxOk tb fa cv Ph ck X) (h : cE tb (.comp own t it cs e) ck x = true) (hi : ck.N[i]? = some y) (hl : locB ck y = true) :
    PS X (.Assign [.Name y py] x spos) (tAsg (rdF (Wd.mk X.K fa) (evE cv Ph (.comp own t it cs e))) (gName i)) := by
  obtain ⟨elt, tg, iter, ifs, scope, pos, rfl, wi, g, tt, te, ownp, h1, h2, h3, h4, h5, h6, h7⟩ := lc_parts c h
  obtain ⟨l1, l2⟩ := c.loc hl
  generalize hb : (X.env.blockKind == .function && X.env.kindOf y == some .local && py.line == pos.line && !(scope.names.any fun (n, k) => n == y && (k == .local || k == .cell))) = b
  have hsw : swapsWith (.ListComp elt [⟨tg, iter, ifs, 0⟩] scope pos) (some (.Name y py)) spos.line X.env = pure b := by rw [← hb]; rfl
  cases b with
  | true =>
    have hyl : X.env.scope.names.lookup y = some .local := by
      simp only [Bool.and_eq_true, beq_iff_eq] at hb
      exact hb.1.1.2
    refine psW (ps_setLc (te := te) (g := g) c.calm c.nd (c.nm hi) hyl hsw h1 h2 h3 h4 h5 (folded_no h6)) fun D σ H q => ?_
    exact h7 _ _ _ q
  | false =>
    refine psW (ps_asg (tg := .Name y py) (pe_lc (te := te) (g := g) c.calm c.nd h1 h2 h3 h4 h5 (folded_no h6)) (pg_name c.nd (c.nm hi) l1 l2) hsw rfl rfl) fun D σ H q => ?_
    exact h7 _ _ _ q
/-- name = e, by the value alone -/
theorem asg_nm {X : Cx} {e : IEx} {i : Nat} {D : Ends} {σ : L2.St} {H : Hp} (h : sR (Wd.mk X.K fa) (evS cv Ph (.asg (.nm i) e)) D σ H) : rdE (Wd.mk X.K fa) (evE cv Ph e) σ H fun v H1 => D.nx (σ.set i (some v)) H1 := by
  obtain ⟨io, z, r, S, cc, ee, p⟩ := h
  rw [evS] at p
  refine ⟨io, z, r, S, cc, ee, (Post.bind (RF := RepW _) p).mono ?_⟩
  rintro v H1 ⟨io1, S1, d, _, x1, c1, r1, p1⟩
  rw [evT] at p1
  exact Post.val p1 (.nx _) _ _ (Ext.refl _ _) c1 ((ee.ext x1).set i r1)
/-- what the statements want of the place -/
structure CxS (tb : Tb) (fa : Nat → Addr) (cv : Nat → Dt) (Ph : Nat → List Dt → Mo Dt) (ck : Ck) (X : Cx) : Prop extends CxOk tb fa cv Ph ck X where
  kind : X.env.scope.kind = .function
  own : PassesOwn (model X.prog X.w) X.A X.env X.xe
theorem locS_of {ck : Ck} {X : Cx} (c : CxOk tb fa cv Ph ck X) {y : Str} (hl : locS ck.sc y = true) : X.env.scope.names.lookup y = some .local := by
  unfold locS at hl
  rw [c.sc]
  split at hl
  · assumption
  · cases hl
theorem cPar_ok {is : List Nat} {es : List IEx} {ck : Ck} {s : Stmt} {X : Cx} (c : CxS tb fa cv Ph ck X) (h : cPar tb ck is es s = true) : PS X s (sR (Wd.mk X.K fa) (evS cv Ph (.par is es))) := by
  have e : evS cv Ph (.par is es) = fun r S => (evL cv Ph es r S).bind fun ds S1 => match setAll is ds r with | some r1 => .ok (.nx r1) S1 | none => .bad := by
    funext r S
    rw [evS] <;> rfl
  rw [e]
  unfold cPar at h
  split at h
  · split at h
    · rename_i x px y py kt pt a b k2 p2 p _ i j
      obtain ⟨h, h7⟩ := and2 h
      obtain ⟨h, h6⟩ := and2 h
      obtain ⟨h, h5⟩ := and2 h
      obtain ⟨h, h4⟩ := and2 h
      obtain ⟨h, h3⟩ := and2 h
      obtain ⟨h1, h2⟩ := and2 h
      exact st_par c.calm c.nd (c.nm (of_decide_eq_true h1)) (c.nm (of_decide_eq_true h2)) (of_decide_eq_true h3) (locS_of c.toCxOk h4) (locS_of c.toCxOk h5) (sL es ck [a, b] X c.toCxOk h7).pa (sw_eq c.kind (by rw [c.sc]; exact of_decide_eq_true h6))
    · cases h
  · split at h
    · rename_i x px y py z pz kt pt a b d k2 p2 p _ i j l
      obtain ⟨h, h11⟩ := and2 h
      obtain ⟨h, h10⟩ := and2 h
      obtain ⟨h, h9⟩ := and2 h
      obtain ⟨h, h8⟩ := and2 h
      obtain ⟨h, h7⟩ := and2 h
      obtain ⟨h, h6⟩ := and2 h
      obtain ⟨h, h5⟩ := and2 h
      obtain ⟨h, h4⟩ := and2 h
      obtain ⟨h, h3⟩ := and2 h
      obtain ⟨h1, h2⟩ := and2 h
      exact st_par3 c.calm c.nd (c.nm (of_decide_eq_true h1)) (c.nm (of_decide_eq_true h2)) (c.nm (of_decide_eq_true h3)) (of_decide_eq_true h4) (of_decide_eq_true h5) (of_decide_eq_true h6) (locS_of c.toCxOk h7) (locS_of c.toCxOk h8) (locS_of c.toCxOk h9) (sL es ck [a, b, d] X c.toCxOk h11).pa
        (sw_eq c.kind (by rw [c.sc]; exact of_decide_eq_true h10))
    · cases h
  · cases h
mutual
theorem sS : ∀ (st : ISt) (ck : Ck) (s : Stmt) (X : Cx), CxS tb fa cv Ph ck X → cS tb ck st s = true → PS X s (sR (Wd.mk X.K fa) (evS cv Ph st))
  | .asg t e, ck, s, X, c, h => by
    unfold cS at h
    split at h
    · rename_i tg x p
      obtain ⟨h, h5⟩ := and2 h
      obtain ⟨h, h4⟩ := and2 h
      obtain ⟨h, h3⟩ := and2 h
      obtain ⟨h1, h2⟩ := and2 h
      have hsw := sw_eq (x := x) c.kind (by rw [c.sc]; exact of_decide_eq_true h4)
      cases hn : (notLc x || notNm tg) with
      | true =>
        have q := st_asg (t := t) (pos := p) (sE e ck x X c.toCxOk h3).pe (sT t ck tg X c.toCxOk h2) hn hsw h1
        have e2 : evS cv Ph (.asg t e) = fun r S => (evE cv Ph e r S).bind fun d S1 => (evT cv Ph t d r S1).bind fun r1 S2 => .ok (.nx r1) S2 := by
          funext r S
          rw [evS] <;> rfl
        rw [e2]
        exact q
      | false =>
        rw [hn] at h5
        have h5 : lcC ck t tg e = true := h5
        cases t with
        | tup _ => cases h5
        | sub _ _ => cases h5
        | nm i =>
          cases tg with
          | Name y py =>
            have h5 : (isLc e && decide (ck.N[i]? = some y) && locB ck y) = true := h5
            obtain ⟨h5, h8⟩ := and2 h5
            obtain ⟨h6, h7⟩ := and2 h5
            cases e with
            | comp own t it cs e =>
              refine psW (ps_lcAny c.toCxOk h3 (of_decide_eq_true h7) h8) fun D σ H q => ?_
              exact rdF_of comp_mk (asg_nm q)
            | never =>
              refine psW ps_never fun D σ H q => ?_
              obtain ⟨io, z, r, S, cc, ee, p⟩ := asg_nm q
              rw [evE] at p
              exact p
            | thaw e =>
              cases e with
              | comp own t it cs e =>
                have h3 : ((IEx.comp own t it cs e).mk && cE tb (.comp own t it cs e) ck x) = true := by
                  unfold cE at h3
                  exact h3
                refine psW (ps_lcAny c.toCxOk (and2 h3).2 (of_decide_eq_true h7) h8) fun D σ H q => ?_
                have q2 := asg_nm q
                refine rdF_thaw ?_
                obtain ⟨io, z, r, S, cc, ee, p⟩ := q2
                rw [evE] at p
                exact ⟨io, z, r, S, cc, ee, p⟩
              | _ => cases h6
            | _ => cases h6
          | _ => cases h5
    · cases h
  | .par is es, ck, s, X, c, h => by
    unfold cS at h
    exact cPar_ok c h
  | .aug i sb e, ck, s, X, c, h => by
    unfold cS at h
    split at h
    · rename_i y py op x p
      obtain ⟨h, h4⟩ := and2 h
      obtain ⟨h, h3⟩ := and2 h
      obtain ⟨h1, h2⟩ := and2 h
      obtain rfl : op = if sb then .Sub else .Add := of_decide_eq_true h1
      obtain ⟨l1, l2⟩ := c.loc h3
      have e2 : evS cv Ph (.aug i sb e) = fun r S => (getR r i S).bind fun x S1 => (evE cv Ph e r S1).bind fun y S2 => match augK sb x y with
          | some d => .ok (.nx (r.set i (some d))) S2
          | none => .bad := by
        funext r S
        rw [evS] <;> rfl
      rw [e2]
      exact st_aug c.nd (c.nm (of_decide_eq_true h2)) l1 (sE e ck x X c.toCxOk h4).pe l2
    · cases h
  | .ex e, ck, s, X, c, h => by
    unfold cS at h
    split at h
    · rename_i x p
      obtain ⟨h1, h2⟩ := and2 h
      have e2 : evS cv Ph (.ex e) = fun r S => (evE cv Ph e r S).bind fun _ S1 => .ok (.nx r) S1 := by
        funext r S
        rw [evS] <;> rfl
      rw [e2]
      exact st_ex h1 (sE e ck x X c.toCxOk h2).pe
    · cases h
  | .ret e, ck, s, X, c, h => by
    unfold cS at h
    split at h
    · rename_i x p
      have e2 : evS cv Ph (.ret e) = fun r S => (evE cv Ph e r S).bind fun d S1 => .ok (.rt d) S1 := by
        funext r S
        rw [evS] <;> rfl
      rw [e2]
      exact st_ret (sE e ck x X c.toCxOk h).pe
    · cases h
  | .iff d a b, ck, s, X, c, h => by
    unfold cS at h
    split at h
    · rename_i x p q pos
      obtain ⟨h, h3⟩ := and2 h
      obtain ⟨h1, h2⟩ := and2 h
      have e2 : evS cv Ph (.iff d a b) = fun r S => (toB (evE cv Ph d r S)).bind fun k S1 => if k = true then evB cv Ph a r S1 else evB cv Ph b r S1 := by
        funext r S
        rw [evS] <;> rfl
      rw [e2]
      exact st_if (sE d ck x X c.toCxOk h1).pt (sB a ck p X c h2) (sB b ck q X c h3)
    · cases h
  | .whil d b, ck, s, X, c, h => by
    unfold cS at h
    split at h
    · rename_i x p q pos
      obtain ⟨h, h3⟩ := and2 h
      obtain ⟨h1, h2⟩ := and2 h
      obtain rfl : q = [] := List.isEmpty_iff.mp h1
      have e2 : evS cv Ph (.whil d b) = fun r S => whileF (evE cv Ph d) (evB cv Ph b) bigFuel r S := by
        funext r S
        rw [evS] <;> rfl
      rw [e2]
      exact st_while c.own (sE d ck x X c.toCxOk h2).pt (sB b ck p X c h3) _
    · cases h
  | .forr t it b, ck, s, X, c, h => by
    unfold cS at h
    split at h
    · rename_i tg x p q pos
      obtain ⟨h, h5⟩ := and2 h
      obtain ⟨h, h4⟩ := and2 h
      obtain ⟨h, h3⟩ := and2 h
      obtain ⟨h1, h2⟩ := and2 h
      obtain rfl : q = [] := List.isEmpty_iff.mp h1
      have e2 : evS cv Ph (.forr t it b) = fun r S => (evI cv Ph it r S).bind fun w S1 => forF (evT cv Ph t) (evB cv Ph b) w.src w.items r S1 := by
        funext r S
        rw [evS] <;> rfl
      rw [e2]
      exact st_for c.own c.calm (sI it ck tg x X c.toCxOk h3) (sT t ck tg X c.toCxOk h4) (sB b ck p X c h5) h2
    · cases h
  | .brk, ck, s, X, c, h => by
    unfold cS at h
    have e2 : evS cv Ph .brk = fun r S => .ok (.bk r) S := by
      funext r S
      rw [evS]
    rw [e2]
    split at h
    · exact st_break
    · cases h
  | .cont, ck, s, X, c, h => by
    unfold cS at h
    have e2 : evS cv Ph .cont = fun r S => .ok (.ct r) S := by
      funext r S
      rw [evS]
    rw [e2]
    split at h
    · exact st_cont
    · cases h
  | .pass, ck, s, X, c, h => by
    unfold cS at h
    have e2 : evS cv Ph .pass = fun r S => .ok (.nx r) S := by
      funext r S
      rw [evS]
    rw [e2]
    split at h
    · exact st_pass
    · exact st_doc
    · cases h
  | .never, ck, s, X, c, h => by
    have e2 : evS cv Ph .never = fun _ _ => .bad := by
      funext r S
      rw [evS]
    rw [e2]
    exact st_never
theorem sB : ∀ (ss : List ISt) (ck : Ck) (l : List Stmt) (X : Cx), CxS tb fa cv Ph ck X → cB tb ck ss l = true → PSs X l (sR (Wd.mk X.K fa) (evB cv Ph ss))
  | [], ck, l, X, c, h => by
    unfold cB at h
    obtain rfl : l = [] := List.isEmpty_iff.mp h
    have e2 : evB cv Ph [] = fun r S => .ok (.nx r) S := by
      funext r S
      rw [evB]
    rw [e2]
    exact ss_nil
  | s :: ss, ck, l, X, c, h => by
    unfold cB at h
    cases l with
    | nil => cases h
    | cons st sts =>
      obtain ⟨h1, h2⟩ := and2 h
      have e2 : evB cv Ph (s :: ss) = seqK2 (evS cv Ph s) (evB cv Ph ss) := by
        funext r S
        rw [evB] <;> rfl
      rw [e2]
      exact ss_cons (sS s ck st X c h1) (sB ss ck sts X c h2)
end
end
end Pz
namespace Pz
open PySem PySem.Spec PyProof.Rows L2

/-! ### defs -/
def CXn : CXT := fun _ _ _ _ _ _ => False
def EXn : XK := fun _ _ _ => False
theorem permD_cons {α : Type} {i : Nat} {pm : List Nat} {ds es : List α} : permD (i :: pm) ds = some es ↔ ∃ d r, ds[i]? = some d ∧ permD pm ds = some r ∧ es = d :: r := by
  unfold permD
  rw [List.mapM_cons]
  cases h1 : ds[i]? with
  | none => simp
  | some d =>
    cases h2 : List.mapM (fun i => ds[i]?) pm with
    | none => simp [h2]
    | some r => simp [h2, eq_comm]
theorem permD_reps {W : Wd} {H : Hp} {io z : List Addr} {ds : List Dt} {vs : List V} (h : Reps W H io z ds vs) : ∀ {pm : List Nat} {es : List Dt}, permD pm ds = some es → ∃ ws, permD pm vs = some ws ∧ Reps W H io z es ws
  | [], es, e => by cases e; exact ⟨[], rfl, rfl⟩
  | i :: pm, es, e => by
    obtain ⟨d, r, h1, h2, rfl⟩ := permD_cons.mp e
    obtain ⟨v, h3, h4⟩ := h.get h1
    obtain ⟨ws, h5, h6⟩ := permD_reps h h2
    exact ⟨v :: ws, permD_cons.mpr ⟨v, ws, h3, h5, rfl⟩, .cons h4 h6⟩
theorem permD_vals {vs : List V} {us : List Value} (h : Vals vs us) : ∀ {pm : List Nat} {ws : List V}, permD pm vs = some ws → ∃ xs, permD pm us = some xs ∧ Vals ws xs
  | [], ws, e => by cases e; exact ⟨[], rfl, .nil⟩
  | i :: pm, ws, e => by
    obtain ⟨d, r, h1, h2, rfl⟩ := permD_cons.mp e
    obtain ⟨v, h3, h4⟩ := h.get h1
    obtain ⟨xs, h5, h6⟩ := permD_vals h h2
    exact ⟨v :: xs, permD_cons.mpr ⟨v, xs, h3, h5, rfl⟩, .cons h4 h6⟩

/-- a def as the text has it, and its run -/
structure DefOk (K : PySem.W.Frag) (tb : Tb) (f : IFn) (fa : Addr) (fd : FuncData) (ps : List Str) : Prop where
  ex : ∃ (x qual : Str) (params : Arguments) (body : List Stmt) (scope : Scope) (N : List Str), FunD K x qual params body scope [] [] fa fd ∧ FnScope N ps scope ∧ f.sz = N.length ∧ cB tb ⟨N, scope, fun _ => true⟩ f.body body = true
  ar : ps.length = f.ar
  bd : Binds K fd ps []
/-- the program's text and what it stands for -/
structure PgOk (P : Program) (w : World) (K : PySem.W.Frag) (mg : Str → Option Value) (base : Heap) (tb : Tb) (fa : Nat → Addr) (fd : Nat → FuncData) (ps : Nat → List Str) (cv : Nat → Dt) (fs : Nat → Option IFn) : Prop where
  defs : ∀ k f, fs k = some f → DefOk K tb f (fa k) (fd k) (ps k)
  kwb : ∀ t ∈ tb.kw, ∀ (s : Shared) (ws es : List Value), K.In s.heap → ws.length = t.2.1.length → permD t.2.2 ws = some es → BindsTo s (fd t.1) ⟨[], t.2.1.zip ws⟩ ((ps t.1).zip es)
  fns : ∀ (k : Nat) (x : Str), tb.fn[k]? = some x → mg x = some (.ref (fa k)) ∧ PySem.W.keepIn K (.ref (fa k)) = true ∧ (x == ("__debug__" : Str)) = false
  cns : ∀ (k : Nat) (x : Str), tb.cn[k]? = some x → (x == ("__debug__" : Str)) = false ∧ ∃ u v, mg x = some u ∧ RelV v u ∧ ∀ H io z, Rep (Wd.mk K fa) H io z (cv k) v
  free : ∀ x ∈ bltFree, mg x = none
  gcd : mg "gcd" = some (.builtin "math.gcd")
section
variable {P : Program} {w : World} {K : PySem.W.Frag} {mg : Str → Option Value} {base : Heap} {tb : Tb} {fa : Nat → Addr} {fd : Nat → FuncData} {ps : Nat → List Str} {cv : Nat → Dt} {fs : Nat → Option IFn}
def FnP (P : Program) (w : World) (K : PySem.W.Frag) (mg : Str → Option Value) (base : Heap) (fa : Nat → Addr) (fd : Nat → FuncData) (ps : Nat → List Str) (cv : Nat → Dt) (fs : Nat → Option IFn) (n : Nat) : Prop :=
  ∀ (k : Nat) (f : IFn), fs k = some f → ∀ (A : Around) (outer : List Env) (s : Shared) (H : Hp) (args : Args) (us : List Value) (vs : List V) (Q : VK), Room n A → A.guards = some [] → Env0 P w K mg base A outer s H → BindsTo s (fd k) args ((ps k).zip us) → Vals vs us →
    rP (Wd.mk K fa) (phi cv fs n k) vs H Q → codeAny (model P w) A (.call (.ref (fa k)) args) (CR CXn outer P w H s Q EXn) s
theorem phi_ok {n k : Nat} {ds : List Dt} {S S' : Store} {d : Dt} (h : phi cv fs n k ds S = .ok d S') : ∃ m f, n = m + 1 ∧ fs k = some f ∧ ds.length = f.ar := by
  cases n with
  | zero => cases h
  | succ m =>
    have h : (match fs k with | some f => evF cv (phi cv fs m) f ds S | none => .bad) = .ok d S' := h
    cases q : fs k with
    | none => rw [q] at h; cases h
    | some f =>
      rw [q] at h
      refine ⟨m, f, rfl, rfl, ?_⟩
      have h : (if ds.length == f.ar then (evB cv (phi cv fs m) f.body (ds.map some ++ List.replicate (f.sz - f.ar) none) S).bind fun o S1 => match o with
        | .nx _ => .ok .non S1
        | .rt d => .ok d S1
        | _ => .bad else .bad) = .ok d S' := h
      split at h
      · rename_i e; exact eq_of_beq e
      · cases h
theorem runP {X : Cx} (hP : FnP X.prog X.w X.K X.mg X.base fa fd ps cv fs n) {k : Nat} {f : IFn} (hf : fs k = some f) (hr : Room n X.A) (hg : X.A.guards = some []) {pins : List (Addr × Obj)} {σ : L2.St} {H : Hp} {s : Shared} {Q : VK} {us : List Value} {vs : List V} {pa : List Value} {kw : List (Str × Value)}
    (hb : BindsTo s (fd k) ⟨pa, kw⟩ ((ps k).zip us)) (I : L2.Inv X pins σ H s) (r : Vals vs us) (h : rP (Wd.mk X.K fa) (phi cv fs n k) vs H Q) : wpAny (model X.prog X.w) X.A (call (.ref (fa k)) pa kw) (EP X pins σ Q) X.xe s := by
  refine wpAny_call (codeAny_mono (hP k f hf X.A X.stack s H ⟨pa, kw⟩ us vs Q hr hg I.env0 hb r h) fun r s' hq => ?_)
  cases r with
  | error e => exact (show False from hq).elim
  | ok fl =>
    cases fl with
    | ret u => exact I.after hq
    | next => exact False.elim hq
    | brk => exact False.elim hq
    | cont => exact False.elim hq
theorem calls_of {n : Nat} (G : PgOk P w K mg base tb fa fd ps cv fs) (hP : FnP P w K mg base fa fd ps cv fs n) {X : Cx} (e1 : X.prog = P) (e2 : X.w = w) (e3 : X.K = K) (e4 : X.mg = mg) (e5 : X.base = base) (hr : Room n X.A) (hg : X.A.guards = some []) :
    Calls1 X fa (phi cv fs n) ∧ ∀ t ∈ tb.kw, CallsK X fa (phi cv fs n) t := by
  subst e1 e2 e3 e4 e5
  constructor
  · intro k pins s σ H vs us Q I r h
    obtain ⟨io, z, S, ds, c, rs, p⟩ := h
    obtain ⟨d, S', hd⟩ := post_ok p
    obtain ⟨m, f, rfl, hf, hl⟩ := phi_ok hd
    have D := G.defs k f hf
    have hb : BindsTo s (fd k) ⟨us, []⟩ ((ps k).zip us) := by
      have q := D.bd s us I.kIn (by rw [List.append_nil, ← r.length, rs.length, hl, D.ar])
      rw [List.append_nil] at q
      exact q
    exact runP hP hf hr hg hb I r ⟨io, z, S, ds, c, rs, p⟩
  · intro t ht pins s σ H vs us Q I r hl h
    obtain ⟨io, z, S, ds, c, rs, p⟩ := h
    unfold permK at p
    cases q : permD t.2.2 ds with
    | none => rw [q] at p; exact p.elim
    | some es =>
      rw [q] at p
      obtain ⟨ws, h1, h2⟩ := permD_reps rs q
      obtain ⟨xs, h3, h4⟩ := permD_vals r h1
      obtain ⟨d, S', hd⟩ := post_ok (show Post _ (RepW _) _ _ _ (phi cv fs n t.1 es S) Q from p)
      obtain ⟨m, f, rfl, hf, hl2⟩ := phi_ok hd
      exact runP hP hf hr hg (G.kwb t ht s us xs I.kIn hl h3) I h4 ⟨io, z, S, es, c, h2, p⟩
theorem start_env {W : Wd} {H : Hp} {io z : List Addr} {ds : List Dt} {vs : List V} (r : Reps W H io z ds vs) {N : List Str} {sz ar : Nat} (h1 : sz = N.length) (h2 : ds.length = ar) : EnvR W H io z (ds.map some ++ List.replicate (sz - ar) none) (L2.start N vs) := by
  have hl := r.length
  refine ⟨?_, fun i d hi => ?_⟩
  · unfold L2.start
    rw [List.length_append, List.length_append, List.length_map, List.length_map, List.length_replicate, List.length_replicate, h1, hl, h2]
  · unfold L2.start
    by_cases hlt : i < ds.length
    · rw [List.getElem?_append_left (by rw [List.length_map]; exact hlt), List.getElem?_map] at hi
      rw [List.getElem?_append_left (by rw [List.length_map, hl]; exact hlt), List.getElem?_map]
      cases q : ds[i]? with
      | none => rw [q] at hi; cases hi
      | some e =>
        rw [q] at hi
        cases hi
        obtain ⟨v, h3, h4⟩ := r.get q
        exact ⟨v, by rw [h3]; rfl, h4⟩
    · rw [List.getElem?_append_right (by rw [List.length_map]; omega), List.getElem?_replicate] at hi
      split at hi <;> cases hi
theorem post_end {W : Wd} {io z : List Addr} {H : Hp} {R : Res Out} {Q : VK} (p : Post W (RepW W) io z H (R.bind fun o S1 => match o with
        | .nx _ => .ok .non S1
        | .rt d => .ok d S1
        | _ => .bad) Q) : Post W (RO W) io z H R (endQ { nx := fun _ H' => Q .non H', rt := Q }) := by
  cases R with
  | bad => exact p
  | err _ _ => exact p
  | ok o S1 =>
    cases o with
    | nx r =>
      intro v H' io' x c ro
      cases v with
      | nx σ => exact Post.val p .non H' io' x c rfl
      | _ => exact ro.elim
    | rt d =>
      intro v H' io' x c ro
      cases v with
      | rt w => exact Post.val p w H' io' x c ro
      | _ => exact ro.elim
    | bk _ => exact p.elim
    | ct _ => exact p.elim
theorem fnP_all (G : PgOk P w K mg base tb fa fd ps cv fs) : ∀ n, FnP P w K mg base fa fd ps cv fs n
  | 0 => by
    intro k f hf A outer s H args us vs Q hr hg e0 hb r h
    obtain ⟨io, z, S, ds, c, rs, p⟩ := h
    exact p.elim
  | n + 1 => by
    have ih := fnP_all G n
    intro k f hf A outer s H args us vs Q hr hg e0 hb r h
    obtain ⟨io, z, S, ds, c, rs, p⟩ := h
    have D := G.defs k f hf
    obtain ⟨x, qual, params, body, scope, N, F, FS, hsz, hck⟩ := D.ex
    obtain ⟨oc, od, dV, kV, doc, pm, an, cdv, ct, osl, efd, lk, hcd, _, _⟩ := F.ex
    rw [efd] at hb lk
    have p : Post (Wd.mk K fa) (RepW (Wd.mk K fa)) io z H (match fs k with | some f => evF cv (phi cv fs n) f ds S | none => .bad) Q := p
    rw [hf] at p
    have p : Post (Wd.mk K fa) (RepW (Wd.mk K fa)) io z H (if ds.length == f.ar then (evB cv (phi cv fs n) f.body (ds.map some ++ List.replicate (f.sz - f.ar) none) S).bind fun o S1 => match o with
        | .nx _ => .ok .non S1
        | .rt d => .ok d S1
        | _ => .bad else .bad) Q := p
    split at p
    · rename_i hl
      have hl : ds.length = f.ar := eq_of_beq hl
      refine LamX.run_ofS (N := N) (ps := ps k) lk hcd FS hr e0 hb r (by rw [rs.length, hl, D.ar]) fun hr' => ?_
      refine ⟨sR (Wd.mk K fa) (evB cv (phi cv fs n) f.body), ?_, io, z, _, S, c, start_env rs hsz hl, post_end p⟩
      have gd' : (A.deeper (envOfC qual scope s.heap.objs.size (fa k) cdv)).guards = some [] := by
        first | exact hg | (simpa [Around.deeper] using hg)
      refine sB (tb := tb) f.body ⟨N, scope, fun _ => true⟩ body _ ?_ hck
      exact {
        N := rfl
        nd := FS.nd
        sc := rfl
        fn := fun _ _ => rfl
        calm := rfl
        gd := gd'
        un := hr'.units
        calls := fun X' hs => calls_of G ih hs.prog hs.w hs.K hs.mg hs.base (by rw [hs.A]; exact hr') (by rw [hs.A]; exact gd')
        fns := G.fns
        cns := G.cns
        free := G.free
        gcd := G.gcd
        kind := FS.kind
        own := PassesOwn.leaving }
    · exact p.elim
end
end Pz
namespace Pz
open PySem PySem.Spec PyProof.Rows L2

/-! ### the law's call -/
section
variable {P : Program} {w : World} {K : PySem.W.Frag} {mg mb : Str → Option Value} {tb : Tb} {fa : Nat → Addr} {fd : Nat → FuncData} {ps : Nat → List Str} {cv : Nat → Dt} {fs : Nat → Option IFn}
theorem law_callP {n k : Nat} {x : Str} {a : Addr} {s₁ : Shared} {vs : List Value} {ns : List Int} {f : IFn} {S' : Store}
    (KX : K.In s₁.heap) (hns : s₁.heap.Ns mainGlobals mg) (hb : s₁.heap.Ns builtinsNs mb) (hbb : ∀ x : Str, x ≠ "__name__" → mb x = bootBuiltins x) (hlim : s₁.heap.NoLimit) (hg : s₁.gens = #[])
    (ha : s₁.heap.get? a = some { cls := .type "list", data := .seq vs.toArray }) (hi : IntsAre vs ns) (hl : ns.length ≤ sizeLine) (hr : Room n callerA) (G : PgOk P w K mg (s₁.heap) tb fa fd ps cv fs)
    (hf : fs k = some f) (hps : ps k = [x]) (hrun : phi cv fs n k [.scr ns] [] = .ok (.bl true) S') (hgd : callerA.guards = some []) :
    codeAny (model P w) callerA (.call (.ref (fa k)) ⟨[.ref a], []⟩) (fun r s' => r = .ok (.ret (.bool true)) ∧ OldK s₁.heap s'.heap ∧ s'.os = s₁.os ∧ AllBare s'.gens) s₁ := by
  have rv := vals_ints hi
  have lenV := hi.length
  have core : ∀ H : Hp, L2.Only H → ScrAt K H ([] ++ []) a (ns.map V.int) → HOk P w H s₁.heap → (∀ b, H b ≠ none → b = a) → (H a ≠ none → K.lookup a = none) →
      codeAny (model P w) callerA (.call (.ref (fa k)) ⟨[.ref a], []⟩) (fun r s' => r = .ok (.ret (.bool true)) ∧ OldK s₁.heap s'.heap ∧ s'.os = s₁.os ∧ AllBare s'.gens) s₁ := by
    intro H hO hS hok hA hK
    have base_of : ∀ {b : Addr} {o : Obj}, s₁.heap.get? b = some o → H b = none → (hidT s₁.heap H).get? b = some o := fun e n => hidT_get e n
    have noA : ∀ {b : Addr} {o : Obj} {es : Array DictEntry} {ep : Nat}, s₁.heap.get? b = some o → o.data = .dict es ep → H b = none := fun {b o es ep} e d => by
      cases q : H b with
      | none => rfl
      | some u =>
        have e' : b = a := hA b (by rw [q]; simp)
        subst e'
        rw [ha] at e
        cases e
        have d' : Data.seq vs.toArray _ = Data.dict es ep := d
        cases d'
    have nsK : ∀ {b : Addr} {m : Str → Option Value}, s₁.heap.Ns b m → (hidT s₁.heap H).Ns b m := fun {b m} ⟨o, es, ep, e, d, r⟩ => ⟨o, es, ep, base_of e (noA e d), d, r⟩
    have hKb : K.In (hidT s₁.heap H) := fun b o e => base_of (KX b o e) (by
      cases q : H b with
      | none => rfl
      | some u =>
        have e' : b = a := hA b (by rw [q]; simp)
        subst e'
        rw [hK (by rw [q]; simp)] at e
        cases e)
    have hM : Mod K mg (hidT s₁.heap H) := ⟨hKb, nsK hns, ⟨mb, nsK hb, hbb⟩, let ⟨mc, h1, h2⟩ := hlim; ⟨mc, nsK h1, h2⟩⟩
    have e0 : Env0 P w K mg (hidT s₁.heap H) callerA [] s₁ H := ⟨rfl, hM, fun b o e => of_hidT e, Nat.le_of_eq (hidT_size _ _), trivial, fun b hb => absurd (show b ∈ ([] : List Addr) from hb) (by simp), hok, .of_eq hg⟩
    have G2 : PgOk P w K mg (hidT s₁.heap H) tb fa fd ps cv fs := ⟨G.defs, G.kwb, G.fns, G.cns, G.free, G.gcd⟩
    have D := G.defs k f hf
    have hbind : BindsTo s₁ (fd k) ⟨[.ref a], []⟩ ((ps k).zip [.ref a]) := by
      have q := D.bd s₁ [.ref a] KX (by rw [hps]; rfl)
      rw [List.append_nil] at q
      exact q
    have c0 : Cells (Wd.mk K fa) H [] [] [] := ⟨rfl, List.nodup_nil, fun p hp => absurd hp (by simp), fun p hp => absurd hp (by simp), fun n a xs h1 h2 => by simp at h1, fun xs hx => absurd hx (by simp)⟩
    have rs : Reps (Wd.mk K fa) H [] [] [.scr ns] [.ref a] := Reps.cons (show Rep (Wd.mk K fa) H [] [] (.scr ns) (.ref a) from ⟨a, rfl, hS⟩) (show Reps _ _ _ _ [] [] from rfl)
    refine codeAny_mono (fnP_all G2 n k f hf callerA [] s₁ H ⟨[.ref a], []⟩ [.ref a] [.ref a] (fun v _ => v = .bl true) hr hgd e0 hbind (.cons rfl .nil) ⟨[], [], [], [.scr ns], c0, rs, ?_⟩) fun r s' h => ?_
    · rw [hrun]
      exact fun v H' io' _ _ r => r
    · cases r with
      | error e => exact (show False from h).elim
      | ok fl =>
        cases fl with
        | next => exact False.elim h
        | brk => exact False.elim h
        | cont => exact False.elim h
        | ret u =>
          obtain ⟨v, H', os, bare, un, hok', r', q⟩ := h
          have q' : v = .bl true := q
          subst q'
          obtain rfl : u = Value.bool true := r'
          refine ⟨rfl, OldK.of_keep fun b o e => ?_, os, bare⟩
          cases q : H b with
          | none => exact un.keep b o e q (by intro z; exact absurd (show b ∈ ([] : List Addr) from z) (by simp)) (by simp)
          | some u =>
            rcases hO b with z | ⟨ob, xs, z⟩
            · rw [q] at z; cases z
            · have z2 := un.frzs b ob _ z
              obtain ⟨e1, _⟩ := hok b _ z
              obtain ⟨e2, _⟩ := hok' b _ z2
              rw [e] at e1; cases e1
              exact e2
  cases hk : K.lookup a with
  | some o =>
    have e := KX a o hk
    rw [ha] at e
    cases e
    refine core (fun _ => none) (fun _ => .inl rfl) (.inr ⟨_, vs.toArray, _, hk, rfl, rfl, rfl, by rw [List.size_toArray, lenV]; exact hl, by simpa using rv⟩) (fun b u z => by have z' : (none : Option HO) = some u := z; cases z') (fun b z => absurd rfl z) fun z => absurd rfl z
  | none =>
    refine core (fun b => if b = a then some (.frz { cls := .type "list", data := .seq vs.toArray } (.lst (ns.map V.int))) else none) (fun b => ?_) (.inl ⟨by simp, .inr ⟨{ cls := .type "list", data := .seq vs.toArray }, if_pos rfl⟩⟩) (fun b u z => ?_) (fun b z => ?_) fun _ => hk
    · by_cases hb : b = a
      · exact .inr ⟨_, _, if_pos hb⟩
      · exact .inl (if_neg hb)
    · by_cases hb : b = a
      · have z' := (if_pos hb).symm.trans z
        cases z'
        subst hb
        exact ⟨ha, by rw [List.length_map]; exact hl, vs, _, rv, ha⟩
      · have z' := (if_neg hb).symm.trans z
        cases z'
    · by_cases hb : b = a
      · exact hb
      · exact absurd (if_neg hb) z
end
theorem walkP {l : PySem.W.OpenLaw} {m n k : Nat} {q : Program} {loose : List Str} {XP : (Str → Option Value) → Heap → Prop} {YP : World → Heap → Prop} {d : DefRec} {x : Str} {tb : Tb} {ps : Nat → List Str} {cv : Nat → Dt} {fs : Nat → Option IFn}
    (hn : l.most = some m) (hn2 : m ≤ sizeLine) (hdf : d.params.defaults = []) (hr : Room n callerA) (hgd : callerA.guards = some []) (hps : ps k = [x])
    (F : ∀ (w : World) (mg : Str → Option Value) (h : Heap), YP w h → h.Ns mainGlobals mg →
      ∃ (K : PySem.W.Frag) (fa : Nat → Addr) (fd : Nat → FuncData) (f : IFn), K.In h ∧ mg d.name = some (.ref (fa k)) ∧ fs k = some f ∧ ∀ base, PgOk l.prog w K mg base tb fa fd ps cv fs)
    (hrun : ∀ ns : List Int, ns.length ≤ m → ∃ S', phi cv fs n k [.scr ns] [] = .ok (.bl true) S') :
    PySem.W.WalkO q loose XP YP l.row.toRowW d [] (fun f vs => PySem.call f vs) := by
  refine Att.attach_call hn hdf fun w s₀ s₁ mg mb fa0 o pm cd doc a vs ns G Y ho hd hcd hmg hobj hints hlen hg => ?_
  obtain ⟨K, fa, fd, f, KX, e, hf, hG⟩ := F w mg _ Y G.T.g
  rw [hmg] at e
  cases e
  obtain ⟨S', hS⟩ := hrun ns hlen
  exact law_callP KX G.T.g G.T.b G.T.builtins G.T.nolimit hg hobj hints (Nat.le_trans hlen hn2) hr (hG _) hf hps hS hgd
end Pz
namespace Pz
open PySem PySem.Spec PyProof.Rows L2

/-! ### the head: the defs, the constants -/
mutual
/-- a value of the module as plain data -/
def repB (K : PySem.W.Frag) : Dt → Value → Bool
  | .non, u => (match u with | .none => true | _ => false)
  | .bl b, u => (match u with | .bool c => decide (b = c) | _ => false)
  | .int i, u => (match u with | .int j _ => decide (i = j) | _ => false)
  | .str x, u => (match u with | .str y _ => decide (x = y) | _ => false)
  | .tup ds, u => (match u with
    | .ref a => (match K.lookup a with
      | some ⟨.type c, _, .seq its _, _⟩ => decide (c = "tuple") && decide (its.size ≤ sizeLine) && repsB K ds its.toList
      | _ => false)
    | _ => false)
  | _, _ => false
def repsB (K : PySem.W.Frag) : List Dt → List Value → Bool
  | [], us => us.isEmpty
  | d :: ds, us => (match us with
    | u :: us => repB K d u && repsB K ds us
    | [] => false)
end
mutual
theorem repB_ok {K : PySem.W.Frag} {fa : Nat → Addr} : ∀ (d : Dt) (u : Value), repB K d u = true → ∃ v, RelV v u ∧ ∀ H io z, Rep (Wd.mk K fa) H io z d v
  | .non, u, h => by
    unfold repB at h
    cases u with
    | none => exact ⟨.non, rfl, fun _ _ _ => rfl⟩
    | _ => cases h
  | .bl b, u, h => by
    unfold repB at h
    cases u with
    | bool c =>
      obtain rfl : b = c := of_decide_eq_true h
      exact ⟨.bl b, rfl, fun _ _ _ => rfl⟩
    | _ => cases h
  | .int i, u, h => by
    unfold repB at h
    cases u with
    | int j t =>
      obtain rfl : i = j := of_decide_eq_true h
      exact ⟨.int i, ⟨t, rfl⟩, fun _ _ _ => rfl⟩
    | _ => cases h
  | .str x, u, h => by
    unfold repB at h
    cases u with
    | str j t =>
      obtain rfl : x = j := of_decide_eq_true h
      exact ⟨.str x, ⟨t, rfl⟩, fun _ _ _ => rfl⟩
    | _ => cases h
  | .tup ds, u, h => by
    unfold repB at h
    cases u with
    | ref a =>
      dsimp only at h
      cases q : K.lookup a with
      | none => rw [q] at h; cases h
      | some o =>
        rw [q] at h
        obtain ⟨oc, od, dt, osl⟩ := o
        cases oc with
        | type c =>
          cases dt with
          | seq its n =>
            obtain ⟨h, h3⟩ := and2 (show (decide (c = "tuple") && decide (its.size ≤ sizeLine) && repsB K ds its.toList) = true from h)
            obtain ⟨h1, h2⟩ := and2 h
            obtain rfl : c = "tuple" := of_decide_eq_true h1
            obtain ⟨vs, r, hr⟩ := repsB_ok ds its.toList h3
            exact ⟨.ref a, rfl, fun H io z => ⟨a, vs, rfl, .inr ⟨_, its, n, q, rfl, rfl, of_decide_eq_true h2, r⟩, hr H io z⟩⟩
          | _ => cases h
        | _ => cases dt <;> cases h
    | _ => cases h
  | .lst _, _, h => by unfold repB at h; cases h
  | .dct, _, h => by unfold repB at h; cases h
  | .loc _, _, h => by unfold repB at h; cases h
  | .fn _, _, h => by unfold repB at h; cases h
  | .clo _ _, _, h => by unfold repB at h; cases h
  | .scr _, _, h => by unfold repB at h; cases h
theorem repsB_ok {K : PySem.W.Frag} {fa : Nat → Addr} : ∀ (ds : List Dt) (us : List Value), repsB K ds us = true → ∃ vs, Vals vs us ∧ ∀ H io z, Reps (Wd.mk K fa) H io z ds vs
  | [], us, h => by
    unfold repsB at h
    obtain rfl : us = [] := List.isEmpty_iff.mp h
    exact ⟨[], .nil, fun _ _ _ => rfl⟩
  | d :: ds, us, h => by
    unfold repsB at h
    cases us with
    | nil => cases h
    | cons u us =>
      obtain ⟨h1, h2⟩ := and2 h
      obtain ⟨v, r, hr⟩ := repB_ok (fa := fa) d u h1
      obtain ⟨vs, rs, hrs⟩ := repsB_ok (fa := fa) ds us h2
      exact ⟨v :: vs, .cons r rs, fun H io z => .cons (hr H io z) (hrs H io z)⟩
end
/-- the constants, gcd -/
def cnB (K : PySem.W.Frag) (cs : List (Str × Dt)) : Bool := (cs.all fun c => match PySem.W.nsIn K mainGlobals c.1 with
    | some (some u) => repB K c.2 u
    | _ => false) && decide (PySem.W.nsIn K mainGlobals "gcd" = some (some (.builtin "math.gcd")))
def obsC (n : Nat) (fa : List He.Fa) (fn : List He.DefD) (cs : List (Str × Dt)) (g : Addr → Option Obj) : He.AlD := ((He.obsDG n fa fn g).1 && cnB (He.frG g (He.asD g n)) cs, (He.obsDG n fa fn g).2)
def hookC (n : Nat) (fa : List He.Fa) (fn : List He.DefD) (cs : List (Str × Dt)) : PySem.W.Hook where
  α := He.AlD
  obs := fun s => obsC n fa fn cs s.heap.get?
  val := fun _ => He.valD fn
  says := fun _ h => ∃ K : PySem.W.Frag, K.In h ∧ He.SaysD fa fn K ∧ cnB K cs = true
  of := fun _ s e => by
    refine ⟨He.frG s.heap.get? (He.asD s.heap.get? n), He.frG_in, ?_⟩
    have e1 : ((He.obsDG n fa fn s.heap.get?).1 && cnB (He.frG s.heap.get? (He.asD s.heap.get? n)) cs) = true := congrArg (fun z : He.AlD => z.1) e
    have e2 : (He.obsDG n fa fn s.heap.get?).2 = fn.map He.DefD.val := congrArg (fun z : He.AlD => z.2) e
    obtain ⟨h1, h2⟩ := and2 e1
    exact ⟨Prod.ext h1 e2, h2⟩
  keeps := fun _ _ _ ⟨K, hK, c⟩ k => ⟨K, PySem.W.Frag.In.keeps hK k, c⟩
theorem obsC_eq {n : Nat} {fa : List He.Fa} {fn : List He.DefD} {cs : List (Str × Dt)} {g : Addr → Option Obj} {s : Shared} (h : ∀ a, g a = s.heap.get? a) : obsC n fa fn cs g = (hookC n fa fn cs).obs s := by
  have e : g = s.heap.get? := funext h
  rw [e] <;> rfl
/-- a def of the text with its run -/
structure Row where
  d : He.DefD
  N : List Str
  f : IFn
def psD (d : He.DefD) : List Str := d.params.args.map (·.arg)
structure RowOk (tb : Tb) (r : Row) : Prop where
  at2 : r.d.at_.2 = none
  sc : FnScope r.N (psD r.d) r.d.scope
  sz : r.f.sz = r.N.length
  ar : (psD r.d).length = r.f.ar
  ck : cB tb ⟨r.N, r.d.scope, fun _ => true⟩ r.f.body r.d.body = true
  dfl : r.d.dfl = []
  kwd : r.d.kwd = []
  bd : ∀ (kV doc pm : Value) (an : Option Addr) (cdv ct : Value) (us : List Value), us.length = (psD r.d).length → bindArgs (PySem.W.fnOf r.d.name r.d.qual r.d.params r.d.body r.d.scope .none kV doc pm an cdv ct) ⟨us, []⟩ = pure ((psD r.d).zip us)
  nm : (r.d.at_.1 == ("__debug__" : Str)) = false
def faOf (rows : List Row) : List He.Fa := rows.map (fun r => .glo r.d.at_.1) ++ bltFree.map .free
def psOf (rows : List Row) (k : Nat) : List Str := match rows[k]? with
  | some r => psD r.d
  | none => []
def fsOf (rows : List Row) (k : Nat) : Option IFn := (rows[k]?).map (·.f)
def cvOf (cs : List (Str × Dt)) (k : Nat) : Dt := match cs[k]? with
  | some c => c.2
  | none => .non
/-- calls by keywords bind as they should -/
def KwOk (rows : List Row) (t : Nat × List Str × List Nat) : Prop := ∃ r, rows[t.1]? = some r ∧ ∀ (kV doc pm : Value) (an : Option Addr) (cdv ct : Value) (ws es : List Value), ws.length = t.2.1.length → permD t.2.2 ws = some es →
  bindArgs (PySem.W.fnOf r.d.name r.d.qual r.d.params r.d.body r.d.scope .none kV doc pm an cdv ct) ⟨[], t.2.1.zip ws⟩ = pure ((psD r.d).zip es)
theorem pg_of {P : Program} {w : World} {K : PySem.W.Frag} {h : Heap} {mg : Str → Option Value} {rows : List Row} {cs : List (Str × Dt)} {tb : Tb} (X : K.In h) (G : h.Ns mainGlobals mg) (c : He.SaysD (faOf rows) (rows.map (·.d)) K) (cc : cnB K cs = true)
    (hfn : tb.fn = rows.map (·.d.at_.1)) (hcn : tb.cn = cs.map (·.1)) (hr : ∀ (k : Nat) (r : Row), rows[k]? = some r → RowOk tb r) (hkw : ∀ t ∈ tb.kw, KwOk rows t) (hcd : ∀ x ∈ tb.cn, (x == ("__debug__" : Str)) = false) :
    ∃ fd : Nat → FuncData, ∀ base, PgOk P w K mg base tb (fun k => He.ga K (tb.fn.getD k "")) fd (psOf rows) (cvOf cs) (fsOf rows) := by
  have hdef : ∀ k : Nat, ∃ fd : FuncData, ∀ r, rows[k]? = some r → FunD K r.d.name r.d.qual r.d.params r.d.body r.d.scope [] [] (He.ga K (tb.fn.getD k "")) fd := by
    intro k
    cases q : rows[k]? with
    | none => exact ⟨default, fun r e => by cases e⟩
    | some r =>
      obtain ⟨fd, F⟩ := c.def_ k (d := r.d) (by rw [List.getElem?_map, q]; rfl)
      refine ⟨fd, fun r' e => ?_⟩
      cases e
      have R := hr k r q
      have e1 : r.d.dvs K = [] := by unfold He.DefD.dvs; rw [R.dfl]; rfl
      have e2 : r.d.kws K = [] := by unfold He.DefD.kws; rw [R.kwd]; rfl
      have e3 : He.fAd K r.d.at_ = He.ga K (tb.fn.getD k "") := by
        have e4 : tb.fn.getD k "" = r.d.at_.1 := by
          rw [hfn, List.getD_eq_getElem?_getD, List.getElem?_map, q]; rfl
        rw [e4]
        unfold He.fAd
        rw [R.at2]
      rw [e1, e2, e3] at F
      exact F
  have glo : ∀ (k : Nat) (r : Row), rows[k]? = some r → mg r.d.at_.1 = some (.ref (He.ga K r.d.at_.1)) := fun k r q => by
    have hm : (rows.map (fun r => He.Fa.glo r.d.at_.1) ++ bltFree.map He.Fa.free)[k]? = some (.glo r.d.at_.1) := by
      have hl : k < rows.length := (List.getElem?_eq_some_iff.mp q).1
      rw [List.getElem?_append_left (by rw [List.length_map]; exact hl), List.getElem?_map, q]; rfl
    exact He.glo_ok X G (c.fact k hm)
  obtain ⟨c1, c2⟩ := and2 cc
  obtain ⟨fd, hfd⟩ : ∃ fd : Nat → FuncData, ∀ k r, rows[k]? = some r → FunD K r.d.name r.d.qual r.d.params r.d.body r.d.scope [] [] (He.ga K (tb.fn.getD k "")) (fd k) := ⟨fun k => Classical.choose (hdef k), fun k => Classical.choose_spec (hdef k)⟩
  clear hdef
  refine ⟨fd, fun base => ⟨fun k f hf => ?_, fun t ht s ws es hK hl hp => ?_, fun k x hx => ?_, fun k x hx => ?_, fun x hx => ?_, ?_⟩⟩
  · unfold fsOf at hf
    cases q : rows[k]? with
    | none => rw [q] at hf; cases hf
    | some r =>
      rw [q] at hf
      cases hf
      have F := hfd k r q
      have R := hr k r q
      have ep : psOf rows k = psD r.d := by unfold psOf; rw [q]
      refine ⟨⟨_, _, _, _, _, r.N, F, by rw [ep]; exact R.sc, R.sz, R.ck⟩, by rw [ep]; exact R.ar, ?_⟩
      rw [ep]
      exact F.bindsN R.bd
  · obtain ⟨r, q, hb⟩ := hkw t ht
    have F := hfd t.1 r q
    have ep : psOf rows t.1 = psD r.d := by unfold psOf; rw [q]
    obtain ⟨oc, od, dV, kV, doc, pm, an, cdv, ct, osl, e, lk, hcd2, hD, hK2⟩ := F.ex
    rcases hD with ⟨_, rfl⟩ | ⟨e2, _⟩
    · rw [ep, e]
      exact .of_eq (hb kV doc pm an cdv ct ws es hl hp)
    · exact absurd rfl e2
  · rw [hfn, List.getElem?_map] at hx
    cases q : rows[k]? with
    | none => rw [q] at hx; cases hx
    | some r =>
      rw [q] at hx
      cases hx
      have e4 : tb.fn.getD k "" = r.d.at_.1 := by
        rw [hfn, List.getD_eq_getElem?_getD, List.getElem?_map, q]; rfl
      have F := hfd k r q
      refine ⟨?_, F.kp, (hr k r q).nm⟩
      show mg r.d.at_.1 = some (.ref (He.ga K (tb.fn.getD k "")))
      rw [e4]
      exact glo k r q
  · have hx' := hx
    rw [hcn, List.getElem?_map] at hx
    cases q : cs[k]? with
    | none => rw [q] at hx; cases hx
    | some cst =>
      rw [q] at hx
      cases hx
      refine ⟨hcd _ (List.mem_of_getElem? hx'), ?_⟩
      have h1 := List.all_eq_true.mp c1 cst (List.mem_of_getElem? q)
      cases e : PySem.W.nsIn K mainGlobals cst.1 with
      | none => rw [e] at h1; cases h1
      | some o =>
        cases o with
        | none => rw [e] at h1; cases h1
        | some u =>
          rw [e] at h1
          obtain ⟨v, r, hr2⟩ := repB_ok (fa := fun k => He.ga K (tb.fn.getD k "")) cst.2 u h1
          have ec : cvOf cs k = cst.2 := by unfold cvOf; rw [q]
          exact ⟨u, v, PySem.W.mg_of X G e, r, by rw [ec]; exact hr2⟩
  · obtain ⟨i, hi⟩ := List.mem_iff_getElem?.mp hx
    have hm : (faOf rows)[rows.length + i]? = some (.free x) := by
      unfold faOf
      rw [List.getElem?_append_right (by rw [List.length_map]; omega), List.length_map, Nat.add_sub_cancel_left, List.getElem?_map, hi]; rfl
    exact He.free_ok X G (c.fact _ hm)
  · exact PySem.W.mg_of X G (of_decide_eq_true c2)
end Pz
namespace Pz
open PySem

/-! ### the pure run, by rewriting -/
section
variable {α β : Type} (a : α) (S : Store) (x : Exn) (f : α → Store → Res β)
@[simp] theorem bind_okS : (Res.ok a S).bind f = f a S := (rfl)
@[simp] theorem bind_errS : (Res.err x S : Res α).bind f = .err x S := (rfl)
@[simp] theorem bind_badS : (Res.bad : Res α).bind f = .bad := (rfl)
end
section
variable (cv : Nat → Dt) (Ph : Nat → List Dt → Mo Dt) (r : Rho) (S : Store)
@[simp] theorem ev_var (i : Nat) : evE cv Ph (.var i) r S = getR r i S := by rw [evE]
@[simp] theorem ev_cst (k : Nat) : evE cv Ph (.cst k) r S = .ok (cv k) S := by rw [evE]
@[simp] theorem ev_fnv (k : Nat) : evE cv Ph (.fnv k) r S = .ok (.fn k) S := by rw [evE]
@[simp] theorem ev_int (i : Int) : evE cv Ph (.int i) r S = .ok (.int i) S := by rw [evE]
@[simp] theorem ev_bl (b : Bool) : evE cv Ph (.bl b) r S = .ok (.bl b) S := by rw [evE]
@[simp] theorem ev_non : evE cv Ph .non r S = .ok .non S := by rw [evE]
@[simp] theorem ev_str (x : Str) : evE cv Ph (.str x) r S = .ok (.str x) S := by rw [evE]
@[simp] theorem ev_bin (o : BOp) (a b : IEx) : evE cv Ph (.bin o a b) r S = (evE cv Ph a r S).bind fun x S1 => (evE cv Ph b r S1).bind fun y S2 => binD S2 o x y := by rw [evE]
@[simp] theorem ev_cat (a b : IEx) : evE cv Ph (.cat a b) r S = (evE cv Ph a r S).bind fun x S1 => (evE cv Ph b r S1).bind fun y S2 => catK x y S2 := by rw [evE]
@[simp] theorem ev_rep (a b : IEx) : evE cv Ph (.rep a b) r S = (evE cv Ph a r S).bind fun x S1 => (evE cv Ph b r S1).bind fun y S2 => repK x y S2 := by rw [evE]
@[simp] theorem ev_neg (a : IEx) : evE cv Ph (.neg a) r S = (evE cv Ph a r S).bind fun x S1 => negK x S1 := by rw [evE]
@[simp] theorem ev_cmp (o : COp) (a b : IEx) : evE cv Ph (.cmp o a b) r S = (evE cv Ph a r S).bind fun x S1 => (evE cv Ph b r S1).bind fun y S2 => cmpK o x y S2 := by rw [evE]
@[simp] theorem ev_eq (ng : Bool) (a b : IEx) : evE cv Ph (.eq ng a b) r S = (evE cv Ph a r S).bind fun x S1 => (evE cv Ph b r S1).bind fun y S2 => eqD S2 ng x y := by rw [evE]
@[simp] theorem ev_is (ng : Bool) (a b : IEx) : evE cv Ph (.is_ ng a b) r S = (evE cv Ph a r S).bind fun x S1 => (evE cv Ph b r S1).bind fun y S2 => isD S2 ng x y := by rw [evE]
@[simp] theorem ev_chain (o p : COp) (a b c : IEx) : evE cv Ph (.chain o p a b c) r S = (evE cv Ph a r S).bind fun x S1 => (evE cv Ph b r S1).bind fun y S2 => chainK o p x y S2 (evE cv Ph c r) := by rw [evE]
@[simp] theorem ev_and (a b : IEx) : evE cv Ph (.and_ a b) r S = (toB (evE cv Ph a r S)).bind fun k S1 => if k = true then (toB (evE cv Ph b r S1)).bind fun k2 S2 => .ok (.bl k2) S2 else .ok (.bl false) S1 := by rw [evE]
@[simp] theorem ev_or (a b : IEx) : evE cv Ph (.or_ a b) r S = (toB (evE cv Ph a r S)).bind fun k S1 => if k = true then .ok (.bl true) S1 else (toB (evE cv Ph b r S1)).bind fun k2 S2 => .ok (.bl k2) S2 := by rw [evE]
@[simp] theorem ev_not (a : IEx) : evE cv Ph (.not_ a) r S = (toB (evE cv Ph a r S)).bind fun k S1 => .ok (.bl (!k)) S1 := by rw [evE]
@[simp] theorem ev_ite (c a b : IEx) : evE cv Ph (.ite c a b) r S = (toB (evE cv Ph c r S)).bind fun k S1 => if k = true then evE cv Ph a r S1 else evE cv Ph b r S1 := by rw [evE]
@[simp] theorem ev_tup (es : List IEx) : evE cv Ph (.tup es) r S = (evL cv Ph es r S).bind fun ds S1 => tupK ds S1 := by rw [evE]
@[simp] theorem ev_lst (es : List IEx) : evE cv Ph (.lst es) r S = (evL cv Ph es r S).bind fun ds S1 => lstK ds S1 := by rw [evE]
@[simp] theorem ev_ix (a i : IEx) : evE cv Ph (.ix a i) r S = (evE cv Ph a r S).bind fun x S1 => (evE cv Ph i r S1).bind fun y S2 => ixD S2 x y := by rw [evE]
@[simp] theorem ev_sl (a lo hi : IEx) : evE cv Ph (.sl a lo hi) r S = (evE cv Ph a r S).bind fun x S1 => (if lo.isAbs = true then .ok none S1 else (evE cv Ph lo r S1).bind partK).bind fun l S2 => (if hi.isAbs = true then .ok none S2 else (evE cv Ph hi r S2).bind partK).bind fun h S3 => slK x l h S3 := by rw [evE]
@[simp] theorem ev_slk (a lo hi : IEx) (k : Int) : evE cv Ph (.slk a lo hi k) r S = (evE cv Ph a r S).bind fun x S1 => (if lo.isAbs = true then .ok none S1 else (evE cv Ph lo r S1).bind partK).bind fun l S2 => (if hi.isAbs = true then .ok none S2 else (evE cv Ph hi r S2).bind partK).bind fun h S3 => slkK k x l h S3 := by rw [evE]
@[simp] theorem ev_call (k : Nat) (es : List IEx) : evE cv Ph (.call k es) r S = (evL cv Ph es r S).bind fun ds S1 => callR Ph k ds S1 := by rw [evE]
@[simp] theorem ev_callF (k : Nat) (es : List IEx) : evE cv Ph (.callF k es) r S = (evL cv Ph es r S).bind fun ds S1 => (Ph k ds S1).bind fun d S2 => keepK S1.length d S2 := by rw [evE]
@[simp] theorem ev_callK (k : Nat) (pm : List Nat) (es : List IEx) : evE cv Ph (.callK k pm es) r S = (evL cv Ph es r S).bind fun ds S1 => match permD pm ds with
    | some es => callR Ph k es S1
    | none => .bad := by rw [evE] <;> rfl
@[simp] theorem ev_blt (b : Blt) (es : List IEx) : evE cv Ph (.blt b es) r S = (evL cv Ph es r S).bind fun ds S1 => bltD S1 b ds := by rw [evE]
@[simp] theorem ev_listOf (a : IEx) : evE cv Ph (.listOf a) r S = (evE cv Ph a r S).bind fun x S1 => listK x S1 := by rw [evE]
@[simp] theorem ev_mth (m : Mth) (a : IEx) (es : List IEx) : evE cv Ph (.mth m a es) r S = (evE cv Ph a r S).bind fun x S1 => (evL cv Ph es r S1).bind fun ds S2 => mthD S2 m x ds := by rw [evE]
@[simp] theorem ev_divmod (a b : IEx) : evE cv Ph (.divmod a b) r S = (evE cv Ph a r S).bind fun x S1 => (evE cv Ph b r S1).bind fun y S2 => dmK x y S2 := by rw [evE]
@[simp] theorem ev_thaw (e : IEx) : evE cv Ph (.thaw e) r S = (evE cv Ph e r S).bind fun x S1 => thawK x S1 := by rw [evE]
@[simp] theorem ev_comp (own : List Nat) (t : ITg) (it : IIt) (cs : List IEx) (e : IEx) : evE cv Ph (.comp own t it cs e) r S = compK own (evI cv Ph it) (evT cv Ph t) (evC cv Ph cs) (evE cv Ph e) r S := by rw [evE] <;> rfl
@[simp] theorem evL_nil : evL cv Ph [] r S = .ok [] S := by rw [evL]
@[simp] theorem evL_cons (e : IEx) (es : List IEx) : evL cv Ph (e :: es) r S = (evE cv Ph e r S).bind fun d S1 => (evL cv Ph es r S1).bind fun ds S2 => .ok (d :: ds) S2 := by rw [evL]
@[simp] theorem evC_nil : evC cv Ph [] r S = .ok (.bl true) S := by rw [evC]
@[simp] theorem evC_one (e : IEx) : evC cv Ph [e] r S = evE cv Ph e r S := by rw [evC]
@[simp] theorem evT_nm (i : Nat) (d : Dt) : evT cv Ph (.nm i) d r S = .ok (r.set i (some d)) S := by rw [evT]
@[simp] theorem evT_tup (ts : List ITg) (xs : List Dt) : evT cv Ph (.tup ts) (.tup xs) r S = evTs cv Ph ts xs r S := by rw [evT]; rfl
@[simp] theorem evT_sub (a i : IEx) (d : Dt) : evT cv Ph (.sub a i) d r S = (evE cv Ph a r S).bind fun o S1 => (evE cv Ph i r S1).bind fun k S2 => match setD S2 o k d with
    | some S3 => .ok r S3
    | none => .bad := by rw [evT] <;> rfl
@[simp] theorem evTs_nil : evTs cv Ph [] [] r S = .ok r S := by rw [evTs]
@[simp] theorem evTs_cons (t : ITg) (ts : List ITg) (d : Dt) (ds : List Dt) : evTs cv Ph (t :: ts) (d :: ds) r S = (evT cv Ph t d r S).bind fun r1 S1 => evTs cv Ph ts ds r1 S1 := by rw [evTs]
@[simp] theorem evI_seq (e : IEx) : evI cv Ph (.seq e) r S = (evE cv Ph e r S).bind fun d S1 => seqK d S1 := by rw [evI]
@[simp] theorem evI_rng1 (a : IEx) : evI cv Ph (.rng1 a) r S = (evE cv Ph a r S).bind fun x S1 => rng1K x S1 := by rw [evI]
@[simp] theorem evI_rng2 (a b : IEx) : evI cv Ph (.rng2 a b) r S = (evE cv Ph a r S).bind fun x S1 => (evE cv Ph b r S1).bind fun y S2 => rng2K x y S2 := by rw [evI]
@[simp] theorem evI_enum (e : IEx) : evI cv Ph (.enum e) r S = (evE cv Ph e r S).bind fun d S1 => enumK d S1 := by rw [evI]
@[simp] theorem evI_zip (a b : IEx) : evI cv Ph (.zip a b) r S = (evE cv Ph a r S).bind fun x S1 => (evE cv Ph b r S1).bind fun y S2 => zipK x y S2 := by rw [evI]
@[simp] theorem evS_asg (t : ITg) (e : IEx) : evS cv Ph (.asg t e) r S = (evE cv Ph e r S).bind fun d S1 => (evT cv Ph t d r S1).bind fun r1 S2 => .ok (.nx r1) S2 := by rw [evS]
@[simp] theorem evS_par (is : List Nat) (es : List IEx) : evS cv Ph (.par is es) r S = (evL cv Ph es r S).bind fun ds S1 => match setAll is ds r with | some r1 => .ok (.nx r1) S1 | none => .bad := by rw [evS] <;> rfl
@[simp] theorem evS_aug (i : Nat) (sb : Bool) (e : IEx) : evS cv Ph (.aug i sb e) r S = (getR r i S).bind fun x S1 => (evE cv Ph e r S1).bind fun y S2 => match augK sb x y with
    | some d => .ok (.nx (r.set i (some d))) S2
    | none => .bad := by rw [evS] <;> rfl
@[simp] theorem evS_ex (e : IEx) : evS cv Ph (.ex e) r S = (evE cv Ph e r S).bind fun _ S1 => .ok (.nx r) S1 := by rw [evS]
@[simp] theorem evS_ret (e : IEx) : evS cv Ph (.ret e) r S = (evE cv Ph e r S).bind fun d S1 => .ok (.rt d) S1 := by rw [evS]
@[simp] theorem evS_iff (c : IEx) (a b : List ISt) : evS cv Ph (.iff c a b) r S = (toB (evE cv Ph c r S)).bind fun k S1 => if k = true then evB cv Ph a r S1 else evB cv Ph b r S1 := by rw [evS]
@[simp] theorem evS_whil (c : IEx) (b : List ISt) : evS cv Ph (.whil c b) r S = whileF (evE cv Ph c) (evB cv Ph b) bigFuel r S := by rw [evS]
@[simp] theorem evS_forr (t : ITg) (it : IIt) (b : List ISt) : evS cv Ph (.forr t it b) r S = (evI cv Ph it r S).bind fun w S1 => forF (evT cv Ph t) (evB cv Ph b) w.src w.items r S1 := by rw [evS]
@[simp] theorem evS_brk : evS cv Ph .brk r S = .ok (.bk r) S := by rw [evS]
@[simp] theorem evS_cont : evS cv Ph .cont r S = .ok (.ct r) S := by rw [evS]
@[simp] theorem evS_pass : evS cv Ph .pass r S = .ok (.nx r) S := by rw [evS]
@[simp] theorem evB_nil : evB cv Ph [] r S = .ok (.nx r) S := by rw [evB]
/-- the next statements, by how the one ahead left -/
def thenB (cv : Nat → Dt) (Ph : Nat → List Dt → Mo Dt) (ss : List ISt) (o : Out) (S : Store) : Res Out := match o with
  | .nx r1 => evB cv Ph ss r1 S
  | o => .ok o S
@[simp] theorem thenB_nx (ss : List ISt) : thenB cv Ph ss (.nx r) S = evB cv Ph ss r S := (rfl)
@[simp] theorem thenB_rt (ss : List ISt) (d : Dt) : thenB cv Ph ss (.rt d) S = .ok (.rt d) S := (rfl)
@[simp] theorem thenB_bk (ss : List ISt) : thenB cv Ph ss (.bk r) S = .ok (.bk r) S := (rfl)
@[simp] theorem thenB_ct (ss : List ISt) : thenB cv Ph ss (.ct r) S = .ok (.ct r) S := (rfl)
@[simp] theorem evB_cons (s : ISt) (ss : List ISt) : evB cv Ph (s :: ss) r S = (evS cv Ph s r S).bind (thenB cv Ph ss) := by rw [evB]; rfl
end
def endF (o : Out) (S : Store) : Res Dt := match o with
  | .nx _ => .ok .non S
  | .rt d => .ok d S
  | _ => .bad
@[simp] theorem endF_rt (d : Dt) (S : Store) : endF (.rt d) S = .ok d S := (rfl)
@[simp] theorem endF_nx (r : Rho) (S : Store) : endF (.nx r) S = .ok .non S := (rfl)
theorem evF_run (cv : Nat → Dt) (Ph : Nat → List Dt → Mo Dt) (f : IFn) (ds : List Dt) (S : Store) (h : ds.length = f.ar) : evF cv Ph f ds S = (evB cv Ph f.body (ds.map some ++ List.replicate (f.sz - f.ar) none) S).bind endF := by
  show (if ds.length == f.ar then _ else _) = _
  rw [if_pos (by rw [h]; exact beq_self_eq_true _)]
  rfl
theorem phi_run {cv : Nat → Dt} {fs : Nat → Option IFn} {k : Nat} {f : IFn} (hf : fs k = some f) (n : Nat) (ds : List Dt) (S : Store) (h : ds.length = f.ar) : phi cv fs (n + 1) k ds S = (evB cv (phi cv fs n) f.body (ds.map some ++ List.replicate (f.sz - f.ar) none) S).bind endF := by
  show (match fs k with | some f => evF cv (phi cv fs n) f ds S | none => .bad) = _
  rw [hf]
  exact evF_run cv _ f ds S h
@[simp] theorem toB_bl (b : Bool) (S : Store) : toB (.ok (.bl b) S) = .ok b S := (rfl)
@[simp] theorem cmpK_int (o : COp) (i j : Int) (S : Store) : cmpK o (.int i) (.int j) S = .ok (.bl (o.ev i j)) S := (rfl)
@[simp] theorem cop_lt (i j : Int) : COp.lt.ev i j = decide (i < j) := (rfl)
@[simp] theorem cop_le (i j : Int) : COp.le.ev i j = decide (i ≤ j) := (rfl)
@[simp] theorem cop_gt (i j : Int) : COp.gt.ev i j = decide (j < i) := (rfl)
@[simp] theorem cop_ge (i j : Int) : COp.ge.ev i j = decide (j ≤ i) := (rfl)
@[simp] theorem bin_add (i j : Int) (S : Store) : binD S .add (.int i) (.int j) = .ok (.int (i + j)) S := (rfl)
@[simp] theorem bin_sub (i j : Int) (S : Store) : binD S .sub (.int i) (.int j) = .ok (.int (i - j)) S := (rfl)
theorem bin_mul (i j : Int) (S : Store) (h : okMul i j = true) : binD S .mul (.int i) (.int j) = .ok (.int (i * j)) S := by
  show (if okMul i j then _ else _) = _
  rw [if_pos h]
theorem bin_fdiv (i j : Int) (S : Store) (h : okDiv i j = true) : binD S .fdiv (.int i) (.int j) = .ok (.int (i.fdiv j)) S := by
  show (if okDiv i j then _ else _) = _
  rw [if_pos h]
theorem bin_mod (i j : Int) (S : Store) (h : j ≠ 0) : binD S .mod (.int i) (.int j) = .ok (.int (i.fmod j)) S := by
  show (if decide (j ≠ 0) then _ else _) = _
  rw [if_pos (decide_eq_true h)]
@[simp] theorem negK_int (i : Int) (S : Store) : negK (.int i) S = .ok (.int (-i)) S := (rfl)
theorem tupK_ok (ds : List Dt) (S : Store) (h : ds.length ≤ 1000000) : tupK ds S = .ok (.tup ds) S := by
  unfold tupK okLen
  rw [if_pos (decide_eq_true h)]
theorem lstK_ok (ds : List Dt) (S : Store) (h : ds.length ≤ 1000000) : lstK ds S = .ok (.lst ds) S := by
  unfold lstK okLen
  rw [if_pos (decide_eq_true h)]
@[simp] theorem tupK1 (a : Dt) (S : Store) : tupK [a] S = .ok (.tup [a]) S := tupK_ok _ _ (by simp)
@[simp] theorem tupK0 (S : Store) : tupK [] S = .ok (.tup []) S := tupK_ok _ _ (by simp)
@[simp] theorem tupK2 (a b : Dt) (S : Store) : tupK [a, b] S = .ok (.tup [a, b]) S := tupK_ok _ _ (by simp)
@[simp] theorem tupK3 (a b c : Dt) (S : Store) : tupK [a, b, c] S = .ok (.tup [a, b, c]) S := tupK_ok _ _ (by simp)
@[simp] theorem tupK4 (a b c d : Dt) (S : Store) : tupK [a, b, c, d] S = .ok (.tup [a, b, c, d]) S := tupK_ok _ _ (by simp)
@[simp] theorem lstK0 (S : Store) : lstK [] S = .ok (.lst []) S := lstK_ok _ _ (by simp)
@[simp] theorem lstK1 (a : Dt) (S : Store) : lstK [a] S = .ok (.lst [a]) S := lstK_ok _ _ (by simp)
@[simp] theorem lstK2 (a b : Dt) (S : Store) : lstK [a, b] S = .ok (.lst [a, b]) S := lstK_ok _ _ (by simp)
@[simp] theorem lstK3 (a b c : Dt) (S : Store) : lstK [a, b, c] S = .ok (.lst [a, b, c]) S := lstK_ok _ _ (by simp)
/-- a callee that leaves the store as it was -/
theorem callR_pure {Ph : Nat → List Dt → Mo Dt} {k : Nat} {ds : List Dt} {S : Store} {d : Dt} (h : Ph k ds S = .ok d S) (hn : d.nl = true) : callR Ph k ds S = .ok d S := by
  unfold callR
  rw [h]
  show Res.ok (resol S.length S d) (S.take S.length) = _
  rw [resol_nl d hn, List.take_length]

/-- a callee that made lists of its own -/
theorem callR_ext {Ph : Nat → List Dt → Mo Dt} {k : Nat} {ds : List Dt} {S T : Store} {d : Dt} (h : Ph k ds S = .ok d (S ++ T)) (hn : d.nl = true) : callR Ph k ds S = .ok d S := by
  unfold callR
  rw [h]
  show Res.ok (resol S.length (S ++ T) d) ((S ++ T).take S.length) = _
  rw [resol_nl d hn, List.take_left]
/-! ### loops -/
theorem while_inv {c : Rho → Mo Dt} {body : Rho → Mo Out} (I : Nat → Rho → Store → Prop) (Fin : Rho → Store → Prop)
    (step : ∀ m r S, I m r S → (toB (c r S) = .ok false S ∧ Fin r S) ∨ ∃ S1, toB (c r S) = .ok true S1 ∧ ∃ r' S' m', body r S1 = .ok (.nx r') S' ∧ m' < m ∧ I m' r' S') :
    ∀ (fuel m : Nat) (r : Rho) (S : Store), m < fuel → I m r S → ∃ r' S', whileF c body fuel r S = .ok (.nx r') S' ∧ Fin r' S'
  | 0, m, r, S, h, _ => absurd h (Nat.not_lt_zero _)
  | fuel + 1, m, r, S, h, hi => by
    rcases step m r S hi with ⟨e, hf⟩ | ⟨S1, e, r', S', m', e2, hm, hi'⟩
    · refine ⟨r, S, ?_, hf⟩
      unfold whileF
      rw [e]
      rfl
    · obtain ⟨r2, S2, h2, hf⟩ := while_inv I Fin step fuel m' r' S' (by omega) hi'
      refine ⟨r2, S2, ?_, hf⟩
      unfold whileF
      rw [e, bind_okS, if_pos rfl, e2]
      exact h2
/-- a for loop whose body goes on -/
theorem for_inv {asg : Dt → Rho → Mo Rho} {body : Rho → Mo Out} {src : List (Nat × List Dt)} (I : List Dt → Rho → Store → Prop)
    (st : ∀ xs r S, I xs r S → still S src = true) (step : ∀ x xs r S, I (x :: xs) r S → ∃ r1 S1 r2 S2, asg x r S = .ok r1 S1 ∧ body r1 S1 = .ok (.nx r2) S2 ∧ I xs r2 S2) :
    ∀ (xs : List Dt) (r : Rho) (S : Store), I xs r S → ∃ r' S', forF asg body src xs r S = .ok (.nx r') S' ∧ I [] r' S'
  | [], r, S, h => ⟨r, S, by unfold forF; rw [if_pos (st _ _ _ h)], h⟩
  | x :: xs, r, S, h => by
    obtain ⟨r1, S1, r2, S2, e1, e2, h2⟩ := step x xs r S h
    obtain ⟨r', S', e3, h3⟩ := for_inv I st step xs r2 S2 h2
    refine ⟨r', S', ?_, h3⟩
    unfold forF
    rw [if_pos (st _ _ _ h), e1, bind_okS, e2, bind_okS]
    exact e3
/-- a comprehension that leaves the store -/
theorem comp_run {f : Dt → Mo (Option Dt)} {src : List (Nat × List Dt)} {S : Store} {g : Dt → Option Dt} (hs : still S src = true) : ∀ (xs : List Dt), (∀ x ∈ xs, f x S = .ok (g x) S) → compF f src xs S = .ok (xs.filterMap g) S
  | [], _ => by unfold compF; rw [if_pos hs]; rfl
  | x :: xs, h => by
    unfold compF
    rw [if_pos hs, h x List.mem_cons_self, bind_okS, comp_run hs xs fun y hy => h y (List.mem_cons_of_mem _ hy), bind_okS, List.filterMap_cons]
    cases g x <;> rfl
/-- a comprehension, its state known all along -/
theorem comp_inv {f : Dt → Mo (Option Dt)} {src : List (Nat × List Dt)} (I : List Dt → List Dt → Store → Prop) (st : ∀ xs ys S, I xs ys S → still S src = true)
    (step : ∀ x xs ys S, I (x :: xs) ys S → ∃ d S1, f x S = .ok (some d) S1 ∧ I xs (ys ++ [d]) S1) : ∀ (xs ys : List Dt) (S : Store), I xs ys S → ∃ zs S', compF f src xs S = .ok zs S' ∧ I [] (ys ++ zs) S'
  | [], ys, S, h => ⟨[], S, by unfold compF; rw [if_pos (st _ _ _ h)], by rw [List.append_nil]; exact h⟩
  | x :: xs, ys, S, h => by
    obtain ⟨d, S1, e1, h1⟩ := step x xs ys S h
    obtain ⟨zs, S', e2, h2⟩ := comp_inv I st step xs (ys ++ [d]) S1 h1
    refine ⟨d :: zs, S', ?_, by rw [List.append_assoc] at h2; exact h2⟩
    unfold compF
    rw [if_pos (st _ _ _ h), e1, bind_okS, e2, bind_okS]
/-! ### items -/
theorem atI_nat {α : Type} {xs : List α} {k : Nat} {a : α} (h : xs[k]? = some a) : L2.atI xs (k : Int) = some a := by
  have hl : k < xs.length := (List.getElem?_eq_some_iff.mp h).1
  unfold L2.atI L2.ixN
  rw [if_pos (by omega), if_pos (by omega)]
  simpa using h
theorem ixD_tup {S : Store} {xs : List Dt} {k : Nat} {d : Dt} (h : xs[k]? = some d) : ixD S (.tup xs) (.int k) = .ok d S := by
  unfold ixD asSeq asTup
  simp only [atI_nat h]
theorem ixD_lst {S : Store} {xs : List Dt} {k : Nat} {d : Dt} (h : xs[k]? = some d) : ixD S (.lst xs) (.int k) = .ok d S := by
  unfold ixD asSeq asTup asLst
  simp only [atI_nat h]
theorem ixD_loc {S : Store} {n : Nat} {xs : List Dt} {k : Nat} {d : Dt} (hs : S[n]? = some xs) (h : xs[k]? = some d) : ixD S (.loc n) (.int k) = .ok d S := by
  unfold ixD asSeq asTup asLst
  simp only [hs, atI_nat h]
@[simp] theorem ixD_t0 (S : Store) (a : Dt) (l : List Dt) : ixD S (.tup (a :: l)) (.int 0) = .ok a S := ixD_tup (k := 0) rfl
@[simp] theorem ixD_t1 (S : Store) (a b : Dt) (l : List Dt) : ixD S (.tup (a :: b :: l)) (.int 1) = .ok b S := ixD_tup (k := 1) rfl
@[simp] theorem ixD_l0 (S : Store) (a : Dt) (l : List Dt) : ixD S (.lst (a :: l)) (.int 0) = .ok a S := ixD_lst (k := 0) rfl
@[simp] theorem ixD_l1 (S : Store) (a b : Dt) (l : List Dt) : ixD S (.lst (a :: b :: l)) (.int 1) = .ok b S := ixD_lst (k := 1) rfl
theorem atI_last {α : Type} {xs : List α} {a : α} (h : xs.getLast? = some a) : L2.atI xs (-1) = some a := by
  cases xs with
  | nil => cases h
  | cons b l =>
    unfold L2.atI L2.ixN
    rw [if_neg (by omega), if_pos (by rw [List.length_cons]; omega)]
    rw [List.getLast?_eq_getElem?] at h
    show (b :: l)[((-1 : Int) + ((b :: l).length : Nat)).toNat]? = _
    rw [show ((-1 : Int) + ((b :: l).length : Nat)).toNat = (b :: l).length - 1 by rw [List.length_cons]; omega]
    exact h
theorem ixD_last {S : Store} {xs : List Dt} {d : Dt} (h : xs.getLast? = some d) : ixD S (.tup xs) (.int (-1)) = .ok d S := by
  unfold ixD asSeq asTup
  simp only [atI_last h]
/-! ### walks -/
@[simp] theorem seqK_tup (S : Store) (xs : List Dt) : seqK (.tup xs) S = .ok ⟨xs, []⟩ S := (rfl)
@[simp] theorem seqK_lst (S : Store) (xs : List Dt) : seqK (.lst xs) S = .ok ⟨xs, []⟩ S := (rfl)
@[simp] theorem still_nil (S : Store) : still S [] = true := (rfl)
@[simp] theorem blt_len_tup (S : Store) (xs : List Dt) : bltD S .len [.tup xs] = .ok (.int xs.length) S := (rfl)
@[simp] theorem blt_len_lst (S : Store) (xs : List Dt) : bltD S .len [.lst xs] = .ok (.int xs.length) S := (rfl)
@[simp] theorem blt_tuple_tup (S : Store) (xs : List Dt) : bltD S .tuple [.tup xs] = .ok (.tup xs) S := (rfl)
@[simp] theorem blt_tuple_lst (S : Store) (xs : List Dt) : bltD S .tuple [.lst xs] = .ok (.tup xs) S := (rfl)
@[simp] theorem blt_int (S : Store) (i : Int) : bltD S .int [.int i] = .ok (.int i) S := (rfl)
@[simp] theorem blt_abs (S : Store) (i : Int) : bltD S .abs [.int i] = .ok (.int (if i < 0 then -i else i)) S := (rfl)
@[simp] theorem blt_gcd (S : Store) (i j : Int) : bltD S .gcd [.int i, .int j] = .ok (.int (Int.gcd i j : Nat)) S := (rfl)
@[simp] theorem blt_isi_int (S : Store) (i : Int) : bltD S (.isi "int") [.int i] = .ok (.bl true) S := by rfl
@[simp] theorem blt_isi_bool (S : Store) (i : Int) : bltD S (.isi "bool") [.int i] = .ok (.bl false) S := by rfl
@[simp] theorem blt_isi_tuple (S : Store) (xs : List Dt) : bltD S (.isi "tuple") [.tup xs] = .ok (.bl true) S := by rfl
theorem comp_plain {own : List Nat} {w : Rho → Mo Walk} {t : Dt → Rho → Mo Rho} {tc g : Rho → Mo Dt} {r : Rho} {S : Store} {W : Walk} (h : w r S = .ok W S) (hl : W.items.length ≤ 1000000) (hs : still S W.src = true) (f : Dt → Option Dt)
    (hf : ∀ x ∈ W.items, ((t x (wipeR r own) S).bind fun r1 S1 => (toB (tc r1 S1)).bind fun k S2 => if k = true then (g r1 S2).bind fun d S3 => .ok (some d) S3 else .ok none S2) = .ok (f x) S) : compK own w t tc g r S = .ok (.lst (W.items.filterMap f)) S := by
  unfold compK
  rw [h, bind_okS, if_pos (by exact decide_eq_true hl), comp_run hs _ hf]
  rfl
theorem comp_mapF {α : Type} {f : Dt → Mo (Option Dt)} {src : List (Nat × List Dt)} {S : Store} (enc res : α → Dt) (hs : still S src = true) : ∀ l : List α, (∀ a ∈ l, f (enc a) S = .ok (some (res a)) S) → compF f src (l.map enc) S = .ok (l.map res) S
  | [], _ => by rw [List.map_nil]; unfold compF; rw [if_pos hs]; rfl
  | a :: l, h => by
    rw [List.map_cons]
    unfold compF
    rw [if_pos hs, h a List.mem_cons_self, bind_okS, comp_mapF enc res hs l fun b hb => h b (List.mem_cons_of_mem _ hb)]
    rfl
theorem comp_filterF {α : Type} {f : Dt → Mo (Option Dt)} {src : List (Nat × List Dt)} {S : Store} (enc res : α → Dt) (p : α → Bool) (hs : still S src = true) : ∀ l : List α, (∀ a ∈ l, f (enc a) S = .ok (if p a then some (res a) else none) S) → compF f src (l.map enc) S = .ok ((l.filter p).map res) S
  | [], _ => by rw [List.map_nil]; unfold compF; rw [if_pos hs]; rfl
  | a :: l, h => by
    rw [List.map_cons]
    unfold compF
    rw [if_pos hs, h a List.mem_cons_self, bind_okS, comp_filterF enc res p hs l fun b hb => h b (List.mem_cons_of_mem _ hb), List.filter_cons]
    cases p a <;> rfl
theorem comp_map {α : Type} {own : List Nat} {w : Rho → Mo Walk} {t : Dt → Rho → Mo Rho} {tc g : Rho → Mo Dt} {r : Rho} {S : Store} {l : List α} {src : List (Nat × List Dt)} (enc res : α → Dt) (h : w r S = .ok ⟨l.map enc, src⟩ S) (hl : l.length ≤ 1000000) (hs : still S src = true)
    (hf : ∀ a ∈ l, ((t (enc a) (wipeR r own) S).bind fun r1 S1 => (toB (tc r1 S1)).bind fun k S2 => if k = true then (g r1 S2).bind fun d S3 => .ok (some d) S3 else .ok none S2) = .ok (some (res a)) S) : compK own w t tc g r S = .ok (.lst (l.map res)) S := by
  unfold compK
  rw [h, bind_okS]
  have hl2 : okLen (l.map enc).length = true := by rw [List.length_map]; exact decide_eq_true hl
  rw [if_pos hl2, comp_mapF enc res hs l hf]
  rfl
theorem comp_filter {α : Type} {own : List Nat} {w : Rho → Mo Walk} {t : Dt → Rho → Mo Rho} {tc g : Rho → Mo Dt} {r : Rho} {S : Store} {l : List α} {src : List (Nat × List Dt)} (enc res : α → Dt) (p : α → Bool) (h : w r S = .ok ⟨l.map enc, src⟩ S) (hl : l.length ≤ 1000000) (hs : still S src = true)
    (hf : ∀ a ∈ l, ((t (enc a) (wipeR r own) S).bind fun r1 S1 => (toB (tc r1 S1)).bind fun k S2 => if k = true then (g r1 S2).bind fun d S3 => .ok (some d) S3 else .ok none S2) = .ok (if p a then some (res a) else none) S) : compK own w t tc g r S = .ok (.lst ((l.filter p).map res)) S := by
  unfold compK
  rw [h, bind_okS]
  have hl2 : okLen (l.map enc).length = true := by rw [List.length_map]; exact decide_eq_true hl
  rw [if_pos hl2, comp_filterF enc res p hs l hf]
  rfl
@[simp] theorem wipeR_nil (r : Rho) : wipeR r [] = r := (rfl)
@[simp] theorem wipeR_cons (r : Rho) (v : Nat) (vs : List Nat) : wipeR r (v :: vs) = (wipeR r vs).set v none := (rfl)
/-! ### equality -/
mutual
/-- no truth value, no list of the store in it: ints, None, tuples, lists -/
def Dt.pl : Dt → Bool
  | .non => true
  | .int _ => true
  | .tup ds => plAll ds
  | .lst ds => plAll ds
  | _ => false
def plAll : List Dt → Bool
  | [] => true
  | d :: ds => d.pl && plAll ds
end
mutual
def Dt.dp : Dt → Nat
  | .tup ds => dpAll ds + 1
  | .lst ds => dpAll ds + 1
  | _ => 0
def dpAll : List Dt → Nat
  | [] => 0
  | d :: ds => max d.dp (dpAll ds)
end
mutual
theorem pl_to : ∀ d : Dt, d.pl = true → ∃ p, toPD0 d = some p ∧ p.canLay0 = true ∧ p.depth = d.dp
  | .non, _ => ⟨.none, rfl, rfl, rfl⟩
  | .int i, _ => ⟨.int i, rfl, rfl, rfl⟩
  | .tup ds, h => by
    obtain ⟨ps, h1, h2, h3⟩ := plAll_to ds h
    refine ⟨.tuple ps, ?_, ?_, ?_⟩
    · rw [toPD0, h1]; rfl
    · rw [PyData.canLay0]; exact h2
    · rw [PyData.depth, h3]; rfl
  | .lst ds, h => by
    obtain ⟨ps, h1, h2, h3⟩ := plAll_to ds h
    refine ⟨.list ps, ?_, ?_, ?_⟩
    · rw [toPD0, h1]; rfl
    · rw [PyData.canLay0]; exact h2
    · rw [PyData.depth, h3]; rfl
  | .bl _, h => by cases h
  | .str _, h => by cases h
  | .dct, h => by cases h
  | .loc _, h => by cases h
  | .fn _, h => by cases h
  | .clo _ _, h => by cases h
  | .scr _, h => by cases h
theorem plAll_to : ∀ ds : List Dt, plAll ds = true → ∃ ps, toPDs0 ds = some ps ∧ PyData.canLayAll0 ps = true ∧ PyData.depthAll ps = dpAll ds
  | [], _ => ⟨[], rfl, by rw [PyData.canLayAll0], by rw [PyData.depthAll]; rfl⟩
  | d :: ds, h => by
    obtain ⟨h1, h2⟩ := and2 (show (d.pl && plAll ds) = true from h)
    obtain ⟨p, a1, a2, a3⟩ := pl_to d h1
    obtain ⟨ps, b1, b2, b3⟩ := plAll_to ds h2
    refine ⟨p :: ps, ?_, ?_, ?_⟩
    · rw [toPDs0, a1, b1]
    · rw [PyData.canLayAll0, a2, b2]; rfl
    · rw [PyData.depthAll, a3, b3]; rfl
end
mutual
theorem pl_eqv : ∀ (d e : Dt) (p q : PyData), d.pl = true → e.pl = true → toPD0 d = some p → toPD0 e = some q → PyData.eqv p q = d.same e
  | .non, e, p, q, _, h, h1, h2 => by
    cases h1
    cases e <;> first | (cases h; done) | skip
    · cases h2; rfl
    · cases h2; rfl
    · rw [toPD0] at h2
      cases x : toPDs0 _ with
      | none => rw [x] at h2; cases h2
      | some ys => rw [x] at h2; cases h2; rfl
    · rw [toPD0] at h2
      cases x : toPDs0 _ with
      | none => rw [x] at h2; cases h2
      | some ys => rw [x] at h2; cases h2; rfl
  | .int i, e, p, q, _, h, h1, h2 => by
    cases h1
    cases e <;> first | (cases h; done) | skip
    · cases h2; rfl
    · cases h2
      rw [PyData.eqv]
      rfl
    · rw [toPD0] at h2
      cases x : toPDs0 _ with
      | none => rw [x] at h2; cases h2
      | some ys => rw [x] at h2; cases h2; rfl
    · rw [toPD0] at h2
      cases x : toPDs0 _ with
      | none => rw [x] at h2; cases h2
      | some ys => rw [x] at h2; cases h2; rfl
  | .tup ds, e, p, q, h0, h, h1, h2 => by
    rw [toPD0] at h1
    cases y : toPDs0 ds with
    | none => rw [y] at h1; cases h1
    | some ps =>
      rw [y] at h1
      cases h1
      cases e <;> first | (cases h; done) | skip
      · cases h2; rfl
      · cases h2; rfl
      · rw [toPD0] at h2
        cases x : toPDs0 _ with
        | none => rw [x] at h2; cases h2
        | some ys =>
          rw [x] at h2
          cases h2
          rw [PyData.eqv]
          exact plAll_eqv _ _ _ _ h0 h y x
      · rw [toPD0] at h2
        cases x : toPDs0 _ with
        | none => rw [x] at h2; cases h2
        | some ys => rw [x] at h2; cases h2; rfl
  | .lst ds, e, p, q, h0, h, h1, h2 => by
    rw [toPD0] at h1
    cases y : toPDs0 ds with
    | none => rw [y] at h1; cases h1
    | some ps =>
      rw [y] at h1
      cases h1
      cases e <;> first | (cases h; done) | skip
      · cases h2; rfl
      · cases h2; rfl
      · rw [toPD0] at h2
        cases x : toPDs0 _ with
        | none => rw [x] at h2; cases h2
        | some ys => rw [x] at h2; cases h2; rfl
      · rw [toPD0] at h2
        cases x : toPDs0 _ with
        | none => rw [x] at h2; cases h2
        | some ys =>
          rw [x] at h2
          cases h2
          rw [PyData.eqv]
          exact plAll_eqv _ _ _ _ h0 h y x
  | .bl _, _, _, _, h, _, _, _ => by cases h
  | .str _, _, _, _, h, _, _, _ => by cases h
  | .dct, _, _, _, h, _, _, _ => by cases h
  | .loc _, _, _, _, h, _, _, _ => by cases h
  | .fn _, _, _, _, h, _, _, _ => by cases h
  | .clo _ _, _, _, _, h, _, _, _ => by cases h
  | .scr _, _, _, _, h, _, _, _ => by cases h
theorem plAll_eqv : ∀ (ds es : List Dt) (ps qs : List PyData), plAll ds = true → plAll es = true → toPDs0 ds = some ps → toPDs0 es = some qs → PyData.eqvAll ps qs = sameAll ds es
  | [], [], ps, qs, _, _, h1, h2 => by
    cases h1
    cases h2
    rfl
  | [], e :: es, ps, qs, _, h, h1, h2 => by
    cases h1
    obtain ⟨h3, h4⟩ := and2 (show (e.pl && plAll es) = true from h)
    obtain ⟨p, a1, _⟩ := pl_to e h3
    obtain ⟨ps, b1, _⟩ := plAll_to es h4
    rw [toPDs0, a1, b1] at h2
    cases h2
    rfl
  | d :: ds, [], ps, qs, h, _, h1, h2 => by
    cases h2
    obtain ⟨h3, h4⟩ := and2 (show (d.pl && plAll ds) = true from h)
    obtain ⟨p, a1, _⟩ := pl_to d h3
    obtain ⟨ps, b1, _⟩ := plAll_to ds h4
    rw [toPDs0, a1, b1] at h1
    cases h1
    rfl
  | d :: ds, e :: es, ps, qs, h, k, h1, h2 => by
    obtain ⟨h3, h4⟩ := and2 (show (d.pl && plAll ds) = true from h)
    obtain ⟨k3, k4⟩ := and2 (show (e.pl && plAll es) = true from k)
    obtain ⟨p, a1, _⟩ := pl_to d h3
    obtain ⟨pr, b1, _⟩ := plAll_to ds h4
    obtain ⟨q, a2, _⟩ := pl_to e k3
    obtain ⟨qr, b2, _⟩ := plAll_to es k4
    rw [toPDs0, a1, b1] at h1
    rw [toPDs0, a2, b2] at h2
    cases h1
    cases h2
    show (PyData.eqv p q && PyData.eqvAll pr qr) = (d.same e && sameAll ds es)
    rw [pl_eqv d e p q h3 k3 a1 a2, plAll_eqv ds es pr qr h4 k4 b1 b2]
end
theorem toPD_pl {S : Store} {d : Dt} (h : d.pl = true) : toPD S d = toPD0 d := by cases d <;> first | rfl | (cases h)
theorem eqD_pl {S : Store} {ng : Bool} {d e : Dt} (h1 : d.pl = true) (h2 : e.pl = true) (h3 : d.dp ≤ 64) (h4 : e.dp ≤ 64) : eqD S ng d e = .ok (.bl (ng != d.same e)) S := by
  obtain ⟨p, a1, a2, a3⟩ := pl_to d h1
  obtain ⟨q, b1, b2, b3⟩ := pl_to e h2
  unfold eqD
  rw [toPD_pl h1, toPD_pl h2, a1, b1]
  have s1 : SeqAt.shaped p = true := by unfold SeqAt.shaped; rw [a2, decide_eq_true (by omega)]; rfl
  have s2 : SeqAt.shaped q = true := by unfold SeqAt.shaped; rw [b2, decide_eq_true (by omega)]; rfl
  show (if SeqAt.shaped p && SeqAt.shaped q then _ else _) = _
  rw [s1, s2, if_pos (by rfl : (true && true) = true), pl_eqv d e p q h1 h2 a1 b1]
theorem same_iff {d e : Dt} : d.same e = true ↔ d = e := ⟨Dt.same_eq d e, fun h => by rw [h]; exact Dt.same_refl e⟩
end Pz
namespace Pz
open PySem

/-! ### repr of plain values -/
mutual
/-- all ints short enough to be shown -/
def Dt.shw : Dt → Bool
  | .int i => decide (i.natAbs.log2 < 1920)
  | .tup ds => shwAll ds
  | .lst ds => shwAll ds
  | .non => true
  | .bl _ => true
  | _ => false
def shwAll : List Dt → Bool
  | [] => true
  | d :: ds => d.shw && shwAll ds
end
mutual
def Dt.nds : Dt → Nat
  | .tup ds => ndsAll ds + 1
  | .lst ds => ndsAll ds + 1
  | _ => 1
def ndsAll : List Dt → Nat
  | [] => 0
  | d :: ds => d.nds + ndsAll ds
end
theorem shownAll_sum : ∀ (ps : List PyData), ((PyData.shownAll ps).map (·.length)).sum + 2 * (PyData.shownAll ps).length = (ps.map fun p => p.shown.length + 2).sum
  | [] => rfl
  | p :: ps => by
    have ih := shownAll_sum ps
    rw [PyData.shownAll, List.map_cons, List.map_cons, List.sum_cons, List.sum_cons, List.length_cons]
    omega
/-! signs -/
theorem sok_iff {x : Str} : PyData.strOk x = true ↔ ∀ c ∈ x.cps.toList, c < 0x110000 := by
  unfold PyData.strOk
  rw [Array.all_eq_true_iff_forall_mem]
  constructor
  · intro h c hc
    simpa using h c (Array.mem_toList_iff.mp hc)
  · intro h c hc
    simpa using h c (Array.mem_toList_iff.mpr hc)
theorem sok_of (s : String) : PyData.strOk (Str.ofString s) = true := by
  rw [sok_iff, Str.ofString_eq_toList]
  intro c hc
  obtain ⟨ch, _, rfl⟩ := List.mem_map.mp hc
  rcases ch.valid with h | h
  · have : ch.toNat < 0xd800 := h
    omega
  · exact h.2
theorem sok_app {x y : Str} (h1 : PyData.strOk x = true) (h2 : PyData.strOk y = true) : PyData.strOk (x ++ y) = true := by
  rw [sok_iff] at *
  intro c hc
  have hc : c ∈ (x.cps ++ y.cps).toList := hc
  rw [Array.toList_append] at hc
  rcases List.mem_append.mp hc with h | h
  · exact h1 c h
  · exact h2 c h
theorem sok_join {sep : Str} (h : PyData.strOk sep = true) : ∀ (ts : List Str), (∀ t ∈ ts, PyData.strOk t = true) → PyData.strOk (Str.join sep ts) = true
  | [], _ => sok_of ""
  | [x], h2 => h2 x List.mem_cons_self
  | x :: y :: r, h2 => by
    show PyData.strOk (x ++ sep ++ Str.join sep (y :: r)) = true
    exact sok_app (sok_app (h2 x List.mem_cons_self) h) (sok_join h (y :: r) fun t ht => h2 t (List.mem_cons_of_mem _ ht))
theorem sok_from : ∀ (ts : List Str) (k : Nat) (acc : Str), PyData.strOk acc = true → (∀ t ∈ ts, PyData.strOk t = true) → PyData.strOk (textFrom k acc ts) = true
  | [], _, _, h, _ => h
  | t :: ts, k, acc, h, h2 => by
    show PyData.strOk (textFrom (k + 1) (acc ++ (if k > 0 then ", " else "" : String) ++ t) ts) = true
    exact sok_from ts (k + 1) _ (sok_app (sok_app h (sok_of _)) (h2 t List.mem_cons_self)) fun u hu => h2 u (List.mem_cons_of_mem _ hu)
theorem sok_list {ts : List Str} (h : ∀ t ∈ ts, PyData.strOk t = true) : PyData.strOk (listText ts) = true := sok_app (sok_from ts 0 _ (sok_of "[") h) (sok_of "]")
theorem sok_tuple {ts : List Str} (h : ∀ t ∈ ts, PyData.strOk t = true) : PyData.strOk (tupleText ts) = true := sok_app (sok_app (sok_of "(") (sok_join (sok_of ", ") ts h)) (sok_of _)
mutual
theorem show_ok : ∀ (d : Dt) (p : PyData), d.shw = true → toPD0 d = some p → PyData.strOk p.shown = true
  | .non, p, _, e => by cases e; rw [PyData.shown]; exact sok_of _
  | .bl b, p, _, e => by cases e; rw [PyData.shown]; cases b <;> exact sok_of _
  | .int i, p, _, e => by cases e; rw [PyData.shown]; exact sok_of _
  | .tup ds, p, h, e => by
    rw [toPD0] at e
    cases q : toPDs0 ds with
    | none => rw [q] at e; cases e
    | some ps =>
      rw [q] at e; cases e
      rw [PyData.shown]
      exact sok_tuple (showAll_ok ds ps h q)
  | .lst ds, p, h, e => by
    rw [toPD0] at e
    cases q : toPDs0 ds with
    | none => rw [q] at e; cases e
    | some ps =>
      rw [q] at e; cases e
      rw [PyData.shown]
      exact sok_list (showAll_ok ds ps h q)
  | .str _, _, h, _ => by cases h
  | .dct, _, h, _ => by cases h
  | .loc _, _, h, _ => by cases h
  | .fn _, _, h, _ => by cases h
  | .clo _ _, _, h, _ => by cases h
  | .scr _, _, h, _ => by cases h
theorem showAll_ok : ∀ (ds : List Dt) (ps : List PyData), shwAll ds = true → toPDs0 ds = some ps → ∀ t ∈ PyData.shownAll ps, PyData.strOk t = true
  | [], ps, _, e => by cases e; intro t ht; rw [PyData.shownAll] at ht; cases ht
  | d :: ds, ps, h, e => by
    obtain ⟨h1, h2⟩ := and2 (show (d.shw && shwAll ds) = true from h)
    rw [toPDs0] at e
    cases q1 : toPD0 d with
    | none => rw [q1] at e; cases e
    | some p =>
      cases q2 : toPDs0 ds with
      | none => rw [q1, q2] at e; cases e
      | some qs =>
        rw [q1, q2] at e; cases e
        intro t ht
        rw [PyData.shownAll] at ht
        rcases List.mem_cons.mp ht with rfl | ht
        · exact show_ok d p h1 q1
        · exact showAll_ok ds qs h2 q2 t ht
end
mutual
theorem show_fit : ∀ (d : Dt), d.shw = true → ∃ p, toPD0 d = some p ∧ p.showable = true ∧ p.hasDict = false ∧ p.depth = d.dp ∧ p.shown.length + 2 ≤ 1930 * d.nds
  | .non, _ => ⟨.none, rfl, by simp [PyData.showable], by simp [PyData.hasDict], rfl, by show (PyData.shown .none).length + 2 ≤ _; simp [PyData.shown, Dt.nds]; decide⟩
  | .bl b, _ => ⟨.bool b, rfl, by simp [PyData.showable], by simp [PyData.hasDict], rfl, by rw [PyData.shown]; cases b <;> (show _ ≤ 1930 * 1; decide)⟩
  | .int i, h => by
    have h : decide (i.natAbs.log2 < 1920) = true := h
    have hl := of_decide_eq_true h
    refine ⟨.int i, rfl, by simpa [PyData.showable] using h, by simp [PyData.hasDict], rfl, ?_⟩
    have e := int_text_length_le (k := 1920) (by decide) hl
    have e2 : (PyData.shown (.int i)).length = (toString i).length := by
      rw [PyData.shown]; exact ofString_length _
    rw [e2]
    show _ ≤ 1930 * 1
    omega
  | .tup ds, h => by
    have h : shwAll ds = true := h
    obtain ⟨ps, h1, h2, h3, h4, h5⟩ := showAll_fit ds h
    refine ⟨.tuple ps, by rw [toPD0, h1]; rfl, by rw [PyData.showable]; exact h2, by rw [PyData.hasDict]; exact h3, by rw [PyData.depth, h4]; rfl, ?_⟩
    have e := tupleText_len_le (PyData.shownAll ps)
    have e2 := shownAll_sum ps
    rw [PyData.shown]
    show _ ≤ 1930 * (ndsAll ds + 1)
    omega
  | .lst ds, h => by
    have h : shwAll ds = true := h
    obtain ⟨ps, h1, h2, h3, h4, h5⟩ := showAll_fit ds h
    refine ⟨.list ps, by rw [toPD0, h1]; rfl, by rw [PyData.showable]; exact h2, by rw [PyData.hasDict]; exact h3, by rw [PyData.depth, h4]; rfl, ?_⟩
    have e := listText_len_le (PyData.shownAll ps)
    have e2 := shownAll_sum ps
    rw [PyData.shown]
    show _ ≤ 1930 * (ndsAll ds + 1)
    omega
  | .str _, h => by cases h
  | .dct, h => by cases h
  | .loc _, h => by cases h
  | .fn _, h => by cases h
  | .clo _ _, h => by cases h
  | .scr _, h => by cases h
theorem showAll_fit : ∀ (ds : List Dt), shwAll ds = true → ∃ ps, toPDs0 ds = some ps ∧ PyData.showableAll ps = true ∧ PyData.hasDictAll ps = false ∧ PyData.depthAll ps = dpAll ds ∧ (ps.map fun p => p.shown.length + 2).sum ≤ 1930 * ndsAll ds
  | [], _ => ⟨[], rfl, by rw [PyData.showableAll], by rw [PyData.hasDictAll], by rw [PyData.depthAll]; rfl, by simp⟩
  | d :: ds, h => by
    obtain ⟨h1, h2⟩ := and2 (show (d.shw && shwAll ds) = true from h)
    obtain ⟨p, a1, a2, a3, a4, a5⟩ := show_fit d h1
    obtain ⟨ps, b1, b2, b3, b4, b5⟩ := showAll_fit ds h2
    refine ⟨p :: ps, by rw [toPDs0, a1, b1], by rw [PyData.showableAll, a2, b2]; rfl, by rw [PyData.hasDictAll, a3, b3]; rfl, by rw [PyData.depthAll, a4, b4]; rfl, ?_⟩
    rw [List.map_cons, List.sum_cons]
    show _ ≤ 1930 * (d.nds + ndsAll ds)
    omega
end
theorem shw_pl : ∀ d : Dt, d.shw = true → ∀ S, toPD S d = toPD0 d
  | .loc _, h, _ => by cases h
  | .non, _, _ => rfl
  | .int _, _, _ => rfl
  | .tup _, _, _ => rfl
  | .lst _, _, _ => rfl
  | .bl _, _, _ => rfl
  | .str _, h, _ => by cases h
  | .dct, h, _ => by cases h
  | .fn _, h, _ => by cases h
  | .clo _ _, h, _ => by cases h
  | .scr _, h, _ => by cases h
/-- the text of a plain value -/
theorem repr_pl {d : Dt} (h1 : d.shw = true) (h2 : d.nds ≤ 8000) (h3 : d.dp ≤ 60) : ∃ s, PyData.strOk s = true ∧ ∀ S, bltD S .repr [d] = .ok (.str s) S := by
  obtain ⟨p, a1, a2, a3, a4, a5⟩ := show_fit d h1
  refine ⟨p.shown, show_ok d p h1 a1, fun S => ?_⟩
  have hz : sizeLine = 16777216 := by unfold sizeLine; decide
  have hok : reprOk p = true := by
    unfold reprOk
    rw [a2, a3, decide_eq_true (show p.depth ≤ 60 by omega), decide_eq_true (show p.shown.length ≤ sizeLine by omega)]
    rfl
  show optK (toPD S d) (fun p => if reprOk p then .ok (.str p.shown) S else .bad) = _
  rw [shw_pl d h1 S, a1]
  show (if reprOk p then Res.ok (Dt.str p.shown) S else .bad) = _
  rw [if_pos hok]
theorem eqD_str_self (S : Store) (ng : Bool) (s : Str) (hs : PyData.strOk s = true) : eqD S ng (.str s) (.str s) = .ok (.bl (ng != true)) S := by
  have e : PyData.eqv (.str s) (.str s) = true := by
    rw [PyData.eqv]
    first | exact beq_self_eq_true _ | simp
  have sh : SeqAt.shaped (.str s) = true := by
    simp [SeqAt.shaped, PyData.canLay0, PyData.depth, hs]
  show (if SeqAt.shaped (.str s) && SeqAt.shaped (.str s) then Res.ok (Dt.bl (ng != PyData.eqv (.str s) (.str s))) S else .bad) = _
  rw [sh, e]; rfl
end Pz
namespace K77
open PySem Pz
abbrev i_is_whole : Nat := 0
abbrev i_are_wholes : Nat := 1
abbrev i_divisor_of : Nat := 2
abbrev i_is_ratio : Nat := 3
abbrev i_ratio : Nat := 4
abbrev i_plus : Nat := 5
abbrev i_minus : Nat := 6
abbrev i_times : Nat := 7
abbrev i_over : Nat := 8
abbrev i_total : Nat := 9
abbrev i_row_by : Nat := 10
abbrev i_end_of : Nat := 11
abbrev i_at_place : Nat := 12
abbrev i_row_scaled : Nat := 13
abbrev i_row_product : Nat := 14
abbrev i_row_back : Nat := 15
abbrev i_part_from : Nat := 16
abbrev i_even_of : Nat := 17
abbrev i_size_row : Nat := 18
abbrev i_is_laid : Nat := 19
abbrev i_led_over : Nat := 20
abbrev i_cleared : Nat := 21
abbrev i_lead_of : Nat := 22
abbrev i_scaled_to_one : Nat := 23
abbrev i_rule_of : Nat := 24
abbrev i_is_within : Nat := 25
abbrev i_have_sums : Nat := 26
abbrev i_comes_to_curve : Nat := 27
abbrev i_is_mask : Nat := 28
abbrev i_check_mask : Nat := 29
abbrev i_transfer_rule : Nat := 30
abbrev i_has_curve : Nat := 31
abbrev i_law_spring : Nat := 32
abbrev i_law_sip : Nat := 33
abbrev i_law_pick : Nat := 34
abbrev i_law_deep : Nat := 35
abbrev i_law_low : Nat := 36
abbrev i_law_plus : Nat := 37
abbrev i_law_minus : Nat := 38
abbrev i_law_prod : Nat := 39
abbrev i_law_per : Nat := 40
abbrev i_law_all : Nat := 41
abbrev i_law_ints : Nat := 42
abbrev i_law_any : Nat := 43
abbrev i_law_some : Nat := 44
abbrev i_law_trim : Nat := 45
abbrev i_law_at : Nat := 46
abbrev i_law_times : Nat := 47
abbrev i_law_scaled : Nat := 48
abbrev i_law_round : Nat := 49
abbrev i_law_half : Nat := 50
abbrev i_law_sieve : Nat := 51
abbrev i_law_even_sieve : Nat := 52
abbrev i_law_auto : Nat := 53
abbrev i_law_rule : Nat := 54
abbrev i_law_inside : Nat := 55
abbrev i_law_has_sums : Nat := 56
abbrev i_law_right : Nat := 57
abbrev i_law : Nat := 58
abbrev c_ZERO : Nat := 0
abbrev c_ONE : Nat := 1
abbrev c_NOUGHT : Nat := 2
abbrev c_HALF : Nat := 3
abbrev c_START : Nat := 4
abbrev c_FEW_NUMBERS : Nat := 5
abbrev c_MOST_NUMBERS : Nat := 6

/-- is_whole(value); 0 value -/
def f_is_whole : IFn := ⟨1, 1, [
  .ret (.and_ (.blt (.isi "int") [.var 0]) (.not_ (.blt (.isi "bool") [.var 0])))]⟩

/-- are_wholes(value, many); 0 value, 1 many, 2 each -/
def f_are_wholes : IFn := ⟨2, 3, [
  .ret (.and_ (.blt (.isi "tuple") [.var 0]) (.and_ (.eq false (.blt .len [.var 0]) (.var 1)) (.blt .all [.comp [2] (.nm 2) (.seq (.var 0)) [] (.call i_is_whole [.var 2])])))]⟩

/-- divisor_of(numbers); 0 numbers, 1 found, 2 each -/
def f_divisor_of : IFn := ⟨1, 3, [
  .asg (.nm 1) (.int 0),
  .forr (.nm 2) (.seq (.var 0)) [
    .asg (.nm 1) (.blt .gcd [.var 1, .var 2])],
  .ret (.var 1)]⟩

/-- is_ratio(value); 0 value -/
def f_is_ratio : IFn := ⟨1, 1, [
  .ret (.and_ (.call i_are_wholes [.var 0, .int 2]) (.and_ (.cmp .gt (.ix (.var 0) (.int 1)) (.int 0)) (.eq false (.call i_divisor_of [.var 0]) (.int 1))))]⟩

/-- ratio(top, low); 0 top, 1 low, 2 part -/
def f_ratio : IFn := ⟨2, 3, [
  .asg (.nm 2) (.ite (.cmp .gt (.var 1) (.int 0)) (.call i_divisor_of [.tup [.var 0, .var 1]]) (.neg (.call i_divisor_of [.tup [.var 0, .var 1]]))),
  .ret (.tup [.bin .fdiv (.var 0) (.var 2), .bin .fdiv (.var 1) (.var 2)])]⟩

/-- plus(one, two); 0 one, 1 two -/
def f_plus : IFn := ⟨2, 2, [
  .ret (.call i_ratio [.bin .add (.bin .mul (.ix (.var 0) (.int 0)) (.ix (.var 1) (.int 1))) (.bin .mul (.ix (.var 1) (.int 0)) (.ix (.var 0) (.int 1))), .bin .mul (.ix (.var 0) (.int 1)) (.ix (.var 1) (.int 1))])]⟩

/-- minus(one, two); 0 one, 1 two -/
def f_minus : IFn := ⟨2, 2, [
  .ret (.call i_ratio [.bin .sub (.bin .mul (.ix (.var 0) (.int 0)) (.ix (.var 1) (.int 1))) (.bin .mul (.ix (.var 1) (.int 0)) (.ix (.var 0) (.int 1))), .bin .mul (.ix (.var 0) (.int 1)) (.ix (.var 1) (.int 1))])]⟩

/-- times(one, two); 0 one, 1 two -/
def f_times : IFn := ⟨2, 2, [
  .ret (.call i_ratio [.bin .mul (.ix (.var 0) (.int 0)) (.ix (.var 1) (.int 0)), .bin .mul (.ix (.var 0) (.int 1)) (.ix (.var 1) (.int 1))])]⟩

/-- over(one, two); 0 one, 1 two -/
def f_over : IFn := ⟨2, 2, [
  .ret (.call i_ratio [.bin .mul (.ix (.var 0) (.int 0)) (.ix (.var 1) (.int 1)), .bin .mul (.ix (.var 0) (.int 1)) (.ix (.var 1) (.int 0))])]⟩

/-- total(fractions); 0 fractions, 1 found, 2 each -/
def f_total : IFn := ⟨1, 3, [
  .asg (.nm 1) (.cst c_ZERO),
  .forr (.nm 2) (.seq (.var 0)) [
    .asg (.nm 1) (.call i_plus [.var 1, .var 2])],
  .ret (.var 1)]⟩

/-- row_by(start, numbers); 0 start, 1 numbers, 2 low, 3 high -/
def f_row_by : IFn := ⟨2, 4, [
  .par [2, 3] [.int 0, .blt .len [.var 1]],
  .whil (.and_ (.cmp .lt (.var 2) (.var 3)) (.eq false (.ix (.ix (.var 1) (.var 2)) (.int 0)) (.int 0))) [
    .aug 2 false (.int 1)],
  .whil (.and_ (.cmp .lt (.var 2) (.var 3)) (.eq false (.ix (.ix (.var 1) (.bin .sub (.var 3) (.int 1))) (.int 0)) (.int 0))) [
    .aug 3 true (.int 1)],
  .ret (.ite (.cmp .lt (.var 2) (.var 3)) (.tup [.bin .add (.var 0) (.var 2), .blt .tuple [.sl (.var 1) (.var 2) (.var 3)]]) (.cst c_NOUGHT))]⟩

/-- end_of(row); 0 row -/
def f_end_of : IFn := ⟨1, 1, [
  .ret (.bin .add (.ix (.var 0) (.int 0)) (.blt .len [.ix (.var 0) (.int 1)]))]⟩

/-- at_place(row, place); 0 row, 1 place -/
def f_at_place : IFn := ⟨2, 2, [
  .ret (.ite (.chain .le .lt (.ix (.var 0) (.int 0)) (.var 1) (.call i_end_of [.var 0])) (.ix (.ix (.var 0) (.int 1)) (.bin .sub (.var 1) (.ix (.var 0) (.int 0)))) (.cst c_ZERO))]⟩

/-- row_scaled(row, number); 0 row, 1 number, 2 each -/
def f_row_scaled : IFn := ⟨2, 3, [
  .ret (.call i_row_by [.ix (.var 0) (.int 0), .comp [2] (.nm 2) (.seq (.ix (.var 0) (.int 1))) [] (.call i_times [.var 2, .var 1])])]⟩

/-- row_product(one, two); 0 one, 1 two, 2 found, 3 at, 4 mine, 5 place, 6 its -/
def f_row_product : IFn := ⟨2, 7, [
  .iff (.or_ (.eq false (.var 0) (.cst c_NOUGHT)) (.eq false (.var 1) (.cst c_NOUGHT))) [
    .ret (.cst c_NOUGHT)] [],
  .asg (.nm 2) (.thaw (.rep (.lst [.cst c_ZERO]) (.bin .sub (.bin .add (.blt .len [.ix (.var 0) (.int 1)]) (.blt .len [.ix (.var 1) (.int 1)])) (.int 1)))),
  .forr (.tup [.nm 3, .nm 4]) (.enum (.ix (.var 0) (.int 1))) [
    .forr (.tup [.nm 5, .nm 6]) (.enum (.ix (.var 1) (.int 1))) [
      .asg (.sub (.var 2) (.bin .add (.var 3) (.var 5))) (.call i_plus [.ix (.var 2) (.bin .add (.var 3) (.var 5)), .call i_times [.var 4, .var 6]])]],
  .ret (.call i_row_by [.bin .add (.ix (.var 0) (.int 0)) (.ix (.var 1) (.int 0)), .var 2])]⟩

/-- row_back(row); 0 row -/
def f_row_back : IFn := ⟨1, 1, [
  .ret (.ite (.eq true (.var 0) (.cst c_NOUGHT)) (.tup [.bin .sub (.int 1) (.call i_end_of [.var 0]), .slk (.ix (.var 0) (.int 1)) .absent .absent (-1)]) (.cst c_NOUGHT))]⟩

/-- part_from(row, first); 0 row, 1 first, 2 low, 3 high, 4 at -/
def f_part_from : IFn := ⟨2, 5, [
  .asg (.nm 2) (.bin .fdiv (.bin .add (.bin .sub (.ix (.var 0) (.int 0)) (.var 1)) (.int 1)) (.int 2)),
  .asg (.nm 3) (.bin .fdiv (.bin .add (.bin .sub (.call i_end_of [.var 0]) (.var 1)) (.int 1)) (.int 2)),
  .ret (.call i_row_by [.var 2, .comp [4] (.nm 4) (.rng2 (.var 2) (.var 3)) [] (.call i_at_place [.var 0, .bin .add (.bin .mul (.int 2) (.var 4)) (.var 1)])])]⟩

/-- even_of(row); 0 row -/
def f_even_of : IFn := ⟨1, 1, [
  .ret (.call i_part_from [.var 0, .int 0])]⟩

/-- size_row(row); 0 row -/
def f_size_row : IFn := ⟨1, 1, [
  .ret (.call i_row_product [.var 0, .call i_row_back [.var 0]])]⟩

/-- is_laid(value); 0 value, 1 each -/
def f_is_laid : IFn := ⟨1, 2, [
  .iff (.or_ (.not_ (.blt (.isi "tuple") [.var 0])) (.or_ (.eq true (.blt .len [.var 0]) (.int 2)) (.or_ (.not_ (.call i_is_whole [.ix (.var 0) (.int 0)])) (.not_ (.blt (.isi "tuple") [.ix (.var 0) (.int 1)]))))) [
    .ret (.bl false)] [],
  .iff (.eq false (.ix (.var 0) (.int 1)) (.tup [])) [
    .ret (.eq false (.ix (.var 0) (.int 0)) (.int 0))] [],
  .ret (.and_ (.blt .all [.comp [1] (.nm 1) (.seq (.ix (.var 0) (.int 1))) [] (.call i_is_ratio [.var 1])]) (.and_ (.eq true (.ix (.ix (.ix (.var 0) (.int 1)) (.int 0)) (.int 0)) (.int 0)) (.eq true (.ix (.ix (.ix (.var 0) (.int 1)) (.neg (.int 1))) (.int 0)) (.int 0))))]⟩

/-- led_over(mask, row); 0 mask, 1 row -/
def f_led_over : IFn := ⟨2, 2, [
  .ret (.call i_row_scaled [.call i_even_of [.call i_row_product [.call i_size_row [.var 0], .var 1]], .cst c_HALF])]⟩

/-- cleared(row, basis); 0 row, 1 basis, 2 place, 3 other, 4 factor, 5 one, 6 two -/
def f_cleared : IFn := ⟨2, 7, [
  .forr (.tup [.nm 2, .nm 3]) (.seq (.var 1)) [
    .asg (.nm 4) (.ix (.var 0) (.var 2)),
    .iff (.eq true (.var 4) (.cst c_ZERO)) [
      .asg (.nm 0) (.comp [5, 6] (.tup [.nm 5, .nm 6]) (.zip (.var 0) (.var 3)) [] (.call i_minus [.var 5, .call i_times [.var 4, .var 6]]))] []],
  .ret (.var 0)]⟩

/-- lead_of(row, many); 0 row, 1 many, 2 place -/
def f_lead_of : IFn := ⟨2, 3, [
  .forr (.nm 2) (.rng1 (.var 1)) [
    .iff (.eq true (.ix (.var 0) (.var 2)) (.cst c_ZERO)) [
      .ret (.var 2)] []],
  .ret (.non)]⟩

/-- scaled_to_one(row, place); 0 row, 1 place, 2 each -/
def f_scaled_to_one : IFn := ⟨2, 3, [
  .ret (.comp [2] (.nm 2) (.seq (.var 0)) [] (.call i_over [.var 2, .ix (.var 0) (.var 1)]))]⟩

/-- rule_of(mask); 0 mask, 1 wide, 2 basis, 3 row, 4 many, 5 tags, 6 left, 7 place -/
def f_rule_of : IFn := ⟨1, 8, [
  .asg (.tup [.nm 1, .nm 2, .nm 3, .nm 4]) (.tup [.blt .len [.ix (.var 0) (.int 1)], .thaw (.lst []), .cst c_START, .int 0]),
  .whil (.bl true) [
    .asg (.nm 5) (.comp [7] (.nm 7) (.rng1 (.bin .add (.var 1) (.int 1))) [] (.ite (.eq false (.var 7) (.var 4)) (.cst c_ONE) (.cst c_ZERO))),
    .asg (.nm 6) (.call i_cleared [.cat (.comp [7] (.nm 7) (.rng1 (.var 1)) [] (.call i_at_place [.var 3, .var 7])) (.var 5), .var 2]),
    .asg (.nm 7) (.call i_lead_of [.var 6, .var 1]),
    .iff (.is_ false (.var 7) (.non)) [
      .ret (.blt .tuple [.sl (.var 6) (.var 1) (.bin .add (.bin .add (.var 1) (.var 4)) (.int 1))])] [],
    .ex (.mth .append (.var 2) [.tup [.var 7, .call i_scaled_to_one [.var 6, .var 7]]]),
    .asg (.tup [.nm 3, .nm 4]) (.tup [.call i_led_over [.var 0, .var 3], .bin .add (.var 4) (.int 1)])]]⟩

/-- is_within(rule); 0 rule, 1 back, 2 low, 3 high, 4 one, 5 two -/
def f_is_within : IFn := ⟨1, 6, [
  .whil (.cmp .gt (.blt .len [.var 0]) (.int 1)) [
    .asg (.tup [.nm 2, .nm 3]) (.tup [.ix (.var 0) (.int 0), .ix (.var 0) (.neg (.int 1))]),
    .iff (.cmp .ge (.bin .mul (.bin .mul (.bin .mul (.ix (.var 2) (.int 0)) (.ix (.var 2) (.int 0))) (.ix (.var 3) (.int 1))) (.ix (.var 3) (.int 1))) (.bin .mul (.bin .mul (.bin .mul (.ix (.var 3) (.int 0)) (.ix (.var 3) (.int 0))) (.ix (.var 2) (.int 1))) (.ix (.var 2) (.int 1)))) [
      .ret (.bl false)] [],
    .asg (.nm 1) (.slk (.var 0) .absent .absent (-1)),
    .asg (.nm 0) (.sl (.comp [4, 5] (.tup [.nm 4, .nm 5]) (.zip (.var 0) (.var 1)) [] (.call i_minus [.call i_times [.var 3, .var 4], .call i_times [.var 2, .var 5]])) (.int 1) .absent)],
  .ret (.bl true)]⟩

/-- have_sums(mask); 0 mask -/
def f_have_sums : IFn := ⟨1, 1, [
  .ret (.and_ (.eq false (.call i_total [.slk (.ix (.var 0) (.int 1)) .absent .absent (2)]) (.cst c_ONE)) (.eq false (.call i_total [.slk (.ix (.var 0) (.int 1)) (.int 1) .absent (2)]) (.cst c_ONE)))]⟩

/-- comes_to_curve(mask); 0 mask -/
def f_comes_to_curve : IFn := ⟨1, 1, [
  .ret (.and_ (.call i_have_sums [.var 0]) (.call i_is_within [.call i_rule_of [.var 0]]))]⟩

/-- is_mask(value); 0 value -/
def f_is_mask : IFn := ⟨1, 1, [
  .ret (.and_ (.call i_is_laid [.var 0]) (.and_ (.eq false (.ix (.var 0) (.int 0)) (.int 0)) (.chain .le .le (.cst c_FEW_NUMBERS) (.blt .len [.ix (.var 0) (.int 1)]) (.cst c_MOST_NUMBERS))))]⟩

/-- check_mask(value); 0 value -/
def f_check_mask : IFn := ⟨1, 1, [
  .iff (.not_ (.call i_is_mask [.var 0])) [
    .never] []]⟩

/-- transfer_rule(mask); 0 mask -/
def f_transfer_rule : IFn := ⟨1, 1, [
  .ex (.call i_check_mask [.var 0]),
  .ret (.call i_rule_of [.var 0])]⟩

/-- has_curve(mask); 0 mask -/
def f_has_curve : IFn := ⟨1, 1, [
  .ex (.call i_check_mask [.var 0]),
  .ret (.call i_comes_to_curve [.var 0])]⟩

/-- _law_spring(_law_script, _law_turn); 0 _law_script, 1 _law_turn, 2 _law_cell, 3 _law_mix, 4 _law_each -/
def f_law_spring : IFn := ⟨2, 5, [
  .asg (.nm 2) (.ite (.cmp .lt (.var 1) (.blt .len [.var 0])) (.blt .int [.ix (.var 0) (.var 1)]) (.bin .add (.bin .add (.bin .mul (.int 6007) (.var 1)) (.int 911)) (.bin .mod (.blt .int [.blt .sum [.sl (.var 0) .absent (.int 6)]]) (.int 1000037)))),
  .asg (.nm 3) (.bin .add (.int 40127) (.bin .mul (.int 3001) (.var 1))),
  .forr (.nm 4) (.seq (.cat (.sl (.var 0) .absent (.int 9)) (.lst [.var 2]))) [
    .asg (.nm 3) (.bin .mod (.blt .int [.bin .add (.bin .add (.bin .mul (.var 3) (.int 47653)) (.bin .mod (.blt .int [.var 4]) (.int 2147483563))) (.int 29)]) (.int 2147483563))],
  .ret (.thaw (.lst [.ite (.or_ (.cmp .lt (.var 2) (.int 0)) (.cmp .ge (.var 2) (.bin .pow (.int 10) (.int 18)))) (.blt .abs [.var 2]) (.int 0), .var 3, .int 0]))]⟩

/-- _law_sip(_law_spring_here, _law_top); 0 _law_spring_here, 1 _law_top, 2 _law_by, 3 _law_figure -/
def f_law_sip : IFn := ⟨2, 4, [
  .iff (.cmp .gt (.ix (.var 0) (.int 0)) (.int 0)) [
    .asg (.tup [.sub (.var 0) (.int 0), .nm 3]) (.divmod (.ix (.var 0) (.int 0)) (.var 1)),
    .ret (.var 3)] [],
  .asg (.sub (.var 0) (.int 2)) (.bin .add (.ix (.var 0) (.int 2)) (.int 1)),
  .asg (.nm 2) (.bin .add (.int 30011) (.bin .mul (.int 6) (.blt .int [.ix (.var 0) (.int 2)]))),
  .asg (.sub (.var 0) (.int 1)) (.bin .mod (.blt .int [.bin .add (.bin .add (.bin .mul (.ix (.var 0) (.int 1)) (.var 2)) (.bin .mul (.int 60013) (.ix (.var 0) (.int 2)))) (.int 11)]) (.int 2147483563)),
  .ret (.bin .mod (.blt .int [.bin .fdiv (.ix (.var 0) (.int 1)) (.int 97)]) (.var 1))]⟩

/-- _law_pick(_law_spring_here, _law_some_here); 0 _law_spring_here, 1 _law_some_here -/
def f_law_pick : IFn := ⟨2, 2, [
  .ret (.ix (.var 1) (.call i_law_sip [.var 0, .blt .len [.var 1]]))]⟩

/-- _law_deep(_law_one, _law_two); 0 _law_one, 1 _law_two -/
def f_law_deep : IFn := ⟨2, 2, [
  .par [0, 1] [.blt .abs [.var 0], .blt .abs [.var 1]],
  .whil (.cmp .gt (.var 1) (.int 0)) [
    .par [0, 1] [.var 1, .bin .mod (.blt .int [.var 0]) (.var 1)]],
  .ret (.var 0)]⟩

/-- _law_low(_law_top, _law_under); 0 _law_top, 1 _law_under, 2 _law_deep_here -/
def f_law_low : IFn := ⟨2, 3, [
  .asg (.nm 2) (.ite (.cmp .gt (.var 1) (.int 0)) (.call i_law_deep [.var 0, .var 1]) (.bin .sub (.int 0) (.call i_law_deep [.var 0, .var 1]))),
  .ret (.tup [.bin .fdiv (.var 0) (.var 2), .bin .fdiv (.var 1) (.var 2)])]⟩

/-- _law_plus(_law_one, _law_two); 0 _law_one, 1 _law_two -/
def f_law_plus : IFn := ⟨2, 2, [
  .ret (.call i_law_low [.bin .add (.bin .mul (.ix (.var 0) (.int 0)) (.ix (.var 1) (.int 1))) (.bin .mul (.ix (.var 1) (.int 0)) (.ix (.var 0) (.int 1))), .bin .mul (.ix (.var 0) (.int 1)) (.ix (.var 1) (.int 1))])]⟩

/-- _law_minus(_law_one, _law_two); 0 _law_one, 1 _law_two -/
def f_law_minus : IFn := ⟨2, 2, [
  .ret (.call i_law_low [.bin .sub (.bin .mul (.ix (.var 0) (.int 0)) (.ix (.var 1) (.int 1))) (.bin .mul (.ix (.var 1) (.int 0)) (.ix (.var 0) (.int 1))), .bin .mul (.ix (.var 0) (.int 1)) (.ix (.var 1) (.int 1))])]⟩

/-- _law_prod(_law_one, _law_two); 0 _law_one, 1 _law_two -/
def f_law_prod : IFn := ⟨2, 2, [
  .ret (.call i_law_low [.bin .mul (.ix (.var 0) (.int 0)) (.ix (.var 1) (.int 0)), .bin .mul (.ix (.var 0) (.int 1)) (.ix (.var 1) (.int 1))])]⟩

/-- _law_per(_law_one, _law_two); 0 _law_one, 1 _law_two -/
def f_law_per : IFn := ⟨2, 2, [
  .ret (.call i_law_low [.bin .mul (.ix (.var 0) (.int 0)) (.ix (.var 1) (.int 1)), .bin .mul (.ix (.var 0) (.int 1)) (.ix (.var 1) (.int 0))])]⟩

/-- _law_all(_law_some_here); 0 _law_some_here, 1 _law_found, 2 _law_each -/
def f_law_all : IFn := ⟨1, 3, [
  .asg (.nm 1) (.tup [.int 0, .int 1]),
  .forr (.nm 2) (.seq (.var 0)) [
    .asg (.nm 1) (.call i_law_plus [.var 1, .var 2])],
  .ret (.var 1)]⟩

/-- _law_ints(_law_some_here); 0 _law_some_here, 1 _law_under, 2 _law_each -/
def f_law_ints : IFn := ⟨1, 3, [
  .asg (.nm 1) (.int 1),
  .forr (.nm 2) (.seq (.var 0)) [
    .asg (.nm 1) (.bin .mul (.var 1) (.bin .fdiv (.ix (.var 2) (.int 1)) (.call i_law_deep [.var 1, .ix (.var 2) (.int 1)])))],
  .ret (.tup [.comp [2] (.nm 2) (.seq (.var 0)) [] (.bin .mul (.ix (.var 2) (.int 0)) (.bin .fdiv (.var 1) (.ix (.var 2) (.int 1)))), .var 1])]⟩

/-- _law_any(_law_spring_here); 0 _law_spring_here, 1 _law_wide -/
def f_law_any : IFn := ⟨1, 2, [
  .asg (.nm 1) (.call i_law_pick [.var 0, .lst [.int 4, .int 4, .int 4, .int 4, .int 9, .int 60]]),
  .ret (.call i_law_low [.bin .sub (.call i_law_sip [.var 0, .bin .add (.bin .mul (.int 2) (.var 1)) (.int 1)]) (.var 1), .call i_law_pick [.var 0, .lst [.int 1, .int 1, .int 1, .int 2, .int 2, .int 3, .int 4, .int 15]]])]⟩

/-- _law_some(_law_spring_here); 0 _law_spring_here, 1 _law_top -/
def f_law_some : IFn := ⟨1, 2, [
  .asg (.nm 1) (.bin .add (.int 1) (.call i_law_sip [.var 0, .call i_law_pick [.var 0, .lst [.int 1, .int 3, .int 3, .int 9, .int 60]]])),
  .ret (.call i_law_low [.ite (.eq false (.call i_law_sip [.var 0, .int 2]) (.int 0)) (.var 1) (.bin .sub (.int 0) (.var 1)), .call i_law_pick [.var 0, .lst [.int 1, .int 1, .int 1, .int 2, .int 2, .int 3, .int 4, .int 15]]])]⟩

/-- _law_trim(_law_at_here, _law_some_here); 0 _law_at_here, 1 _law_some_here, 2 _law_full, 3 _law_k -/
def f_law_trim : IFn := ⟨2, 4, [
  .asg (.nm 2) (.comp [3] (.nm 3) (.rng1 (.blt .len [.var 1])) [.eq true (.ix (.ix (.var 1) (.var 3)) (.int 0)) (.int 0)] (.var 3)),
  .iff (.eq false (.var 2) (.lst [])) [
    .ret (.tup [.int 0, .tup []])] [],
  .ret (.tup [.bin .add (.var 0) (.ix (.var 2) (.int 0)), .blt .tuple [.sl (.var 1) (.ix (.var 2) (.int 0)) (.bin .add (.ix (.var 2) (.neg (.int 1))) (.int 1))]])]⟩

/-- _law_at(_law_x, _law_k); 0 _law_x, 1 _law_k -/
def f_law_at : IFn := ⟨2, 2, [
  .ret (.ite (.chain .le .lt (.int 0) (.bin .sub (.var 1) (.ix (.var 0) (.int 0))) (.blt .len [.ix (.var 0) (.int 1)])) (.ix (.ix (.var 0) (.int 1)) (.bin .sub (.var 1) (.ix (.var 0) (.int 0)))) (.tup [.int 0, .int 1]))]⟩

/-- _law_times(_law_x, _law_y); 0 _law_x, 1 _law_y, 2 _law_some_here, 3 _law_i, 4 _law_ones, 5 _law_under, 6 _law_twos, 7 _law_below, 8 _law_j, 9 _law_each -/
def f_law_times : IFn := ⟨2, 10, [
  .iff (.or_ (.eq false (.ix (.var 0) (.int 1)) (.tup [])) (.eq false (.ix (.var 1) (.int 1)) (.tup []))) [
    .ret (.tup [.int 0, .tup []])] [],
  .asg (.tup [.nm 4, .nm 5]) (.call i_law_ints [.ix (.var 0) (.int 1)]),
  .asg (.tup [.nm 6, .nm 7]) (.call i_law_ints [.ix (.var 1) (.int 1)]),
  .asg (.nm 2) (.thaw (.rep (.lst [.int 0]) (.bin .sub (.bin .add (.blt .len [.var 4]) (.blt .len [.var 6])) (.int 1)))),
  .forr (.nm 3) (.rng1 (.blt .len [.var 4])) [
    .forr (.nm 8) (.rng1 (.blt .len [.var 6])) [
      .asg (.sub (.var 2) (.bin .add (.var 3) (.var 8))) (.bin .add (.ix (.var 2) (.bin .add (.var 3) (.var 8))) (.bin .mul (.ix (.var 4) (.var 3)) (.ix (.var 6) (.var 8))))]],
  .ret (.call i_law_trim [.bin .add (.ix (.var 0) (.int 0)) (.ix (.var 1) (.int 0)), .comp [9] (.nm 9) (.seq (.var 2)) [] (.call i_law_low [.var 9, .bin .mul (.var 5) (.var 7)])])]⟩

/-- _law_scaled(_law_x, _law_by); 0 _law_x, 1 _law_by, 2 _law_each -/
def f_law_scaled : IFn := ⟨2, 3, [
  .ret (.call i_law_trim [.ix (.var 0) (.int 0), .comp [2] (.nm 2) (.seq (.ix (.var 0) (.int 1))) [] (.call i_law_prod [.var 2, .var 1])])]⟩

/-- _law_round(_law_x); 0 _law_x -/
def f_law_round : IFn := ⟨1, 1, [
  .ret (.ite (.eq true (.ix (.var 0) (.int 1)) (.tup [])) (.tup [.bin .sub (.bin .sub (.int 1) (.ix (.var 0) (.int 0))) (.blt .len [.ix (.var 0) (.int 1)]), .slk (.ix (.var 0) (.int 1)) .absent .absent (-1)]) (.var 0))]⟩

/-- _law_half(_law_x, _law_odd); 0 _law_x, 1 _law_odd, 2 _law_first -/
def f_law_half : IFn := ⟨2, 3, [
  .asg (.nm 2) (.bin .add (.ix (.var 0) (.int 0)) (.bin .mod (.blt .int [.bin .add (.ix (.var 0) (.int 0)) (.var 1)]) (.int 2))),
  .ret (.call i_law_trim [.bin .fdiv (.bin .sub (.var 2) (.var 1)) (.int 2), .listOf (.slk (.ix (.var 0) (.int 1)) (.bin .sub (.var 2) (.ix (.var 0) (.int 0))) .absent (2))])]⟩

/-- _law_sieve(_law_spring_here, _law_most); 0 _law_spring_here, 1 _law_most, 2 _law_some_here, 3 _law_lap -/
def f_law_sieve : IFn := ⟨2, 4, [
  .asg (.nm 2) (.thaw (.lst [.call i_law_some [.var 0]])),
  .forr (.nm 3) (.rng1 (.call i_law_sip [.var 0, .bin .sub (.var 1) (.int 1)])) [
    .ex (.mth .append (.var 2) [.call i_law_any [.var 0]])],
  .ret (.tup [.int 0, .blt .tuple [.cat (.var 2) (.lst [.call i_law_some [.var 0]])]])]⟩

/-- _law_even_sieve(_law_spring_here, _law_most); 0 _law_spring_here, 1 _law_most, 2 _law_some_here, 3 _law_lap, 4 _law_left -/
def f_law_even_sieve : IFn := ⟨2, 5, [
  .asg (.nm 2) (.thaw (.lst [.call i_law_pick [.var 0, .lst [.tup [.int 1, .int 1], .tup [.int 1, .int 2], .tup [.int 2, .int 1], .tup [.int 1, .int 4], .tup [.neg (.int 1), .int 2], .tup [.int 3, .int 4], .tup [.int 1, .int 3], .tup [.neg (.int 1), .int 4], .tup [.int 6, .int 5]]]])),
  .forr (.nm 3) (.rng1 (.call i_law_sip [.var 0, .bin .sub (.var 1) (.int 2)])) [
    .ex (.mth .append (.var 2) [.call i_law_pick [.var 0, .lst [.tup [.int 1, .int 2], .tup [.int 0, .int 1], .tup [.int 1, .int 4], .tup [.neg (.int 1), .int 4], .tup [.int 1, .int 3], .tup [.neg (.int 1), .int 8], .tup [.int 1, .int 1], .tup [.int 2, .int 5], .tup [.neg (.int 1), .int 2]]]])],
  .asg (.nm 4) (.call i_law_minus [.tup [.int 1, .int 1], .call i_law_all [.var 2]]),
  .iff (.eq true (.ix (.var 4) (.int 0)) (.int 0)) [
    .ex (.mth .append (.var 2) [.var 4])] [],
  .asg (.nm 2) (.ite (.eq true (.ix (.ix (.var 2) (.neg (.int 1))) (.int 0)) (.int 0)) (.var 2) (.cat (.sl (.var 2) .absent (.neg (.int 1))) (.lst [.tup [.int 1, .int 3], .tup [.neg (.int 1), .int 3]]))),
  .ret (.call i_law_times [.tup [.int 0, .tup [.tup [.int 1, .int 1], .tup [.int 1, .int 1]]], .tup [.int 0, .blt .tuple [.var 2]]])]⟩

/-- _law_auto(_law_mask2); 0 _law_mask2 -/
def f_law_auto : IFn := ⟨1, 1, [
  .ret (.call i_law_scaled [.call i_law_times [.var 0, .call i_law_round [.var 0]], .tup [.int 1, .int 2]])]⟩

/-- _law_rule(_law_mask2); 0 _law_mask2, 1 _law_lap, 2 _law_found, 3 _law_here, 4 _law_both, 5 _law_full, 6 _law_by, 7 _law_wire, 8 _law_mix, 9 _law_spot, 10 _law_base, 11 _law_mate, 12 _law_k, 13 _law_each -/
def f_law_rule : IFn := ⟨1, 14, [
  .asg (.tup [.nm 2, .nm 3, .nm 4]) (.tup [.thaw (.lst []), .tup [.neg (.int 1), .tup [.tup [.neg (.int 1), .int 1], .tup [.int 2, .int 1], .tup [.neg (.int 1), .int 1]]], .call i_law_auto [.var 0]]),
  .forr (.nm 1) (.rng1 (.int 12)) [
    .asg (.tup [.nm 7, .nm 8]) (.tup [.comp [12] (.nm 12) (.rng1 (.int 9)) [] (.call i_law_at [.var 3, .var 12]), .cat (.rep (.lst [.tup [.int 0, .int 1]]) (.var 1)) (.lst [.tup [.int 1, .int 1]])]),
    .forr (.tup [.nm 9, .nm 10, .nm 11]) (.seq (.var 2)) [
      .asg (.nm 6) (.ix (.var 7) (.var 9)),
      .iff (.eq true (.ix (.var 6) (.int 0)) (.int 0)) [
        .asg (.nm 7) (.comp [12] (.nm 12) (.rng1 (.int 9)) [] (.call i_law_minus [.ix (.var 7) (.var 12), .call i_law_prod [.var 6, .ix (.var 10) (.var 12)]])),
        .asg (.nm 8) (.comp [12] (.nm 12) (.rng1 (.bin .add (.var 1) (.int 1))) [] (.ite (.cmp .lt (.var 12) (.blt .len [.var 11])) (.call i_law_minus [.ix (.var 8) (.var 12), .call i_law_prod [.var 6, .ix (.var 11) (.var 12)]]) (.ix (.var 8) (.var 12))))] []],
    .asg (.nm 5) (.comp [12] (.nm 12) (.rng1 (.int 9)) [.eq true (.ix (.ix (.var 7) (.var 12)) (.int 0)) (.int 0)] (.var 12)),
    .iff (.eq false (.var 5) (.lst [])) [
      .ret (.var 8)] [],
    .asg (.nm 6) (.call i_law_per [.tup [.int 1, .int 1], .ix (.var 7) (.ix (.var 5) (.int 0))]),
    .ex (.mth .append (.var 2) [.tup [.ix (.var 5) (.int 0), .comp [13] (.nm 13) (.seq (.var 7)) [] (.call i_law_prod [.var 13, .var 6]), .comp [13] (.nm 13) (.seq (.var 8)) [] (.call i_law_prod [.var 13, .var 6])]]),
    .asg (.nm 3) (.call i_law_half [.call i_law_times [.var 4, .var 3], .int 0])],
  .ret (.lst [])]⟩

/-- _law_inside(_law_some_here); 0 _law_some_here, 1 _law_here, 2 _law_lap, 3 _law_deep_here, 4 _law_each, 5 _law_k -/
def f_law_inside : IFn := ⟨1, 6, [
  .asg (.nm 1) (.ix (.call i_law_ints [.var 0]) (.int 0)),
  .forr (.nm 2) (.rng1 (.blt .len [.var 0])) [
    .iff (.eq false (.blt .len [.var 1]) (.int 1)) [
      .ret (.bl true)] [],
    .iff (.cmp .ge (.blt .abs [.ix (.var 1) (.int 0)]) (.blt .abs [.ix (.var 1) (.neg (.int 1))])) [
      .ret (.bl false)] [],
    .asg (.nm 1) (.comp [5] (.nm 5) (.rng1 (.bin .sub (.blt .len [.var 1]) (.int 1))) [] (.bin .sub (.bin .mul (.ix (.var 1) (.neg (.int 1))) (.ix (.var 1) (.bin .add (.var 5) (.int 1)))) (.bin .mul (.ix (.var 1) (.int 0)) (.ix (.var 1) (.bin .sub (.bin .sub (.blt .len [.var 1]) (.int 2)) (.var 5)))))),
    .asg (.nm 3) (.int 0),
    .forr (.nm 4) (.seq (.var 1)) [
      .asg (.nm 3) (.call i_law_deep [.var 3, .var 4])],
    .asg (.nm 1) (.comp [4] (.nm 4) (.seq (.var 1)) [] (.bin .fdiv (.var 4) (.var 3)))],
  .ret (.bl true)]⟩

/-- _law_has_sums(_law_mask2); 0 _law_mask2 -/
def f_law_has_sums : IFn := ⟨1, 1, [
  .ret (.and_ (.eq false (.call i_law_all [.ix (.call i_law_half [.var 0, .int 0]) (.int 1)]) (.tup [.int 1, .int 1])) (.eq false (.call i_law_all [.ix (.call i_law_half [.var 0, .int 1]) (.int 1)]) (.tup [.int 1, .int 1])))]⟩

/-- _law_right(_law_spring_here); 0 _law_spring_here, 1 _law_mask2, 2 _law_due, 3 _law_rule2, 4 _law_c, 5 _law_rest, 6 _law_size, 7 _law_way, 8 _law_wide, 9 _law_least, 10 _law_told -/
def f_law_right : IFn := ⟨1, 11, [
  .par [7, 8] [.call i_law_sip [.var 0, .int 6], .call i_law_pick [.var 0, .lst [.int 3, .int 3, .int 4, .int 4, .int 5, .int 6]]],
  .asg (.nm 1) (.ite (.eq false (.var 7) (.int 0)) (.call i_law_sieve [.var 0, .var 8]) (.call i_law_even_sieve [.var 0, .var 8])),
  .iff (.eq false (.var 7) (.int 1)) [
    .asg (.nm 1) (.call i_law_scaled [.var 1, .call i_law_pick [.var 0, .lst [.tup [.int 2, .int 1], .tup [.int 1, .int 2], .tup [.neg (.int 1), .int 1]]]])] [],
  .par [9, 10] [.call i_law_rule [.var 1], .call i_has_curve [.var 1]],
  .asg (.nm 2) (.and_ (.call i_law_has_sums [.var 1]) (.call i_law_inside [.var 9])),
  .iff (.eq true (.blt .repr [.lst [.var 10, .callK i_has_curve [0] [.var 1], .call i_has_curve [.tup [.int 0, .slk (.ix (.var 1) (.int 1)) .absent .absent (-1)]]]]) (.blt .repr [.lst [.var 2, .var 2, .var 2]])) [
    .ret (.bl false)] [],
  .asg (.nm 3) (.call i_transfer_rule [.var 1]),
  .iff (.or_ (.eq true (.blt .repr [.var 3]) (.blt .repr [.blt .tuple [.var 9]])) (.eq true (.and_ (.call i_law_has_sums [.var 1]) (.call i_law_inside [.var 3])) (.var 10))) [
    .ret (.bl false)] [],
  .asg (.nm 4) (.call i_law_low [.bin .sub (.call i_law_sip [.var 0, .int 49]) (.int 20), .call i_law_pick [.var 0, .lst [.int 12, .int 15, .int 30]]]),
  .asg (.nm 5) (.call i_law_minus [.tup [.int 1, .int 1], .var 4]),
  .iff (.or_ (.eq false (.ix (.var 4) (.int 0)) (.int 0)) (.eq false (.ix (.var 5) (.int 0)) (.int 0))) [
    .ret (.is_ false (.call i_has_curve [.tup [.int 0, .tup [.tup [.int 1, .int 1], .tup [.int 1, .int 1]]]]) (.bl true))] [],
  .asg (.nm 6) (.call i_law_plus [.call i_law_prod [.var 4, .var 4], .call i_law_prod [.var 5, .var 5]]),
  .ret (.eq false (.blt .repr [.call i_has_curve [.tup [.int 0, .tup [.var 4, .tup [.int 1, .int 1], .var 5]]]]) (.blt .repr [.cmp .lt (.ix (.var 6) (.int 0)) (.bin .mul (.int 2) (.ix (.var 6) (.int 1)))]))]⟩

/-- law(_law_script); 0 _law_script, 1 _law_turn -/
def f_law : IFn := ⟨1, 2, [
  .ret (.blt .all [.comp [1] (.nm 1) (.rng1 (.int 2)) [] (.call i_law_right [.callF i_law_spring [.var 0, .var 1]])])]⟩

def cs : List (Str × Dt) := [
  ("ZERO", .tup [.int (0), .int (1)]),
  ("ONE", .tup [.int (1), .int (1)]),
  ("NOUGHT", .tup [.int (0), .tup []]),
  ("HALF", .tup [.int (1), .int (2)]),
  ("START", .tup [.int (-1), .tup [.tup [.int (-1), .int (1)], .tup [.int (2), .int (1)], .tup [.int (-1), .int (1)]]]),
  ("FEW_NUMBERS", .int (2)),
  ("MOST_NUMBERS", .int (9))]
def fsL : List IFn := [f_is_whole, f_are_wholes, f_divisor_of, f_is_ratio, f_ratio, f_plus, f_minus, f_times, f_over, f_total, f_row_by, f_end_of, f_at_place, f_row_scaled, f_row_product, f_row_back, f_part_from, f_even_of, f_size_row, f_is_laid, f_led_over, f_cleared, f_lead_of, f_scaled_to_one, f_rule_of, f_is_within, f_have_sums, f_comes_to_curve, f_is_mask, f_check_mask, f_transfer_rule, f_has_curve, f_law_spring, f_law_sip, f_law_pick, f_law_deep, f_law_low, f_law_plus, f_law_minus, f_law_prod, f_law_per, f_law_all, f_law_ints, f_law_any, f_law_some, f_law_trim, f_law_at, f_law_times, f_law_scaled, f_law_round, f_law_half, f_law_sieve, f_law_even_sieve, f_law_auto, f_law_rule, f_law_inside, f_law_has_sums, f_law_right, f_law]
def fs (k : Nat) : Option IFn := fsL[k]?
abbrev cv : Nat → Dt := cvOf cs
abbrev Phi (n : Nat) : Nat → List Dt → Mo Dt := phi cv fs n
end K77
namespace K77
open PySem Pz

/-! ### sizes -/
/-- an int of at most n bits -/
def Sz (n : Nat) (a : Int) : Prop := a.natAbs < 2 ^ n
theorem Sz.mono {m n : Nat} {a : Int} (h : Sz m a) (k : m ≤ n) : Sz n a := Nat.lt_of_lt_of_le h (Nat.pow_le_pow_right (by omega) k)
theorem Sz.mul {m n : Nat} {a b : Int} (h : Sz m a) (k : Sz n b) : Sz (m + n) (a * b) := by
  unfold Sz at *
  rw [Int.natAbs_mul, Nat.pow_add]
  exact Nat.mul_lt_mul'' h k
theorem Sz.add {m : Nat} {a b : Int} (h : Sz m a) (k : Sz m b) : Sz (m + 1) (a + b) := by
  unfold Sz at *
  have := Int.natAbs_add_le a b
  rw [Nat.pow_succ]
  omega
theorem Sz.neg {m : Nat} {a : Int} (h : Sz m a) : Sz m (-a) := by
  unfold Sz at *
  rwa [Int.natAbs_neg]
theorem Sz.sub {m : Nat} {a b : Int} (h : Sz m a) (k : Sz m b) : Sz (m + 1) (a - b) := by
  rw [Int.sub_eq_add_neg]; exact h.add k.neg
theorem Sz.of_le {m : Nat} {a b : Int} (h : Sz m a) (k : b.natAbs ≤ a.natAbs) : Sz m b := Nat.lt_of_le_of_lt k h
theorem log2_lt' {a n : Nat} (h : a < 2 ^ n) (hn : 0 < n) : a.log2 < n := by
  by_cases e : a = 0
  · subst e; simpa using hn
  · exact (Nat.log2_lt e).mpr h
theorem okDiv_of {i j : Int} (h : j ≠ 0) (hj : Sz 9000 j) : okDiv i j = true := by
  unfold okDiv
  rw [Bool.and_eq_true]
  refine ⟨decide_eq_true h, ?_⟩
  have hl : j.natAbs.log2 < 9000 := log2_lt' hj (by omega)
  unfold Builtin.divisionGoesByPylong
  have e : (j == 0) = false := by simpa using h
  simp only [e]
  have h2 : ¬ (300 < j.natAbs.log2 / 30 + 1) := by omega
  simp [h2]
theorem okMul_of {i j : Int} (hi : Sz 400000 i) (hj : Sz 400000 j) : okMul i j = true := by
  unfold okMul
  have h1 := log2_lt' hi (by omega)
  have h2 := log2_lt' hj (by omega)
  exact decide_eq_true (by omega)
theorem phiR {k : Nat} {f : IFn} (n : Nat) {m : Nat} (hm : m = n + 1) (hf : fs k = some f) (ds : List Dt) (S : Store) (h : ds.length = f.ar) : Phi m k ds S = (evB cv (Phi n) f.body (ds.map some ++ List.replicate (f.sz - f.ar) none) S).bind endF := by
  subst hm
  exact phi_run hf n ds S h

/-! ### fractions -/
def qd (q : Rat) : Dt := .tup [.int q.num, .int q.den]
theorem qd_nl (q : Rat) : (qd q).nl = true := (rfl)
/-- small enough for every operation -/
def Sm (q : Rat) : Prop := Sz 4000 q.num ∧ Sz 4000 (q.den : Int)
theorem run_divisor2 (n : Nat) (a b : Int) (S : Store) : Phi (n + 1) i_divisor_of [.tup [.int a, .int b]] S = .ok (.int (Int.gcd a b : Nat)) S := by
  rw [phiR n rfl (f := f_divisor_of) rfl _ S rfl]
  simp [f_divisor_of, getR, seqK, asSeq, asTup, srcOf, forF, still, bltD, arg2, optK, asInt, Int.gcd]
theorem fdiv_gcd (a b : Int) : Int.fdiv (b * a) b = if b = 0 then 0 else a := by
  by_cases h : b = 0
  · subst h; simp
  · rw [if_neg h]; exact Int.mul_fdiv_cancel_left _ h
theorem ratio_eq {t l : Int} (hl : l ≠ 0) (g : Int) (hg : g = if 0 < l then (Int.gcd t l : Int) else -(Int.gcd t l : Int)) : t.fdiv g = (Rat.divInt t l).num ∧ l.fdiv g = ((Rat.divInt t l).den : Int) := by
  have hgp : 0 < Int.gcd t l := by
    rw [Int.gcd_pos_iff]; exact .inr hl
  have hgi : (0 : Int) < (Int.gcd t l : Int) := by exact_mod_cast hgp
  obtain ⟨t', ht⟩ : (Int.gcd t l : Int) ∣ t := Int.gcd_dvd_left ..
  obtain ⟨l', hl'⟩ : (Int.gcd t l : Int) ∣ l := Int.gcd_dvd_right ..
  rw [Rat.num_divInt, Rat.den_divInt, if_neg hl, Int.gcd_comm l t]
  generalize (Int.gcd t l) = G at *
  by_cases hp : 0 < l
  · rw [if_pos hp] at hg
    subst hg
    rw [Int.sign_eq_one_of_pos hp, Int.one_mul]
    refine ⟨Int.fdiv_eq_ediv_of_nonneg _ (Int.le_of_lt hgi), ?_⟩
    rw [Int.fdiv_eq_ediv_of_nonneg _ (Int.le_of_lt hgi)]
    rw [Int.natCast_ediv, Int.natAbs_of_nonneg (Int.le_of_lt hp)]
  · rw [if_neg hp] at hg
    subst hg
    have hn : l < 0 := by omega
    rw [Int.sign_eq_neg_one_of_neg hn]
    constructor
    · rw [ht]
      rw [show (G : Int) * t' = -(G : Int) * (-t') from by rw [Int.neg_mul_neg], Int.mul_fdiv_cancel_left _ (by omega)]
      rw [show -1 * (-(G : Int) * -t') = (G : Int) * (-t') from by rw [Int.neg_mul_neg]; simp [Int.mul_neg], Int.mul_ediv_cancel_left _ (by omega)]
    · rw [Int.natCast_ediv]
      have e : ((l.natAbs : Nat) : Int) = -l := by omega
      rw [e]
      rw [hl']
      rw [show -((G : Int) * l') = (G : Int) * (-l') from by rw [Int.mul_neg], Int.mul_ediv_cancel_left _ (by omega)]
      rw [show (G : Int) * l' = -(G : Int) * (-l') from by rw [Int.neg_mul_neg], Int.mul_fdiv_cancel_left _ (by omega)]
theorem gcd_sz {n : Nat} {t l : Int} (hl : l ≠ 0) (h : Sz n l) : Sz n (Int.gcd t l : Nat) := h.of_le (by rw [Int.natAbs_natCast]; exact Nat.le_of_dvd (by omega) (Nat.gcd_dvd_right t.natAbs l.natAbs))
theorem run_ratio (n : Nat) (t l : Int) (S : Store) (hl : l ≠ 0) (hs : Sz 9000 l) : Phi (n + 2) i_ratio [.int t, .int l] S = .ok (qd (Rat.divInt t l)) S := by
  rw [phiR (n + 1) rfl (f := f_ratio) rfl _ S rfl]
  have hd := callR_pure (run_divisor2 n t l S) rfl
  have hgp : 0 < Int.gcd t l := by
    rw [Int.gcd_pos_iff]; exact .inr hl
  have hg9 := gcd_sz (t := t) hl hs
  obtain ⟨e1, e2⟩ := ratio_eq (t := t) hl _ rfl
  by_cases hp : 0 < l
  · rw [if_pos hp] at e1 e2
    have k1 : okDiv t (Int.gcd t l : Int) = true := okDiv_of (by omega) hg9
    have k2 : okDiv l (Int.gcd t l : Int) = true := okDiv_of (by omega) hg9
    simp [f_ratio, getR, hp, hd, bin_fdiv _ _ _ k1, bin_fdiv _ _ _ k2, e1, e2, qd]
  · rw [if_neg hp] at e1 e2
    have k1 : okDiv t (-(Int.gcd t l : Int)) = true := okDiv_of (by omega) hg9.neg
    have k2 : okDiv l (-(Int.gcd t l : Int)) = true := okDiv_of (by omega) hg9.neg
    simp [f_ratio, getR, hp, hd, bin_fdiv _ _ _ k1, bin_fdiv _ _ _ k2, e1, e2, qd]
theorem den_ne (q : Rat) : (q.den : Int) ≠ 0 := by exact_mod_cast q.den_nz
theorem divInt_self' (q : Rat) : Rat.divInt q.num q.den = q := Rat.num_divInt_den q
theorem run_plus (n : Nat) (a b : Rat) (S : Store) (ha : Sm a) (hb : Sm b) : Phi (n + 3) i_plus [qd a, qd b] S = .ok (qd (a + b)) S := by
  rw [phiR (n + 2) rfl (f := f_plus) rfl _ S rfl]
  have m1 : okMul a.num b.den = true := okMul_of (ha.1.mono (by omega)) (hb.2.mono (by omega))
  have m2 : okMul b.num a.den = true := okMul_of (hb.1.mono (by omega)) (ha.2.mono (by omega))
  have m3 : okMul a.den b.den = true := okMul_of (ha.2.mono (by omega)) (hb.2.mono (by omega))
  have hne : (a.den : Int) * b.den ≠ 0 := Int.mul_ne_zero (den_ne a) (den_ne b)
  have hr := callR_pure (run_ratio n (a.num * b.den + b.num * a.den) (a.den * b.den) S hne ((ha.2.mul hb.2).mono (by omega))) (qd_nl _)
  have e : Rat.divInt (a.num * b.den + b.num * a.den) (a.den * b.den) = a + b := by
    rw [← Rat.divInt_add_divInt _ _ (den_ne a) (den_ne b), divInt_self', divInt_self']
  rw [e] at hr
  simp [f_plus, getR, qd, bin_mul _ _ _ m1, bin_mul _ _ _ m2, bin_mul _ _ _ m3, hr]
theorem run_minus (n : Nat) (a b : Rat) (S : Store) (ha : Sm a) (hb : Sm b) : Phi (n + 3) i_minus [qd a, qd b] S = .ok (qd (a - b)) S := by
  rw [phiR (n + 2) rfl (f := f_minus) rfl _ S rfl]
  have m1 : okMul a.num b.den = true := okMul_of (ha.1.mono (by omega)) (hb.2.mono (by omega))
  have m2 : okMul b.num a.den = true := okMul_of (hb.1.mono (by omega)) (ha.2.mono (by omega))
  have m3 : okMul a.den b.den = true := okMul_of (ha.2.mono (by omega)) (hb.2.mono (by omega))
  have hne : (a.den : Int) * b.den ≠ 0 := Int.mul_ne_zero (den_ne a) (den_ne b)
  have hr := callR_pure (run_ratio n (a.num * b.den - b.num * a.den) (a.den * b.den) S hne ((ha.2.mul hb.2).mono (by omega))) (qd_nl _)
  have e : Rat.divInt (a.num * b.den - b.num * a.den) (a.den * b.den) = a - b := by
    rw [← Rat.divInt_sub_divInt _ _ (den_ne a) (den_ne b), divInt_self', divInt_self']
  rw [e] at hr
  simp [f_minus, getR, qd, bin_mul _ _ _ m1, bin_mul _ _ _ m2, bin_mul _ _ _ m3, hr]
theorem run_times (n : Nat) (a b : Rat) (S : Store) (ha : Sm a) (hb : Sm b) : Phi (n + 3) i_times [qd a, qd b] S = .ok (qd (a * b)) S := by
  rw [phiR (n + 2) rfl (f := f_times) rfl _ S rfl]
  have m1 : okMul a.num b.num = true := okMul_of (ha.1.mono (by omega)) (hb.1.mono (by omega))
  have m3 : okMul a.den b.den = true := okMul_of (ha.2.mono (by omega)) (hb.2.mono (by omega))
  have hne : (a.den : Int) * b.den ≠ 0 := Int.mul_ne_zero (den_ne a) (den_ne b)
  have hr := callR_pure (run_ratio n (a.num * b.num) (a.den * b.den) S hne ((ha.2.mul hb.2).mono (by omega))) (qd_nl _)
  have e : Rat.divInt (a.num * b.num) (a.den * b.den) = a * b := by
    rw [← Rat.divInt_mul_divInt, divInt_self', divInt_self']
  rw [e] at hr
  simp [f_times, getR, qd, bin_mul _ _ _ m1, bin_mul _ _ _ m3, hr]
theorem over_eq {a b : Rat} (h : b ≠ 0) : Rat.divInt (a.num * b.den) (a.den * b.num) = a / b := by
  have hb : b.num ≠ 0 := fun e => h (Rat.num_eq_zero.mp e)
  rw [Rat.div_def, Rat.inv_def, ← Rat.divInt_mul_divInt, divInt_self']
theorem run_over (n : Nat) (a b : Rat) (S : Store) (ha : Sm a) (hb : Sm b) (h0 : b ≠ 0) : Phi (n + 3) i_over [qd a, qd b] S = .ok (qd (a / b)) S := by
  rw [phiR (n + 2) rfl (f := f_over) rfl _ S rfl]
  have m1 : okMul a.num b.den = true := okMul_of (ha.1.mono (by omega)) (hb.2.mono (by omega))
  have m3 : okMul a.den b.num = true := okMul_of (ha.2.mono (by omega)) (hb.1.mono (by omega))
  have hn : b.num ≠ 0 := fun e => h0 (Rat.num_eq_zero.mp e)
  have hne : (a.den : Int) * b.num ≠ 0 := Int.mul_ne_zero (den_ne a) hn
  have hr := callR_pure (run_ratio n (a.num * b.den) (a.den * b.num) S hne ((ha.2.mul hb.1).mono (by omega))) (qd_nl _)
  rw [over_eq h0] at hr
  simp [f_over, getR, qd, bin_mul _ _ _ m1, bin_mul _ _ _ m3, hr]
/-! ### the law's own fractions -/
theorem mod_half {a b : Nat} (h : 0 < b) (k : b ≤ a) : 2 * (a % b) ≤ a := by
  have h1 := Nat.mod_lt a h
  have h2 := Nat.div_add_mod a b
  have h3 : 1 ≤ a / b := (Nat.one_le_div_iff h).mpr k
  have h4 : b ≤ b * (a / b) := Nat.le_mul_of_pos_right b h3
  omega
/-- the loop of deep, Euclid's: 2 k + 1 turns where b has k bits -/
theorem deep_loop {c : Rho → Mo Dt} {body : Rho → Mo Out} {S : Store}
    (hc : ∀ a b : Nat, c [some (.int a), some (.int b)] S = .ok (.bl (decide (0 < (b : Int)))) S)
    (hb : ∀ a b : Nat, 0 < b → body [some (.int a), some (.int b)] S = .ok (.nx [some (.int b), some (.int ((a % b : Nat) : Int))]) S) :
    ∀ (k a b fuel : Nat), b < 2 ^ k → 2 * k + 1 ≤ fuel → ∃ r', whileF c body fuel [some (.int a), some (.int b)] S = .ok (.nx [some (.int (Nat.gcd a b : Nat)), r']) S := by
  have one : ∀ (a fuel : Nat), 1 ≤ fuel → whileF c body fuel [some (.int a), some (.int (0 : Nat))] S = .ok (.nx [some (.int a), some (.int (0 : Nat))]) S := by
    intro a fuel h
    obtain ⟨f, rfl⟩ : ∃ f, fuel = f + 1 := ⟨fuel - 1, by omega⟩
    unfold whileF
    rw [hc]
    simp
  have step : ∀ (a b fuel : Nat), 0 < b → whileF c body (fuel + 1) [some (.int a), some (.int b)] S = whileF c body fuel [some (.int b), some (.int ((a % b : Nat) : Int))] S := by
    intro a b fuel hp
    conv => lhs; unfold whileF
    have e : decide (0 < (b : Int)) = true := decide_eq_true (by omega)
    rw [hc, e, toB_bl, bind_okS, if_pos rfl, hb a b hp, bind_okS]
  intro k
  induction k with
  | zero =>
    intro a b fuel h hf
    obtain rfl : b = 0 := by simpa using h
    exact ⟨_, by rw [one a fuel (by omega), Nat.gcd_zero_right]⟩
  | succ k ih =>
    intro a b fuel h hf
    by_cases hz : b = 0
    · subst hz
      exact ⟨_, by rw [one a fuel (by omega), Nat.gcd_zero_right]⟩
    · have hp : 0 < b := Nat.pos_of_ne_zero hz
      obtain ⟨f, rfl⟩ : ∃ f, fuel = f + 1 := ⟨fuel - 1, by omega⟩
      rw [step a b f hp, Nat.gcd_comm a b, Nat.gcd_rec b a]
      have hlt := Nat.mod_lt a hp
      by_cases hr : a % b = 0
      · rw [hr]
        exact ⟨_, by rw [one b f (by omega), Nat.gcd_zero_left]⟩
      · have hrp : 0 < a % b := Nat.pos_of_ne_zero hr
        obtain ⟨g, rfl⟩ : ∃ g, f = g + 1 := ⟨f - 1, by omega⟩
        rw [step b (a % b) g hrp, Nat.gcd_rec (a % b) b, Nat.gcd_comm]
        have h2 := mod_half hrp (Nat.le_of_lt hlt)
        exact ih (a % b) (b % (a % b)) g (by rw [Nat.pow_succ] at h; omega) (by omega)
theorem run_deep (n : Nat) (a b : Int) (S : Store) (hb : Sz 400000 b) : Phi (n + 1) i_law_deep [.int a, .int b] S = .ok (.int (Int.gcd a b : Nat)) S := by
  rw [phiR n rfl (f := f_law_deep) rfl _ S rfl]
  have ea : (if a < 0 then -a else a) = (a.natAbs : Int) := by split <;> omega
  have eb : (if b < 0 then -b else b) = (b.natAbs : Int) := by split <;> omega
  obtain ⟨r', hl⟩ := deep_loop (S := S) (c := evE cv (Phi n) (.cmp .gt (.var 1) (.int 0))) (body := evB cv (Phi n) [.par [0, 1] [.var 1, .bin .mod (.blt .int [.var 0]) (.var 1)]])
    (fun x y => by simp [getR]) (fun x y hy => by
      have hm : (y : Int) ≠ 0 := by omega
      simp [getR, bin_mod _ _ _ hm, setAll]
      exact Int.ofNat_fmod x y |>.symm) 400000 a.natAbs b.natAbs bigFuel hb (by decide)
  simp [f_law_deep, getR, setAll, ea, eb, hl]
  rfl
theorem run_low (n : Nat) (t l : Int) (S : Store) (hl : l ≠ 0) (hs : Sz 9000 l) : Phi (n + 2) i_law_low [.int t, .int l] S = .ok (qd (Rat.divInt t l)) S := by
  rw [phiR (n + 1) rfl (f := f_law_low) rfl _ S rfl]
  have hd := callR_pure (run_deep n t l S (hs.mono (by omega))) rfl
  have hgp : 0 < Int.gcd t l := by
    rw [Int.gcd_pos_iff]; exact .inr hl
  have hg9 := gcd_sz (t := t) hl hs
  obtain ⟨e1, e2⟩ := ratio_eq (t := t) hl _ rfl
  by_cases hp : 0 < l
  · rw [if_pos hp] at e1 e2
    have k1 : okDiv t (Int.gcd t l : Int) = true := okDiv_of (by omega) hg9
    have k2 : okDiv l (Int.gcd t l : Int) = true := okDiv_of (by omega) hg9
    simp [f_law_low, getR, hp, hd, bin_fdiv _ _ _ k1, bin_fdiv _ _ _ k2, e1, e2, qd]
  · rw [if_neg hp] at e1 e2
    have k1 : okDiv t (-(Int.gcd t l : Int)) = true := okDiv_of (by omega) hg9.neg
    have k2 : okDiv l (-(Int.gcd t l : Int)) = true := okDiv_of (by omega) hg9.neg
    simp [f_law_low, getR, hp, hd, bin_fdiv _ _ _ k1, bin_fdiv _ _ _ k2, e1, e2, qd]
theorem add_eq' (a b : Rat) : Rat.divInt (a.num * b.den + b.num * a.den) (a.den * b.den) = a + b := by
  rw [← Rat.divInt_add_divInt _ _ (den_ne a) (den_ne b), divInt_self', divInt_self']
theorem sub_eq' (a b : Rat) : Rat.divInt (a.num * b.den - b.num * a.den) (a.den * b.den) = a - b := by
  rw [← Rat.divInt_sub_divInt _ _ (den_ne a) (den_ne b), divInt_self', divInt_self']
theorem mul_eq' (a b : Rat) : Rat.divInt (a.num * b.num) (a.den * b.den) = a * b := by
  rw [← Rat.divInt_mul_divInt, divInt_self', divInt_self']
theorem run_lplus (n : Nat) (a b : Rat) (S : Store) (ha : Sm a) (hb : Sm b) : Phi (n + 3) i_law_plus [qd a, qd b] S = .ok (qd (a + b)) S := by
  rw [phiR (n + 2) rfl (f := f_law_plus) rfl _ S rfl]
  have m1 : okMul a.num b.den = true := okMul_of (ha.1.mono (by omega)) (hb.2.mono (by omega))
  have m2 : okMul b.num a.den = true := okMul_of (hb.1.mono (by omega)) (ha.2.mono (by omega))
  have m3 : okMul a.den b.den = true := okMul_of (ha.2.mono (by omega)) (hb.2.mono (by omega))
  have hne : (a.den : Int) * b.den ≠ 0 := Int.mul_ne_zero (den_ne a) (den_ne b)
  have hr := callR_pure (run_low n (a.num * b.den + b.num * a.den) (a.den * b.den) S hne ((ha.2.mul hb.2).mono (by omega))) (qd_nl _)
  rw [add_eq'] at hr
  simp [f_law_plus, getR, qd, bin_mul _ _ _ m1, bin_mul _ _ _ m2, bin_mul _ _ _ m3, hr]
theorem run_lminus (n : Nat) (a b : Rat) (S : Store) (ha : Sm a) (hb : Sm b) : Phi (n + 3) i_law_minus [qd a, qd b] S = .ok (qd (a - b)) S := by
  rw [phiR (n + 2) rfl (f := f_law_minus) rfl _ S rfl]
  have m1 : okMul a.num b.den = true := okMul_of (ha.1.mono (by omega)) (hb.2.mono (by omega))
  have m2 : okMul b.num a.den = true := okMul_of (hb.1.mono (by omega)) (ha.2.mono (by omega))
  have m3 : okMul a.den b.den = true := okMul_of (ha.2.mono (by omega)) (hb.2.mono (by omega))
  have hne : (a.den : Int) * b.den ≠ 0 := Int.mul_ne_zero (den_ne a) (den_ne b)
  have hr := callR_pure (run_low n (a.num * b.den - b.num * a.den) (a.den * b.den) S hne ((ha.2.mul hb.2).mono (by omega))) (qd_nl _)
  rw [sub_eq'] at hr
  simp [f_law_minus, getR, qd, bin_mul _ _ _ m1, bin_mul _ _ _ m2, bin_mul _ _ _ m3, hr]
theorem run_lprod (n : Nat) (a b : Rat) (S : Store) (ha : Sm a) (hb : Sm b) : Phi (n + 3) i_law_prod [qd a, qd b] S = .ok (qd (a * b)) S := by
  rw [phiR (n + 2) rfl (f := f_law_prod) rfl _ S rfl]
  have m1 : okMul a.num b.num = true := okMul_of (ha.1.mono (by omega)) (hb.1.mono (by omega))
  have m3 : okMul a.den b.den = true := okMul_of (ha.2.mono (by omega)) (hb.2.mono (by omega))
  have hne : (a.den : Int) * b.den ≠ 0 := Int.mul_ne_zero (den_ne a) (den_ne b)
  have hr := callR_pure (run_low n (a.num * b.num) (a.den * b.den) S hne ((ha.2.mul hb.2).mono (by omega))) (qd_nl _)
  rw [mul_eq'] at hr
  simp [f_law_prod, getR, qd, bin_mul _ _ _ m1, bin_mul _ _ _ m3, hr]
theorem run_lper (n : Nat) (a b : Rat) (S : Store) (ha : Sm a) (hb : Sm b) (h0 : b ≠ 0) : Phi (n + 3) i_law_per [qd a, qd b] S = .ok (qd (a / b)) S := by
  rw [phiR (n + 2) rfl (f := f_law_per) rfl _ S rfl]
  have m1 : okMul a.num b.den = true := okMul_of (ha.1.mono (by omega)) (hb.2.mono (by omega))
  have m3 : okMul a.den b.num = true := okMul_of (ha.2.mono (by omega)) (hb.1.mono (by omega))
  have hn : b.num ≠ 0 := fun e => h0 (Rat.num_eq_zero.mp e)
  have hne : (a.den : Int) * b.num ≠ 0 := Int.mul_ne_zero (den_ne a) hn
  have hr := callR_pure (run_low n (a.num * b.den) (a.den * b.num) S hne ((ha.2.mul hb.1).mono (by omega))) (qd_nl _)
  rw [over_eq h0] at hr
  simp [f_law_per, getR, qd, bin_mul _ _ _ m1, bin_mul _ _ _ m3, hr]
end K77
namespace K77
open PySem Pz

/-! ### equality of plain values -/
theorem eqD_int (S : Store) (ng : Bool) (a b : Int) : eqD S ng (.int a) (.int b) = .ok (.bl (ng != decide (a = b))) S := by
  have e : PyData.eqv (.int a) (.int b) = decide (a = b) := by
    first | rfl | (simp [PyData.eqv]) | (unfold PyData.eqv; simp [BEq.beq])
  show (if SeqAt.shaped (.int a) && SeqAt.shaped (.int b) then Res.ok (Dt.bl (ng != PyData.eqv (.int a) (.int b))) S else .bad) = _
  rw [e]
  rfl
/-- a list, wherever it lies -/
def IsL (S : Store) (d : Dt) (xs : List Dt) : Prop := asTup d = none ∧ asLst S d = some xs
theorem isL_lst (S : Store) (xs : List Dt) : IsL S (.lst xs) xs := ⟨rfl, rfl⟩
theorem isL_loc {S : Store} {n : Nat} {xs : List Dt} (h : S[n]? = some xs) : IsL S (.loc n) xs := ⟨rfl, h⟩
theorem IsL.seq {S : Store} {d : Dt} {xs : List Dt} (h : IsL S d xs) : asSeq S d = some xs := by
  unfold asSeq
  rw [h.1]; exact h.2
theorem IsL.ix {S : Store} {d : Dt} {xs : List Dt} (h : IsL S d xs) {k : Nat} {x : Dt} (hx : xs[k]? = some x) : ixD S d (.int k) = .ok x S := by
  unfold ixD
  simp only [h.seq, atI_nat hx]
theorem IsL.len {S : Store} {d : Dt} {xs : List Dt} (h : IsL S d xs) : bltD S .len [d] = .ok (.int xs.length) S := by
  simp [bltD, arg1, h.seq, optK]
theorem IsL.sl {S : Store} {d : Dt} {xs : List Dt} (h : IsL S d xs) (l u : Option Int) : slK d l u S = .ok (.lst (cutD xs l u)) S := by
  unfold slK
  simp only [h.1, h.2]
theorem cutD_nat {xs : List Dt} {lo hi : Nat} (h1 : lo ≤ hi) (h2 : hi ≤ xs.length) : cutD xs (some (lo : Int)) (some (hi : Int)) = (xs.drop lo).take (hi - lo) := by
  unfold cutD
  have e1 : min lo xs.length = lo := Nat.min_eq_left (by omega)
  have e2 : min hi xs.length = hi := Nat.min_eq_left h2
  simp only [HT.sIx_nat, e1, e2]

/-! ### rows -/
/-- the number at a place -/
def val (R : Int × List Rat) (k : Int) : Rat := if R.1 ≤ k then R.2.getD (k - R.1).toNat 0 else 0
def rd (R : Int × List Rat) : Dt := .tup [.int R.1, .tup (R.2.map qd)]
@[simp] theorem ixD_rd0 (S : Store) (R : Int × List Rat) : ixD S (rd R) (.int 0) = .ok (.int R.1) S := ixD_t0 ..
@[simp] theorem ixD_rd1 (S : Store) (R : Int × List Rat) : ixD S (rd R) (.int 1) = .ok (.tup (R.2.map qd)) S := ixD_t1 ..
@[simp] theorem ixD_qd0 (S : Store) (q : Rat) : ixD S (qd q) (.int 0) = .ok (.int q.num) S := ixD_t0 ..
@[simp] theorem ixD_qd1 (S : Store) (q : Rat) : ixD S (qd q) (.int 1) = .ok (.int q.den) S := ixD_t1 ..
theorem nlAll_qd : ∀ qs : List Rat, nlAll (qs.map qd) = true
  | [] => rfl
  | q :: qs => by show ((qd q).nl && nlAll (qs.map qd)) = true; rw [nlAll_qd qs]; rfl
theorem rd_nl (R : Int × List Rat) : (rd R).nl = true := by
  show ((Dt.int R.1).nl && (nlAll (R.2.map qd) && true)) = true
  rw [nlAll_qd]; rfl
/-- laid: without noughts at its ends -/
structure Nf (R : Int × List Rat) : Prop where
  nil : R.2 = [] → R.1 = 0
  hd : ∀ q, R.2.head? = some q → q ≠ 0
  last : ∀ q, R.2.getLast? = some q → q ≠ 0
/-- the row without its outer noughts -/
def lo (qs : List Rat) : Nat := (qs.takeWhile fun q => decide (q = 0)).length
def core (qs : List Rat) : List Rat := (qs.dropWhile fun q => decide (q = 0))
theorem num_zero (q : Rat) : decide (q.num = 0) = decide (q = 0) := by
  by_cases h : q = 0
  · subst h; rfl
  · rw [decide_eq_false h, decide_eq_false fun e => h (Rat.num_eq_zero.mp e)]
theorem getD_of {α : Type} {l : List α} {i : Nat} {a d : α} (h : l[i]? = some a) : l.getD i d = a := by
  rw [List.getD_eq_getElem?_getD, h]; rfl
theorem getD_take {qs : List Rat} {m c : Nat} : (qs.take c).getD m 0 = if m < c then qs.getD m 0 else 0 := by
  rw [List.getD_eq_getElem?_getD, List.getD_eq_getElem?_getD, List.getElem?_take]
  split <;> rfl
theorem getD_drop {qs : List Rat} {m i : Nat} : (qs.drop i).getD m 0 = qs.getD (i + m) 0 := by
  rw [List.getD_eq_getElem?_getD, List.getD_eq_getElem?_getD, List.getElem?_drop]
theorem val_trim {qs : List Rat} {s : Int} {i j : Nat} (h1 : ∀ m < i, qs.getD m 0 = 0) (h2 : ∀ m, j ≤ m → qs.getD m 0 = 0) (k : Int) : val (s + (i : Int), (qs.drop i).take (j - i)) k = val (s, qs) k := by
  unfold val
  dsimp only
  by_cases hk : s ≤ k
  · rw [if_pos hk]
    by_cases hi : s + (i : Int) ≤ k
    · rw [if_pos hi, getD_take, getD_drop]
      have e : i + (k - (s + (i : Int))).toNat = (k - s).toNat := by omega
      rw [e]
      split
      · rfl
      · rw [h2 _ (by omega)]
    · rw [if_neg hi, h1 _ (by omega)]
  · rw [if_neg hk, if_neg (by omega)]
theorem val_zero {qs : List Rat} {s : Int} (h : ∀ m, qs.getD m 0 = 0) (k : Int) : val (0, []) k = val (s, qs) k := by
  have e : ∀ m, ([] : List Rat).getD m 0 = 0 := fun m => rfl
  unfold val
  dsimp only
  rw [h, e]
  split <;> split <;> rfl
theorem getD_big {qs : List Rat} {m : Nat} (h : qs.length ≤ m) : qs.getD m 0 = 0 := by
  rw [List.getD_eq_getElem?_getD, List.getElem?_eq_none h]; rfl
theorem nf_nought : Nf (0, []) := ⟨fun _ => rfl, fun q h => (by cases h), fun q h => (by cases h)⟩
theorem nf_trim {qs : List Rat} {s : Int} {i j : Nat} (hij : i < j) (hj : j ≤ qs.length) (h1 : qs.getD i 0 ≠ 0) (h2 : qs.getD (j - 1) 0 ≠ 0) : Nf (s, (qs.drop i).take (j - i)) := by
  have hl : ((qs.drop i).take (j - i)).length = j - i := by rw [List.length_take, List.length_drop]; omega
  refine ⟨fun e => ?_, fun q h => ?_, fun q h => ?_⟩
  · have e : (qs.drop i).take (j - i) = [] := e
    rw [e] at hl
    simp at hl; omega
  · have h : ((qs.drop i).take (j - i)).head? = some q := h
    rw [List.head?_eq_getElem?, List.getElem?_take_of_lt (by omega), List.getElem?_drop] at h
    rw [← getD_of (d := 0) h]
    exact h1
  · have h : ((qs.drop i).take (j - i)).getLast? = some q := h
    rw [List.getLast?_eq_getElem?, hl, List.getElem?_take_of_lt (by omega), List.getElem?_drop, show i + (j - i - 1) = j - 1 by omega] at h
    rw [← getD_of (d := 0) h]
    exact h2
/-- row_by: the part between the outer noughts -/
theorem run_row_by (n : Nat) (s : Int) (d : Dt) (qs : List Rat) (S : Store) (h : IsL S d (qs.map qd)) (hl : qs.length < 900000) :
    ∃ R, Phi (n + 1) i_row_by [.int s, d] S = .ok (rd R) S ∧ Nf R ∧ (∀ k, val R k = val (s, qs) k) ∧ R.2.length ≤ qs.length ∧ (∀ q ∈ R.2, q ∈ qs) := by
  rw [phiR n rfl (f := f_row_by) rfl _ S rfl]
  have ixn : ∀ (i : Nat) (hi : i < qs.length), ixD S d (.int i) = .ok (qd qs[i]) S := fun i hi => h.ix (by simp [hi])
  -- the first loop
  obtain ⟨r1, S1, e1, i, rfl, rfl, hi, hz, hnz⟩ := while_inv (c := evE cv (Phi n) (.and_ (.cmp .lt (.var 2) (.var 3)) (.eq false (.ix (.ix (.var 1) (.var 2)) (.int 0)) (.int 0)))) (body := evB cv (Phi n) [.aug 2 false (.int 1)])
    (fun m r S' => ∃ i : Nat, m = qs.length - i ∧ i ≤ qs.length ∧ S' = S ∧ r = [some (.int s), some d, some (.int i), some (.int qs.length)] ∧ ∀ j < i, qs.getD j 0 = 0)
    (fun r S' => ∃ i : Nat, S' = S ∧ r = [some (.int s), some d, some (.int i), some (.int qs.length)] ∧ i ≤ qs.length ∧ (∀ j < i, qs.getD j 0 = 0) ∧ (i < qs.length → qs.getD i 0 ≠ 0))
    (by
      rintro m r S' ⟨i, rfl, hi, rfl, rfl, hz⟩
      by_cases hlt : i < qs.length
      · have hq : qs[i]? = some qs[i] := List.getElem?_eq_getElem hlt
        have e : decide ((i : Int) < (qs.length : Int)) = true := decide_eq_true (by omega)
        by_cases h0 : qs[i] = 0
        · refine .inr ⟨S', ?_, _, S', qs.length - (i + 1), ?_, by omega, i + 1, rfl, hlt, rfl, rfl, fun j hj => ?_⟩
          · simp [getR, hlt, ixn i hlt, qd, eqD_int, h0]
          · simp [getR, augK]
          · by_cases hji : j < i
            · exact hz j hji
            · obtain rfl : j = i := by omega
              rw [getD_of hq]; exact h0
        · refine .inl ⟨?_, i, rfl, rfl, hi, hz, fun _ => by rw [getD_of hq]; exact h0⟩
          have hn : qs[i].num ≠ 0 := fun e => h0 (Rat.num_eq_zero.mp e)
          simp [getR, hlt, ixn i hlt, qd, eqD_int, hn]
      · have e : ¬ ((i : Int) < (qs.length : Int)) := by omega
        exact .inl ⟨by simp [getR, hlt], i, rfl, rfl, hi, hz, fun z => absurd z hlt⟩)
    bigFuel qs.length [some (.int s), some d, some (.int (0 : Nat)), some (.int qs.length)] S (by unfold bigFuel; omega) ⟨0, by simp, Nat.zero_le _, rfl, rfl, fun j hj => absurd hj (Nat.not_lt_zero _)⟩
  -- the second
  obtain ⟨r2, S2, e2, j, rfl, rfl, hij, hj, hz2, hnz2⟩ := while_inv (c := evE cv (Phi n) (.and_ (.cmp .lt (.var 2) (.var 3)) (.eq false (.ix (.ix (.var 1) (.bin .sub (.var 3) (.int 1))) (.int 0)) (.int 0)))) (body := evB cv (Phi n) [.aug 3 true (.int 1)])
    (fun m r S' => ∃ j : Nat, m = j - i ∧ i ≤ j ∧ j ≤ qs.length ∧ S' = S1 ∧ r = [some (.int s), some d, some (.int i), some (.int j)] ∧ ∀ m, j ≤ m → qs.getD m 0 = 0)
    (fun r S' => ∃ j : Nat, S' = S1 ∧ r = [some (.int s), some d, some (.int i), some (.int j)] ∧ i ≤ j ∧ j ≤ qs.length ∧ (∀ m, j ≤ m → qs.getD m 0 = 0) ∧ (i < j → qs.getD (j - 1) 0 ≠ 0))
    (by
      rintro m r S' ⟨j, rfl, hij, hj, rfl, rfl, hz2⟩
      by_cases hlt : i < j
      · have hj1 : j - 1 < qs.length := by omega
        have hq : qs[j - 1]? = some qs[j - 1] := List.getElem?_eq_getElem hj1
        have ej : ((j : Int) - 1) = ((j - 1 : Nat) : Int) := by omega
        by_cases h0 : qs[j - 1] = 0
        · refine .inr ⟨S', ?_, _, S', (j - 1) - i, ?_, by omega, j - 1, rfl, by omega, by omega, rfl, rfl, fun m hm => ?_⟩
          · simp [getR, hlt, ej, ixn (j - 1) hj1, qd, eqD_int, h0]
          · simp [getR, augK, ej]
          · by_cases hmj : j ≤ m
            · exact hz2 m hmj
            · obtain rfl : m = j - 1 := by omega
              rw [getD_of hq]; exact h0
        · refine .inl ⟨?_, j, rfl, rfl, hij, hj, hz2, fun _ => by rw [getD_of hq]; exact h0⟩
          have hn : qs[j - 1].num ≠ 0 := fun e => h0 (Rat.num_eq_zero.mp e)
          simp [getR, hlt, ej, ixn (j - 1) hj1, qd, eqD_int, hn]
      · exact .inl ⟨by simp [getR, hlt], j, rfl, rfl, hij, hj, hz2, fun z => absurd z hlt⟩)
    bigFuel (qs.length - i) [some (.int s), some d, some (.int i), some (.int qs.length)] S1 (by unfold bigFuel; omega) ⟨qs.length, rfl, hi, Nat.le_refl _, rfl, rfl, fun m hm => getD_big hm⟩
  have hlen : bltD S2 .len [d] = .ok (.int qs.length) S2 := by rw [h.len, List.length_map]
  rw [show (((0 : Nat) : Int)) = 0 from rfl] at e1
  by_cases hlt : i < j
  · refine ⟨(s + (i : Int), (qs.drop i).take (j - i)), ?_, nf_trim hlt hj (hnz (by omega)) (hnz2 hlt), val_trim hz hz2, by rw [List.length_take, List.length_drop]; omega, fun q hq => List.mem_of_mem_drop (List.mem_of_mem_take hq)⟩
    have hsl : slK d (some (i : Int)) (some (j : Int)) S2 = .ok (.lst (((qs.map qd).drop i).take (j - i))) S2 := by rw [h.sl, cutD_nat hij (by rw [List.length_map]; exact hj)]
    simp [f_row_by, getR, hlen, setAll, e1, e2, hlt, IEx.isAbs, partK, hsl, rd, List.map_take, List.map_drop]
  · have hz3 : ∀ m, qs.getD m 0 = 0 := fun m => by
      by_cases hm : m < i
      · exact hz m hm
      · exact hz2 m (by omega)
    refine ⟨(0, []), ?_, nf_nought, val_zero hz3, Nat.zero_le _, fun q hq => by cases hq⟩
    simp [f_row_by, getR, hlen, setAll, e1, e2, hlt]
    rfl
theorem val_in {R : Int × List Rat} {k : Int} (h : R.1 ≤ k) : val R k = R.2.getD (k - R.1).toNat 0 := if_pos h
theorem val_out {R : Int × List Rat} {k : Int} (h : ¬ (R.1 ≤ k ∧ k < R.1 + R.2.length)) : val R k = 0 := by
  unfold val
  split
  · exact getD_big (by omega)
  · rfl
theorem cv_ZERO : cv c_ZERO = qd 0 := (rfl)
theorem cv_ONE : cv c_ONE = qd 1 := (rfl)
theorem cv_NOUGHT : cv c_NOUGHT = rd (0, []) := (rfl)
theorem run_end (n : Nat) (R : Int × List Rat) (S : Store) : Phi (n + 1) i_end_of [rd R] S = .ok (.int (R.1 + R.2.length)) S := by
  rw [phiR n rfl (f := f_end_of) rfl _ S rfl]
  simp [f_end_of, getR, rd]
theorem run_at (n : Nat) (R : Int × List Rat) (k : Int) (S : Store) : Phi (n + 2) i_at_place [rd R, .int k] S = .ok (qd (val R k)) S := by
  rw [phiR (n + 1) rfl (f := f_at_place) rfl _ S rfl]
  have he := callR_pure (run_end n R S) rfl
  by_cases h1 : R.1 ≤ k
  · by_cases h2 : k < R.1 + R.2.length
    · have hi : (k - R.1).toNat < R.2.length := by omega
      have hq : (R.2.map qd)[(k - R.1).toNat]? = some (qd (val R k)) := by
        rw [List.getElem?_map, val_in h1, List.getElem?_eq_getElem hi, getD_of (List.getElem?_eq_getElem hi)]
        rfl
      have hx := ixD_tup (S := S) hq
      have ek : (((k - R.1).toNat : Nat) : Int) = k - R.1 := by omega
      rw [ek] at hx
      simp only [rd] at he
      simp [f_at_place, getR, rd, chainK, h1, h2, he, hx]
    · have hv : val R k = 0 := val_out fun h => h2 h.2
      simp only [rd] at he
      simp [f_at_place, getR, rd, chainK, h1, h2, he, hv, cv_ZERO]
  · have hv : val R k = 0 := val_out fun h => h1 h.1
    simp [f_at_place, getR, rd, chainK, h1, hv, cv_ZERO]
theorem filterMap_some {α β : Type} (f : α → β) (l : List α) : l.filterMap (fun x => some (f x)) = l.map f := by
  induction l with
  | nil => rfl
  | cons a l ih => simp [ih]
/-- all numbers of a row -/
def AllSm (qs : List Rat) : Prop := ∀ q ∈ qs, Sm q
theorem val_mem {R : Int × List Rat} {k : Int} (h : val R k ≠ 0) : val R k ∈ R.2 := by
  unfold val at *
  split at h
  · rename_i hk
    rw [if_pos hk]
    by_cases hl : (k - R.1).toNat < R.2.length
    · rw [getD_of (List.getElem?_eq_getElem hl)]
      exact List.getElem_mem hl
    · exact absurd (getD_big (by omega)) h
  · exact absurd rfl h
theorem run_scaled (n : Nat) (R : Int × List Rat) (c : Rat) (S : Store) (hR : AllSm R.2) (hc : Sm c) (hl : R.2.length < 900000) :
    ∃ R', Phi (n + 4) i_row_scaled [rd R, qd c] S = .ok (rd R') S ∧ Nf R' ∧ (∀ k, val R' k = val R k * c) ∧ R'.2.length ≤ R.2.length := by
  obtain ⟨R', h1, h2, h3, h4, h5⟩ := run_row_by (n + 2) R.1 (.lst ((R.2.map (· * c)).map qd)) (R.2.map (· * c)) S (isL_lst _ _) (by rw [List.length_map]; exact hl)
  refine ⟨R', ?_, h2, fun k => ?_, by rw [List.length_map] at h4; exact h4⟩
  · rw [phiR (n + 3) rfl (f := f_row_scaled) rfl _ S rfl]
    have hcomp : compK [2] (evI cv (Phi (n + 3)) (.seq (.ix (.var 0) (.int 1)))) (evT cv (Phi (n + 3)) (.nm 2)) (evC cv (Phi (n + 3)) []) (evE cv (Phi (n + 3)) (.call i_times [.var 2, .var 1])) [some (rd R), some (qd c), none] S = .ok (.lst (R.2.map fun q => qd (q * c))) S :=
      comp_map (src := []) qd (fun q => qd (q * c)) (by simp [getR]) (by omega) rfl fun q hq => by
        have ht := callR_pure (run_times n q c S (hR q hq) hc) (qd_nl _)
        simp [getR, ht]
    have hr := callR_pure h1 (rd_nl _)
    rw [List.map_map] at hr
    have hr : callR (Phi (n + 3)) i_row_by [.int R.1, .lst (R.2.map fun q => qd (q * c))] S = .ok (rd R') S := hr
    simp [f_row_scaled, getR, hcomp, hr]
  · rw [h3]
    unfold val
    dsimp only
    split
    · rw [List.getD_eq_getElem?_getD, List.getElem?_map, List.getD_eq_getElem?_getD]
      cases R.2[(k - R.1).toNat]? <;> simp
    · simp
end K77
namespace K77
open PySem Pz

/-! ### common denominators -/
/-- a fraction with the denominator D, its numerator at most N -/
def Fr (N D : Nat) (q : Rat) : Prop := ∃ a : Int, q = Rat.divInt a D ∧ a.natAbs ≤ N
theorem Fr.sm {N D : Nat} {q : Rat} (h : Fr N D q) (hD : 0 < D) (hN : Sz 4000 N) (hd : Sz 4000 D) : Sm q := by
  obtain ⟨a, rfl, ha⟩ := h
  have hD' : (D : Int) ≠ 0 := by omega
  have h1 := (ratio_eq (t := a) hD' _ rfl)
  rw [if_pos (by omega : (0 : Int) < (D : Int))] at h1
  obtain ⟨e1, e2⟩ := h1
  have hg : 0 < Int.gcd a D := by rw [Int.gcd_pos_iff]; exact .inr hD'
  constructor
  · rw [← e1]
    refine hN.of_le ?_
    rw [Int.fdiv_eq_ediv_of_nonneg _ (by omega), Int.natAbs_natCast]
    obtain ⟨t, ht⟩ : (Int.gcd a D : Int) ∣ a := Int.gcd_dvd_left ..
    generalize Int.gcd a D = g at *
    rw [ht, Int.mul_ediv_cancel_left _ (by omega)]
    rw [ht, Int.natAbs_mul, Int.natAbs_natCast] at ha
    exact Nat.le_trans (Nat.le_mul_of_pos_left _ hg) ha
  · rw [← e2]
    refine hd.of_le ?_
    rw [Int.fdiv_eq_ediv_of_nonneg _ (by omega), Int.natAbs_natCast]
    obtain ⟨t, ht⟩ : (Int.gcd a D : Int) ∣ (D : Int) := Int.gcd_dvd_right ..
    have hDn : ((D : Int)).natAbs = D := Int.natAbs_natCast D
    generalize Int.gcd a D = g at *
    rw [ht, Int.mul_ediv_cancel_left _ (by omega)]
    rw [ht, Int.natAbs_mul, Int.natAbs_natCast] at hDn
    rw [← hDn]
    exact Nat.le_mul_of_pos_left _ hg
theorem Fr.mono {N M D : Nat} {q : Rat} (h : Fr N D q) (k : N ≤ M) : Fr M D q := let ⟨a, e, ha⟩ := h; ⟨a, e, Nat.le_trans ha k⟩
theorem Fr.zero {N D : Nat} : Fr N D 0 := ⟨0, by rw [Rat.zero_divInt], Nat.zero_le _⟩
theorem Fr.add {N M D : Nat} {p q : Rat} (h : Fr N D p) (k : Fr M D q) (hD : 0 < D) : Fr (N + M) D (p + q) := by
  obtain ⟨a, rfl, ha⟩ := h
  obtain ⟨b, rfl, hb⟩ := k
  have hD' : (D : Int) ≠ 0 := by omega
  refine ⟨a + b, ?_, Nat.le_trans (Int.natAbs_add_le a b) (Nat.add_le_add ha hb)⟩
  rw [Rat.divInt_add_divInt _ _ hD' hD', ← Int.add_mul, Rat.divInt_mul_right hD']
theorem Fr.mul {N M D E : Nat} {p q : Rat} (h : Fr N D p) (k : Fr M E q) : Fr (N * M) (D * E) (p * q) := by
  obtain ⟨a, rfl, ha⟩ := h
  obtain ⟨b, rfl, hb⟩ := k
  refine ⟨a * b, ?_, by rw [Int.natAbs_mul]; exact Nat.mul_le_mul ha hb⟩
  rw [Rat.divInt_mul_divInt]
  rfl
theorem Fr.neg {N D : Nat} {p : Rat} (h : Fr N D p) : Fr N D (-p) := by
  obtain ⟨a, rfl, ha⟩ := h
  exact ⟨-a, by rw [Rat.neg_divInt], by rw [Int.natAbs_neg]; exact ha⟩
/-! ### sums -/
def sm (n : Nat) (f : Nat → Rat) : Rat := match n with
  | 0 => 0
  | n + 1 => sm n f + f n
/-- xs[k] += v -/
def addAt (xs : List Rat) (k : Nat) (v : Rat) : List Rat := xs.set k (xs.getD k 0 + v)
theorem addAt_len {xs : List Rat} {k : Nat} {v : Rat} : (addAt xs k v).length = xs.length := List.length_set
theorem addAt_get {xs : List Rat} {k m : Nat} {v : Rat} (h : k < xs.length) : (addAt xs k v).getD m 0 = xs.getD m 0 + if k = m then v else 0 := by
  unfold addAt
  rw [List.getD_eq_getElem?_getD, List.getElem?_set]
  by_cases e : k = m
  · subst e
    rw [if_pos rfl, if_pos h, if_pos rfl]
    rfl
  · rw [if_neg e, if_neg e, ← List.getD_eq_getElem?_getD, Rat.add_zero]
/-- the row of one number of the first, over the second's -/
def accIn (a : Rat) : Nat → List Rat → List Rat → List Rat
  | _, [], xs => xs
  | k, b :: bs, xs => accIn a (k + 1) bs (addAt xs k (a * b))
def accOut (bs : List Rat) : Nat → List Rat → List Rat → List Rat
  | _, [], xs => xs
  | i, a :: as, xs => accOut bs (i + 1) as (accIn a i bs xs)
theorem accIn_len {a : Rat} : ∀ {bs : List Rat} {k : Nat} {xs : List Rat}, (accIn a k bs xs).length = xs.length
  | [], _, _ => rfl
  | b :: bs, k, xs => by unfold accIn; rw [accIn_len, addAt_len]
theorem accOut_len {bs : List Rat} : ∀ {as : List Rat} {i : Nat} {xs : List Rat}, (accOut bs i as xs).length = xs.length
  | [], _, _ => rfl
  | a :: as, i, xs => by unfold accOut; rw [accOut_len, accIn_len]
theorem accIn_get {a : Rat} : ∀ {bs : List Rat} {k : Nat} {xs : List Rat} (m : Nat), k + bs.length ≤ xs.length → (accIn a k bs xs).getD m 0 = xs.getD m 0 + a * (if k ≤ m then bs.getD (m - k) 0 else 0)
  | [], k, xs, m, _ => by
    unfold accIn
    have : ([] : List Rat).getD (m - k) 0 = 0 := rfl
    rw [this]
    split <;> rw [Rat.mul_zero, Rat.add_zero]
  | b :: bs, k, xs, m, h => by
    rw [List.length_cons] at h
    unfold accIn
    rw [accIn_get m (by rw [addAt_len]; omega), addAt_get (by omega)]
    by_cases e : k = m
    · subst e
      rw [if_pos rfl, if_neg (by omega), if_pos (Nat.le_refl _), Nat.sub_self]
      have : (b :: bs).getD 0 0 = b := rfl
      rw [this, Rat.mul_zero, Rat.add_zero]
    · rw [if_neg e]
      by_cases hk : k + 1 ≤ m
      · rw [if_pos hk, if_pos (by omega)]
        have : (b :: bs).getD (m - k) 0 = bs.getD (m - (k + 1)) 0 := by
          rw [show m - k = (m - (k + 1)) + 1 by omega]; rfl
        rw [this, Rat.add_zero]
      · rw [if_neg hk, if_neg (by omega), Rat.mul_zero, Rat.add_zero, Rat.add_zero]
/-- what the two loops of a product make -/
theorem accOut_get {bs : List Rat} : ∀ {as : List Rat} {i : Nat} {xs : List Rat} (m : Nat), i + as.length + bs.length ≤ xs.length + 1 → (accOut bs i as xs).getD m 0 = xs.getD m 0 + sm as.length fun j => as.getD j 0 * (if i + j ≤ m then bs.getD (m - (i + j)) 0 else 0)
  | [], i, xs, m, _ => by
    unfold accOut
    show _ = _ + (0 : Rat)
    rw [Rat.add_zero]
  | a :: as, i, xs, m, h => by
    rw [List.length_cons] at h
    unfold accOut
    rw [accOut_get m (by rw [accIn_len]; omega), accIn_get m (by omega)]
    have key : ∀ (n : Nat) (f : Nat → Rat), sm (n + 1) f = f 0 + sm n fun j => f (j + 1) := by
      intro n
      induction n with
      | zero => intro f; show (0 : Rat) + f 0 = f 0 + 0; rw [Rat.zero_add, Rat.add_zero]
      | succ n ih => intro f; show sm (n + 1) f + f (n + 1) = f 0 + (sm n (fun j => f (j + 1)) + f (n + 1)); rw [ih, Rat.add_assoc]
    rw [List.length_cons, key, Rat.add_assoc]
    have e0 : (a :: as).getD 0 0 = a := rfl
    have ej : ∀ j, (a :: as).getD (j + 1) 0 = as.getD j 0 := fun j => rfl
    simp only [e0, ej, Nat.add_zero]
    have ef : (fun j => as.getD j 0 * if i + (j + 1) ≤ m then bs.getD (m - (i + (j + 1))) 0 else 0) = fun j => as.getD j 0 * if i + 1 + j ≤ m then bs.getD (m - (i + 1 + j)) 0 else 0 := by
      funext j
      rw [show i + (j + 1) = i + 1 + j by omega]
    rw [ef]
/-! ### rows, equal or not -/
theorem qd_inj {p q : Rat} (h : qd p = qd q) : p = q := by
  unfold qd at h
  injection h with h
  injection h with h1 h2
  injection h2 with h2 _
  injection h1 with h1
  injection h2 with h2
  exact Rat.ext h1 (by omega)
theorem qds_inj : ∀ {ps qs : List Rat}, ps.map qd = qs.map qd → ps = qs
  | [], [], _ => rfl
  | [], q :: qs, h => by cases h
  | p :: ps, [], h => by cases h
  | p :: ps, q :: qs, h => by
    rw [List.map_cons, List.map_cons] at h
    injection h with h1 h2
    rw [qd_inj h1, qds_inj h2]
theorem rd_inj {R T : Int × List Rat} (h : rd R = rd T) : R = T := by
  unfold rd at h
  injection h with h
  injection h with h1 h2
  injection h2 with h2 _
  injection h1 with h1
  injection h2 with h2
  exact Prod.ext h1 (qds_inj h2)
theorem pl_qds : ∀ qs : List Rat, plAll (qs.map qd) = true
  | [] => rfl
  | q :: qs => by show ((qd q).pl && plAll (qs.map qd)) = true; rw [pl_qds qs]; rfl
theorem dp_qds : ∀ qs : List Rat, dpAll (qs.map qd) ≤ 1
  | [] => Nat.zero_le _
  | q :: qs => by
    show max (qd q).dp (dpAll (qs.map qd)) ≤ 1
    have h1 : (qd q).dp = 1 := rfl
    have h2 := dp_qds qs
    omega
theorem rd_pl (R : Int × List Rat) : (rd R).pl = true := by
  show (true && (plAll (R.2.map qd) && true)) = true
  rw [pl_qds]; rfl
theorem rd_dp (R : Int × List Rat) : (rd R).dp ≤ 64 := by
  show max 0 (max (dpAll (R.2.map qd) + 1) 0) + 1 ≤ 64
  have := dp_qds R.2
  omega
theorem eq_rd (S : Store) (ng : Bool) (R T : Int × List Rat) : eqD S ng (rd R) (rd T) = .ok (.bl (ng != decide (R = T))) S := by
  rw [eqD_pl (rd_pl R) (rd_pl T) (rd_dp R) (rd_dp T)]
  have e : (rd R).same (rd T) = decide (R = T) := by
    by_cases h : R = T
    · subst h; rw [Dt.same_refl]; simp
    · rw [decide_eq_false h]
      cases q : (rd R).same (rd T) with
      | false => rfl
      | true => exact absurd (rd_inj (same_iff.mp q)) h
  rw [e]
theorem eq_qd (S : Store) (ng : Bool) (p q : Rat) : eqD S ng (qd p) (qd q) = .ok (.bl (ng != decide (p = q))) S := by
  have d1 : (qd p).dp ≤ 64 := by show (1 : Nat) ≤ 64; omega
  have d2 : (qd q).dp ≤ 64 := by show (1 : Nat) ≤ 64; omega
  rw [eqD_pl rfl rfl d1 d2]
  have e : (qd p).same (qd q) = decide (p = q) := by
    by_cases h : p = q
    · subst h; rw [Dt.same_refl]; simp
    · rw [decide_eq_false h]
      cases z : (qd p).same (qd q) with
      | false => rfl
      | true => exact absurd (qd_inj (same_iff.mp z)) h
  rw [e]
/-! ### the product -/
theorem enumL_map (k : Nat) (q : Rat) (qs : List Rat) : enumL k ((q :: qs).map qd) = .tup [.int k, qd q] :: enumL (k + 1) (qs.map qd) := (rfl)
theorem setD_loc {S : Store} {m : Nat} {xs : List Dt} {k : Nat} {v : Dt} (h : S[m]? = some xs) (hk : k < xs.length) (hv : v.nl = true) : setD S (.loc m) (.int k) v = some (S.set m (xs.set k v)) := by
  unfold setD
  have h1 : asLoc S (.loc m) = some (m, xs) := by show (S[m]?).map _ = _; rw [h]; rfl
  have h2 : asInt (.int k) = some (k : Int) := rfl
  have h3 : L2.ixN xs.length (k : Int) = some k := by
    unfold L2.ixN
    rw [if_pos (by omega), if_pos (by omega)]
    rfl
  rw [h1, Option.bind_some, h2, Option.bind_some, h3, Option.bind_some, if_pos hv]
theorem get_append {S : Store} {xs : List Dt} : (S ++ [xs])[S.length]? = some xs := by rw [List.getElem?_append_right (Nat.le_refl _), Nat.sub_self]; rfl
theorem set_append {S : Store} {xs ys : List Dt} : (S ++ [xs]).set S.length ys = S ++ [ys] := by rw [List.set_append_right _ _ (Nat.le_refl _), Nat.sub_self]; rfl
theorem getD_qd {xs : List Rat} {k : Nat} (h : k < xs.length) : (xs.map qd)[k]? = some (qd (xs.getD k 0)) := by
  rw [List.getElem?_map, List.getElem?_eq_getElem h, getD_of (List.getElem?_eq_getElem h)]
  rfl
theorem set_qd (xs : List Rat) (k : Nat) (v : Rat) : (xs.map qd).set k (qd v) = (xs.set k v).map qd := (List.map_set ..).symm
/-- the inner loop -/
theorem prod_in (n : Nat) {S : Store} {N D M E T : Nat} (hD : 0 < D) (hE : 0 < E) (hs1 : Sz 4000 (N * M : Nat)) (hs3 : Sz 4000 (T : Nat)) (hs4 : Sz 4000 (D * E : Nat)) (r0 r1 : Option Dt) (a : Rat) (ha : Fr N D a) (sa : Sm a) (i : Nat) :
    ∀ (bs : List Rat) (j : Nat) (xs : List Rat) (t : Nat) (r5 r6 : Option Dt), (∀ b ∈ bs, Fr M E b ∧ Sm b) → i + j + bs.length ≤ xs.length → (∀ x ∈ xs, Fr t (D * E) x) → t + bs.length * (N * M) ≤ T →
      ∃ r5' r6', forF (evT cv (Phi (n + 3)) (.tup [.nm 5, .nm 6])) (evB cv (Phi (n + 3)) [.asg (.sub (.var 2) (.bin .add (.var 3) (.var 5))) (.call i_plus [.ix (.var 2) (.bin .add (.var 3) (.var 5)), .call i_times [.var 4, .var 6]])]) []
        (enumL j (bs.map qd)) [r0, r1, some (.loc S.length), some (.int i), some (qd a), r5, r6] (S ++ [xs.map qd]) = .ok (.nx [r0, r1, some (.loc S.length), some (.int i), some (qd a), r5', r6']) (S ++ [(accIn a (i + j) bs xs).map qd]) ∧ ∀ x ∈ accIn a (i + j) bs xs, Fr (t + bs.length * (N * M)) (D * E) x
  | [], j, xs, t, r5, r6, _, _, hx, _ => ⟨r5, r6, rfl, fun x hm => (hx x hm).mono (by simp)⟩
  | b :: bs, j, xs, t, r5, r6, hb, hl, hx, ht => by
    rw [List.length_cons] at hl ht
    have hk : i + j < xs.length := by omega
    obtain ⟨fb, sb⟩ := hb b List.mem_cons_self
    have fab := ha.mul fb
    have sab : Sm (a * b) := fab.sm (Nat.mul_pos hD hE) hs1 hs4
    have fx : Fr t (D * E) (xs.getD (i + j) 0) := by
      rw [getD_of (List.getElem?_eq_getElem hk)]
      exact hx _ (List.getElem_mem hk)
    have sx : Sm (xs.getD (i + j) 0) := fx.sm (Nat.mul_pos hD hE) (hs3.of_le (by rw [Int.natAbs_natCast, Int.natAbs_natCast]; omega)) hs4
    have h1 := callR_pure (run_times n a b (S ++ [xs.map qd]) sa sb) (qd_nl _)
    have h2 := callR_pure (run_plus n (xs.getD (i + j) 0) (a * b) (S ++ [xs.map qd]) sx sab) (qd_nl _)
    have hx2 : ∀ x ∈ addAt xs (i + j) (a * b), Fr (t + N * M) (D * E) x := fun x hm => by
      rcases List.mem_or_eq_of_mem_set hm with hm | hm
      · exact (hx x hm).mono (by omega)
      · rw [hm]; exact fx.add fab (Nat.mul_pos hD hE)
    obtain ⟨r5', r6', e, hf⟩ := prod_in n (S := S) (T := T) hD hE hs1 hs3 hs4 r0 r1 a ha sa i bs (j + 1) (addAt xs (i + j) (a * b)) (t + N * M) (some (.int j)) (some (qd b)) (fun y hy => hb y (List.mem_cons_of_mem _ hy)) (by rw [addAt_len]; omega) hx2 (by rw [Nat.add_mul] at ht; omega)
    refine ⟨r5', r6', ?_, fun x hm => ?_⟩
    · rw [enumL_map]
      unfold forF
      have ei : ((i : Int) + (j : Int)) = ((i + j : Nat) : Int) := by omega
      have hix := ixD_loc (S := S ++ [xs.map qd]) get_append (getD_qd hk)
      have hset := setD_loc (S := S ++ [xs.map qd]) (v := qd (xs.getD (i + j) 0 + a * b)) get_append (by rw [List.length_map]; exact hk) rfl
      rw [set_append, set_qd] at hset
      obtain ⟨xv, hxv⟩ : ∃ xv, xv = xs.getD (i + j) 0 := ⟨_, rfl⟩
      rw [← hxv] at h2 hix hset
      simp only [still_nil, if_true, evT_tup, evTs_cons, evTs_nil, evT_nm, bind_okS, List.set_cons_succ, List.set_cons_zero, evB_cons, evB_nil, evS_asg, ev_call, evL_cons, evL_nil, ev_ix, ev_var, getR, List.getElem?_cons_succ, List.getElem?_cons_zero, ev_bin, bin_add, ei, hix, h1, h2, evT_sub, hset, thenB_nx]
      rw [hxv]
      exact e
    · rw [List.length_cons, show t + (bs.length + 1) * (N * M) = t + N * M + bs.length * (N * M) by rw [Nat.add_mul]; omega]
      exact hf x hm
@[simp] theorem enumK_tup (S : Store) (xs : List Dt) : enumK (.tup xs) S = .ok ⟨enumL 0 xs, []⟩ S := (rfl)
/-- the outer loop -/
theorem prod_out (n : Nat) {S : Store} {N D M E T : Nat} (hD : 0 < D) (hE : 0 < E) (hs1 : Sz 4000 (N * M : Nat)) (hs3 : Sz 4000 (T : Nat)) (hs4 : Sz 4000 (D * E : Nat)) (r0 : Option Dt) (R2 : Int × List Rat) (hb : ∀ b ∈ R2.2, Fr M E b ∧ Sm b) :
    ∀ (as : List Rat) (i : Nat) (xs : List Rat) (t : Nat) (r3 r4 r5 r6 : Option Dt), (∀ a ∈ as, Fr N D a ∧ Sm a) → i + as.length + R2.2.length ≤ xs.length + 1 → (∀ x ∈ xs, Fr t (D * E) x) → t + as.length * (R2.2.length * (N * M)) ≤ T →
      ∃ r3' r4' r5' r6', forF (evT cv (Phi (n + 3)) (.tup [.nm 3, .nm 4])) (evB cv (Phi (n + 3)) [.forr (.tup [.nm 5, .nm 6]) (.enum (.ix (.var 1) (.int 1))) [.asg (.sub (.var 2) (.bin .add (.var 3) (.var 5))) (.call i_plus [.ix (.var 2) (.bin .add (.var 3) (.var 5)), .call i_times [.var 4, .var 6]])]]) []
        (enumL i (as.map qd)) [r0, some (rd R2), some (.loc S.length), r3, r4, r5, r6] (S ++ [xs.map qd]) = .ok (.nx [r0, some (rd R2), some (.loc S.length), r3', r4', r5', r6']) (S ++ [(accOut R2.2 i as xs).map qd]) ∧ ∀ x ∈ accOut R2.2 i as xs, Fr (t + as.length * (R2.2.length * (N * M))) (D * E) x
  | [], i, xs, t, r3, r4, r5, r6, _, _, hx, _ => ⟨r3, r4, r5, r6, rfl, fun x hm => (hx x hm).mono (by simp)⟩
  | a :: as, i, xs, t, r3, r4, r5, r6, ha, hl, hx, ht => by
    rw [List.length_cons] at hl ht
    rw [Nat.add_mul, Nat.one_mul] at ht
    obtain ⟨fa, sa⟩ := ha a List.mem_cons_self
    obtain ⟨r5', r6', e1, f1⟩ := prod_in n (S := S) (T := T) hD hE hs1 hs3 hs4 r0 (some (rd R2)) a fa sa i R2.2 0 xs t r5 r6 hb (by omega) hx (by omega)
    rw [Nat.add_zero] at e1 f1
    obtain ⟨q3, q4, q5, q6, e2, f2⟩ := prod_out n (S := S) (T := T) hD hE hs1 hs3 hs4 r0 R2 hb as (i + 1) (accIn a i R2.2 xs) (t + R2.2.length * (N * M)) (some (.int i)) (some (qd a)) r5' r6' (fun y hy => ha y (List.mem_cons_of_mem _ hy)) (by rw [accIn_len]; omega) f1 (by omega)
    refine ⟨q3, q4, q5, q6, ?_, fun x hm => ?_⟩
    · rw [enumL_map]
      unfold forF
      simp only [still_nil, if_true, evT_tup, evTs_cons, evTs_nil, evT_nm, bind_okS, List.set_cons_succ, List.set_cons_zero, evB_cons, evB_nil, evS_forr, evI_enum, ev_ix, ev_var, ev_int, getR, List.getElem?_cons_succ, List.getElem?_cons_zero, ixD_rd1, enumK_tup, e1, thenB_nx]
      exact e2
    · rw [List.length_cons, show t + (as.length + 1) * (R2.2.length * (N * M)) = t + R2.2.length * (N * M) + as.length * (R2.2.length * (N * M)) by rw [Nat.add_mul]; omega]
      exact f2 x hm
/-- the product's number at a place -/
def conv (R1 R2 : Int × List Rat) (k : Int) : Rat := sm R1.2.length fun j => R1.2.getD j 0 * val R2 (k - R1.1 - (j : Nat))
theorem sm_congr {n : Nat} {f g : Nat → Rat} (h : ∀ j < n, f j = g j) : sm n f = sm n g := by
  induction n with
  | zero => rfl
  | succ n ih =>
    show sm n f + f n = sm n g + g n
    rw [ih fun j hj => h j (Nat.lt_succ_of_lt hj), h n (Nat.lt_succ_self n)]
theorem sm_zero {n : Nat} {f : Nat → Rat} (h : ∀ j < n, f j = 0) : sm n f = 0 := by
  induction n with
  | zero => rfl
  | succ n ih =>
    show sm n f + f n = 0
    rw [ih fun j hj => h j (Nat.lt_succ_of_lt hj), h n (Nat.lt_succ_self n), Rat.add_zero]
theorem getD_rep {L m : Nat} : (List.replicate L (0 : Rat)).getD m 0 = 0 := by
  rw [List.getD_eq_getElem?_getD, List.getElem?_replicate]
  split <;> rfl
theorem conv_acc {R1 R2 : Int × List Rat} (h1 : R1.2 ≠ []) (h2 : R2.2 ≠ []) (k : Int) :
    val (R1.1 + R2.1, accOut R2.2 0 R1.2 (List.replicate (R1.2.length + R2.2.length - 1) 0)) k = conv R1 R2 k := by
  have p1 : 0 < R1.2.length := List.length_pos_iff.mpr h1
  have p2 : 0 < R2.2.length := List.length_pos_iff.mpr h2
  unfold val conv
  dsimp only
  by_cases hk : R1.1 + R2.1 ≤ k
  · rw [if_pos hk, accOut_get _ (by rw [List.length_replicate]; omega), getD_rep, Rat.zero_add]
    refine sm_congr fun j hj => ?_
    unfold val
    by_cases hc : 0 + j ≤ (k - (R1.1 + R2.1)).toNat
    · rw [if_pos hc, if_pos (by omega)]
      rw [show (k - R1.1 - (j : Nat) - R2.1).toNat = (k - (R1.1 + R2.1)).toNat - (0 + j) by omega]
    · rw [if_neg hc, if_neg (by omega)]
  · rw [if_neg hk]
    refine (sm_zero fun j hj => ?_).symm
    unfold val
    rw [if_neg (by omega), Rat.mul_zero]
theorem conv_nil1 {R1 R2 : Int × List Rat} (h : R1.2 = []) (k : Int) : conv R1 R2 k = 0 := by
  unfold conv
  rw [h]
  rfl
theorem conv_nil2 {R1 R2 : Int × List Rat} (h : R2.2 = []) (k : Int) : conv R1 R2 k = 0 := by
  unfold conv
  refine sm_zero fun j _ => ?_
  unfold val
  rw [h]
  have : ([] : List Rat).getD (k - R1.1 - (j : Nat) - R2.1).toNat 0 = 0 := rfl
  rw [this]
  split <;> rw [Rat.mul_zero]
theorem okLen_of {n : Nat} (h : n ≤ 1000000) : okLen n = true := decide_eq_true h
theorem rep_flat (z : Dt) : ∀ L : Nat, (List.replicate L [z]).flatten = List.replicate L z
  | 0 => rfl
  | m + 1 => by rw [List.replicate_succ, List.replicate_succ, List.flatten_cons, rep_flat z m]; rfl
theorem repD_one {L : Nat} (z : Dt) (S : Store) (h : L ≤ 900000) : repD S (.lst [z]) (L : Int) = some (List.replicate L z) := by
  have a1 : asOwn S (.lst [z]) = some [z] := rfl
  unfold repD
  simp only [a1]
  rw [if_pos]
  · rw [Int.toNat_natCast, rep_flat]
  · rw [Bool.and_eq_true]
    refine ⟨decide_eq_true (by omega), okLen_of ?_⟩
    rw [Int.toNat_natCast, List.length_singleton]
    omega
theorem repK_eq {S : Store} {x : Dt} {k : Int} {ys : List Dt} (h : repD S x k = some ys) : repK x (.int k) S = .ok (.lst ys) S := by
  have e : repK x (.int k) S = (match repD S x k with | some xs => .ok (.lst xs) S | none => .bad) := rfl
  rw [e, h]
theorem rep_zero {L : Nat} (z : Dt) (S : Store) (h : L ≤ 900000) : repK (.lst [z]) (.int (L : Int)) S = .ok (.lst (List.replicate L z)) S := repK_eq (repD_one z S h)
theorem run_product (n : Nat) {N D M E : Nat} (R1 R2 : Int × List Rat) (S : Store) (n1 : Nf R1) (n2 : Nf R2) (hD : 0 < D) (hE : 0 < E) (h1 : ∀ a ∈ R1.2, Fr N D a ∧ Sm a) (h2 : ∀ b ∈ R2.2, Fr M E b ∧ Sm b)
    (hl1 : R1.2.length < 1000) (hl2 : R2.2.length < 1000) (hs3 : Sz 4000 (R1.2.length * (R2.2.length * (N * M)) : Nat)) (hs4 : Sz 4000 (D * E : Nat)) :
    ∃ R, callR (Phi (n + 4)) i_row_product [rd R1, rd R2] S = .ok (rd R) S ∧ Nf R ∧ (∀ k, val R k = conv R1 R2 k) ∧ R.2.length ≤ R1.2.length + R2.2.length - 1 ∧ (∀ q ∈ R.2, Fr (R1.2.length * (R2.2.length * (N * M))) (D * E) q) := by
  have hrun := phiR (n + 3) (m := n + 4) rfl (k := i_row_product) (f := f_row_product) rfl [rd R1, rd R2] S rfl
  by_cases e1 : R1 = (0, [])
  · subst e1
    refine ⟨(0, []), ?_, nf_nought, fun k => ?_, by simp, fun q hq => by cases hq⟩
    · refine callR_pure ?_ (rd_nl _)
      rw [hrun]
      simp [f_row_product, getR, cv_NOUGHT, eq_rd]
    · rw [conv_nil1 rfl]; unfold val; split <;> rfl
  · by_cases e2 : R2 = (0, [])
    · subst e2
      refine ⟨(0, []), ?_, nf_nought, fun k => ?_, by simp, fun q hq => by cases hq⟩
      · refine callR_pure ?_ (rd_nl _)
        rw [hrun]
        simp [f_row_product, getR, cv_NOUGHT, eq_rd, e1]
      · rw [conv_nil2 rfl]; unfold val; split <;> rfl
    · have m1 : R1.2 ≠ [] := fun h => e1 (Prod.ext (n1.nil h) h)
      have m2 : R2.2 ≠ [] := fun h => e2 (Prod.ext (n2.nil h) h)
      have p1 : 0 < R1.2.length := List.length_pos_iff.mpr m1
      have p2 : 0 < R2.2.length := List.length_pos_iff.mpr m2
      have hs1 : Sz 4000 (N * M : Nat) := hs3.of_le (by
        rw [Int.natAbs_natCast, Int.natAbs_natCast]
        exact Nat.le_trans (Nat.le_mul_of_pos_left _ p2) (Nat.le_mul_of_pos_left _ p1))
      obtain ⟨L, hL⟩ : ∃ L, L = R1.2.length + R2.2.length - 1 := ⟨_, rfl⟩
      obtain ⟨r3, r4, r5, r6, e, hf⟩ := prod_out n (S := S) (T := R1.2.length * (R2.2.length * (N * M))) hD hE hs1 hs3 hs4 (some (rd R1)) R2 h2 R1.2 0 (List.replicate L 0) 0 none none none none h1 (by rw [List.length_replicate]; omega)
        (fun x hx => by rw [List.eq_of_mem_replicate hx]; exact .zero) (by omega)
      rw [Nat.zero_add] at hf
      have hlen : (accOut R2.2 0 R1.2 (List.replicate L 0)).length = L := by rw [accOut_len, List.length_replicate]
      obtain ⟨R, h3, h4, h5, h6, h7⟩ := run_row_by (n + 2) (R1.1 + R2.1) (.loc S.length) (accOut R2.2 0 R1.2 (List.replicate L 0)) (S ++ [(accOut R2.2 0 R1.2 (List.replicate L 0)).map qd]) (isL_loc get_append) (by rw [hlen]; omega)
      refine ⟨R, ?_, h4, fun k => by rw [h5, hL, conv_acc m1 m2], by rw [hlen, hL] at h6; exact h6, fun q hq => hf q (h7 q hq)⟩
      have hr := callR_pure h3 (rd_nl _)
      have hrep : repK (.lst [qd 0]) (.int (L : Int)) S = .ok (.lst ((List.replicate L (0 : Rat)).map qd)) S := by rw [List.map_replicate]; exact rep_zero (qd 0) S (by omega)
      have hth : thawK (.lst ((List.replicate L (0 : Rat)).map qd)) S = .ok (.loc S.length) (S ++ [(List.replicate L (0 : Rat)).map qd]) := by
        unfold thawK
        simp only [nlAll_qd, if_true]
      have eL : ((R1.2.length : Int) + (R2.2.length : Int)) - 1 = (L : Int) := by omega
      refine callR_ext (T := [(accOut R2.2 0 R1.2 (List.replicate L 0)).map qd]) ?_ (rd_nl _)
      rw [hrun]
      have d1 : decide (R1 = (0, [])) = false := decide_eq_false e1
      have d2 : decide (R2 = (0, [])) = false := decide_eq_false e2
      have s1 : evS cv (Phi (n + 3)) (.iff (.or_ (.eq false (.var 0) (.cst c_NOUGHT)) (.eq false (.var 1) (.cst c_NOUGHT))) [.ret (.cst c_NOUGHT)] []) [some (rd R1), some (rd R2), none, none, none, none, none] S = .ok (.nx [some (rd R1), some (rd R2), none, none, none, none, none]) S := by
        simp only [evS_iff, ev_or, ev_eq, ev_var, ev_cst, getR, List.getElem?_cons_zero, List.getElem?_cons_succ, bind_okS, cv_NOUGHT, eq_rd, d1, d2, toB_bl, bne_self_eq_false, Bool.false_eq_true, if_false, evB_nil]
      have s2 : evS cv (Phi (n + 3)) (.asg (.nm 2) (.thaw (.rep (.lst [.cst c_ZERO]) (.bin .sub (.bin .add (.blt .len [.ix (.var 0) (.int 1)]) (.blt .len [.ix (.var 1) (.int 1)])) (.int 1))))) [some (rd R1), some (rd R2), none, none, none, none, none] S = .ok (.nx [some (rd R1), some (rd R2), some (.loc S.length), none, none, none, none]) (S ++ [(List.replicate L (0 : Rat)).map qd]) := by
        have a1 : evE cv (Phi (n + 3)) (.lst [.cst c_ZERO]) [some (rd R1), some (rd R2), none, none, none, none, none] S = .ok (.lst [qd 0]) S := by
          rw [ev_lst, evL_cons, ev_cst, bind_okS, evL_nil, bind_okS, bind_okS, lstK1, cv_ZERO]
        have a2 : evE cv (Phi (n + 3)) (.bin .sub (.bin .add (.blt .len [.ix (.var 0) (.int 1)]) (.blt .len [.ix (.var 1) (.int 1)])) (.int 1)) [some (rd R1), some (rd R2), none, none, none, none, none] S = .ok (.int (L : Int)) S := by
          rw [← eL]
          simp only [ev_bin, ev_blt, evL_cons, evL_nil, ev_ix, ev_int, ev_var, getR, List.getElem?_cons_zero, List.getElem?_cons_succ, bind_okS, ixD_rd1, blt_len_tup, List.length_map, bin_add, bin_sub]
        rw [evS_asg, ev_thaw, ev_rep, a1, bind_okS, a2, bind_okS, hrep, bind_okS, hth, bind_okS, evT_nm, bind_okS]
        rfl
      have s3 : evS cv (Phi (n + 3)) (.forr (.tup [.nm 3, .nm 4]) (.enum (.ix (.var 0) (.int 1))) [.forr (.tup [.nm 5, .nm 6]) (.enum (.ix (.var 1) (.int 1))) [.asg (.sub (.var 2) (.bin .add (.var 3) (.var 5))) (.call i_plus [.ix (.var 2) (.bin .add (.var 3) (.var 5)), .call i_times [.var 4, .var 6]])]]) [some (rd R1), some (rd R2), some (.loc S.length), none, none, none, none] (S ++ [(List.replicate L (0 : Rat)).map qd])
          = .ok (.nx [some (rd R1), some (rd R2), some (.loc S.length), r3, r4, r5, r6]) (S ++ [(accOut R2.2 0 R1.2 (List.replicate L 0)).map qd]) := by
        simp only [evS_forr, evI_enum, ev_ix, ev_int, ev_var, getR, List.getElem?_cons_zero, List.getElem?_cons_succ, ixD_rd1, bind_okS, enumK_tup]
        exact e
      have s4 : evS cv (Phi (n + 3)) (.ret (.call i_row_by [.bin .add (.ix (.var 0) (.int 0)) (.ix (.var 1) (.int 0)), .var 2])) [some (rd R1), some (rd R2), some (.loc S.length), r3, r4, r5, r6] (S ++ [(accOut R2.2 0 R1.2 (List.replicate L 0)).map qd]) = .ok (.rt (rd R)) (S ++ [(accOut R2.2 0 R1.2 (List.replicate L 0)).map qd]) := by
        simp only [evS_ret, ev_call, evL_cons, evL_nil, ev_bin, ev_ix, ev_int, ev_var, getR, List.getElem?_cons_zero, List.getElem?_cons_succ, ixD_rd0, bind_okS, bin_add, hr]
      have hr0 : (List.map some [rd R1, rd R2] ++ List.replicate (f_row_product.sz - f_row_product.ar) none) = [some (rd R1), some (rd R2), none, none, none, none, none] := rfl
      rw [hr0]
      unfold f_row_product
      rw [evB_cons, s1, bind_okS, thenB_nx, evB_cons, s2, bind_okS, thenB_nx, evB_cons, s3, bind_okS, thenB_nx, evB_cons, s4, bind_okS, thenB_rt, bind_okS, endF_rt]
end K77
namespace K77
open PySem Pz

/-! ### the row turned round -/
theorem fmap_rev {α : Type} : ∀ (xs : List α) (k : Nat), k ≤ xs.length → (List.range k).filterMap (fun m => xs[k - 1 - m]?) = (xs.take k).reverse
  | xs, 0, _ => rfl
  | xs, k + 1, h => by
    have hl : k < xs.length := h
    rw [List.range_succ_eq_map, List.filterMap_cons, List.filterMap_map]
    have e0 : xs[k + 1 - 1 - 0]? = some xs[k] := by
      rw [show k + 1 - 1 - 0 = k by omega]; exact List.getElem?_eq_getElem hl
    simp only [e0]
    have ef : ((fun m => xs[k + 1 - 1 - m]?) ∘ Nat.succ) = fun m => xs[k - 1 - m]? := by
      funext m
      show xs[k + 1 - 1 - (m + 1)]? = _
      rw [show k + 1 - 1 - (m + 1) = k - 1 - m by omega]
    rw [ef, fmap_rev xs k (by omega), List.take_add_one, List.getElem?_eq_getElem hl, List.reverse_append]
    rfl
theorem fmap_congr {α β : Type} {f g : α → Option β} : ∀ {l : List α}, (∀ x ∈ l, f x = g x) → l.filterMap f = l.filterMap g
  | [], _ => rfl
  | a :: l, h => by rw [List.filterMap_cons, List.filterMap_cons, h a List.mem_cons_self, fmap_congr fun x hx => h x (List.mem_cons_of_mem _ hx)]
theorem pickT_rev (xs : List Dt) : pickT xs none none (-1) = xs.reverse := by
  unfold pickT Builtin.Slice.sliceAdjust Builtin.Slice.slicePlaces
  have h1 : ((-1 : Int) < 0) := by omega
  have h2 : ¬ ((-1 : Int) > 0) := by omega
  simp only [if_pos h1, if_neg h2]
  by_cases hn : xs.length = 0
  · have : xs = [] := List.length_eq_zero_iff.mp hn
    subst this
    rfl
  · have e : (if (xs.length : Int) - 1 > -1 then ((xs.length : Int) - 1 - -1 - 1) / (- -1) + 1 else 0).toNat = xs.length := by
      rw [if_pos (by omega)]
      rw [show (- -1 : Int) = 1 from rfl, Int.ediv_one]
      omega
    rw [e]
    have ef : (List.range xs.length).filterMap (fun (m : Nat) => xs[((xs.length : Int) - 1 + (m : Int) * -1).toNat]?) = (List.range xs.length).filterMap fun m => xs[xs.length - 1 - m]? := by
      refine fmap_congr fun m hm => ?_
      have hm := List.mem_range.mp hm
      rw [show ((xs.length : Int) - 1 + (m : Int) * -1).toNat = xs.length - 1 - m by omega]
    rw [ef, fmap_rev xs xs.length (Nat.le_refl _), List.take_length]
def back (R : Int × List Rat) : Int × List Rat := if R.2 = [] then R else (1 - (R.1 + R.2.length), R.2.reverse)
theorem slk_rev {S : Store} {xs : List Dt} (h : xs.length ≤ 1000000) : slkK (-1) (.tup xs) none none S = .ok (.tup xs.reverse) S := by
  unfold slkK
  have h1 : decide ((-1 : Int) ≠ 0 ∧ (-1 : Int) ≠ 1) = true := by decide
  have h2 : okLen (pickT xs none none (-1)).length = true := by rw [pickT_rev, List.length_reverse]; exact okLen_of h
  rw [if_pos h1]
  show (if okLen (pickT xs none none (-1)).length = true then Res.ok (Dt.tup (pickT xs none none (-1))) S else .bad) = _
  rw [if_pos h2, pickT_rev]
theorem run_back (n : Nat) (R : Int × List Rat) (S : Store) (hR : Nf R) (hl : R.2.length < 900000) : Phi (n + 2) i_row_back [rd R] S = .ok (rd (back R)) S := by
  rw [phiR (n + 1) rfl (f := f_row_back) rfl _ S rfl]
  have he := callR_pure (run_end n R S) rfl
  by_cases e : R = (0, [])
  · subst e
    simp [f_row_back, getR, cv_NOUGHT, eq_rd, back]
  · have m1 : R.2 ≠ [] := fun h => e (Prod.ext (hR.nil h) h)
    have hs := slk_rev (S := S) (xs := R.2.map qd) (by rw [List.length_map]; omega)
    have eb : back R = (1 - (R.1 + R.2.length), R.2.reverse) := if_neg m1
    have er : rd (1 - (R.1 + (R.2.length : Int)), R.2.reverse) = .tup [.int (1 - (R.1 + R.2.length)), .tup (R.2.map qd).reverse] := by unfold rd; rw [List.map_reverse]
    rw [eb, er]
    simp [f_row_back, getR, cv_NOUGHT, eq_rd, e, he, IEx.isAbs, hs]
theorem back_nf {R : Int × List Rat} (h : Nf R) : Nf (back R) := by
  unfold back
  split
  · exact h
  · rename_i hn
    refine ⟨fun e => ?_, fun q hq => ?_, fun q hq => ?_⟩
    · exact absurd (List.reverse_eq_nil_iff.mp e) hn
    · have hq : R.2.reverse.head? = some q := hq
      rw [List.head?_reverse] at hq
      exact h.last q hq
    · have hq : R.2.reverse.getLast? = some q := hq
      rw [List.getLast?_reverse] at hq
      exact h.hd q hq
theorem back_val (R : Int × List Rat) (k : Int) : val (back R) k = val R (-k) := by
  unfold back
  split
  · rename_i hn
    unfold val
    rw [hn]
    have e : ∀ m, ([] : List Rat).getD m 0 = 0 := fun m => rfl
    rw [e, e]
    split <;> split <;> rfl
  · unfold val
    dsimp only
    by_cases h1 : 1 - (R.1 + (R.2.length : Int)) ≤ k
    · rw [if_pos h1]
      by_cases h2 : R.1 ≤ -k
      · rw [if_pos h2, List.getD_eq_getElem?_getD, List.getElem?_reverse (by omega), ← List.getD_eq_getElem?_getD]
        rw [show R.2.length - 1 - (k - (1 - (R.1 + (R.2.length : Int)))).toNat = (-k - R.1).toNat by omega]
      · rw [if_neg h2, getD_big (by rw [List.length_reverse]; omega)]
    · rw [if_neg h1]
      split
      · rw [getD_big (by omega)]
      · rfl
end K77
namespace K77
open PySem Pz

/-! ### each second place -/
theorem okR_of {i : Int} (h1 : -1000000000 ≤ i) (h2 : i ≤ 1000000000) : okR i = true := by
  unfold okR
  refine decide_eq_true ⟨?_, ?_⟩ <;> omega
theorem rng2_of {i j : Int} {S : Store} (h1 : -1000000000 ≤ i) (h2 : i ≤ 1000000000) (h3 : -1000000000 ≤ j) (h4 : j ≤ 1000000000) : rng2K (.int i) (.int j) S = .ok ⟨rngL i 1 (j - i).toNat, []⟩ S := by
  show (if (okR i && okR j) = true then Res.ok (⟨rngL i 1 (j - i).toNat, []⟩ : Walk) S else .bad) = _
  rw [okR_of h1 h2, okR_of h3 h4]
  rfl
theorem fdiv2 (i : Int) : Int.fdiv i 2 = i / 2 := Int.fdiv_eq_ediv_of_nonneg _ (by omega)
theorem okMul2 {k : Int} (h1 : -1000000000 ≤ k) (h2 : k ≤ 1000000000) : okMul 2 k = true :=
  okMul_of (show (2 : Int).natAbs < 2 ^ 400000 from Nat.lt_of_lt_of_le (show 2 < 2 ^ 2 by decide) (Nat.pow_le_pow_right (by omega) (by omega)))
    (show k.natAbs < 2 ^ 400000 from Nat.lt_of_lt_of_le (show k.natAbs < 2 ^ 40 by omega) (Nat.pow_le_pow_right (by omega) (by omega)))
def lo2 (R : Int × List Rat) (p : Int) : Int := (R.1 - p + 1) / 2
def hi2 (R : Int × List Rat) (p : Int) : Int := (R.1 + R.2.length - p + 1) / 2
def part2 (R : Int × List Rat) (p : Int) : List Rat := (List.range (hi2 R p - lo2 R p).toNat).map fun (m : Nat) => val R (2 * (lo2 R p + (m : Int)) + p)
theorem part2_val (R : Int × List Rat) (p k : Int) : val (lo2 R p, part2 R p) k = val R (2 * k + p) := by
  by_cases h1 : lo2 R p ≤ k
  · rw [val_in h1]
    unfold part2
    by_cases h2 : k < hi2 R p
    · refine getD_of (a := val R (2 * k + p)) ?_
      rw [List.getElem?_map, List.getElem?_range (by show (k - lo2 R p).toNat < _; omega)]
      show some (val R (2 * (lo2 R p + ((k - lo2 R p).toNat : Int)) + p)) = _
      rw [show lo2 R p + ((k - lo2 R p).toNat : Int) = k by omega]
    · rw [getD_big (by rw [List.length_map, List.length_range]; show _ ≤ (k - lo2 R p).toNat; omega)]
      exact (val_out (by unfold hi2 at h2; omega)).symm
  · rw [val_out (fun h => h1 h.1)]
    exact (val_out (by unfold lo2 at h1; omega)).symm
theorem part2_len (R : Int × List Rat) (p : Int) : (part2 R p).length ≤ R.2.length := by
  unfold part2 hi2 lo2
  rw [List.length_map, List.length_range]
  omega
theorem run_part_from (n : Nat) (R : Int × List Rat) (p : Int) (S : Store) (hl : R.2.length < 900000) (h1 : -1000000 ≤ R.1) (h2 : R.1 ≤ 1000000) (h3 : 0 ≤ p) (h4 : p ≤ 1000) :
    ∃ R', Phi (n + 3) i_part_from [rd R, .int p] S = .ok (rd R') S ∧ Nf R' ∧ (∀ k, val R' k = val R (2 * k + p)) ∧ R'.2.length ≤ R.2.length := by
  have hlen := part2_len R p
  obtain ⟨R', e1, e2, e3, e4, _⟩ := run_row_by (n + 1) (lo2 R p) (.lst ((part2 R p).map qd)) (part2 R p) S (isL_lst _ _) (by omega)
  refine ⟨R', ?_, e2, fun k => by rw [e3, part2_val], by omega⟩
  rw [phiR (n + 2) rfl (f := f_part_from) rfl _ S rfl]
  have k2 : ∀ i : Int, okDiv i 2 = true := fun i => okDiv_of (by omega) (show (2 : Int).natAbs < 2 ^ 9000 from Nat.lt_of_lt_of_le (show 2 < 2 ^ 2 by decide) (Nat.pow_le_pow_right (by omega) (by omega)))
  have hd : ∀ i : Int, binD S .fdiv (.int i) (.int 2) = .ok (.int (i / 2)) S := fun i => by rw [bin_fdiv _ _ _ (k2 i), fdiv2]
  have he := callR_pure (run_end (n + 1) R S) rfl
  have hr := callR_pure e1 (rd_nl _)
  have hlo : lo2 R p = (R.1 - p + 1) / 2 := rfl
  have hhi : hi2 R p = (R.1 + R.2.length - p + 1) / 2 := rfl
  have hcomp : compK [4] (evI cv (Phi (n + 2)) (.rng2 (.var 2) (.var 3))) (evT cv (Phi (n + 2)) (.nm 4)) (evC cv (Phi (n + 2)) []) (evE cv (Phi (n + 2)) (.call i_at_place [.var 0, .bin .add (.bin .mul (.int 2) (.var 4)) (.var 1)])) [some (rd R), some (.int p), some (.int (lo2 R p)), some (.int (hi2 R p)), none] S = .ok (.lst ((part2 R p).map qd)) S := by
    unfold part2
    rw [List.map_map]
    refine comp_map (src := []) (fun m : Nat => .int (lo2 R p + (m : Int) * 1)) (fun m : Nat => qd (val R (2 * (lo2 R p + (m : Int)) + p))) ?_ ?_ rfl fun m hm => ?_
    · rw [evI_rng2]
      have := rng2_of (S := S) (i := lo2 R p) (j := hi2 R p) (by omega) (by omega) (by omega) (by omega)
      simp [getR, this, rngL]
    · rw [List.length_range]; omega
    · have hm := List.mem_range.mp hm
      have hm2 := bin_mul 2 (lo2 R p + (m : Int)) S (okMul2 (by omega) (by omega))
      have ha := callR_pure (run_at n R (2 * (lo2 R p + (m : Int)) + p) S) (qd_nl _)
      simp [getR, hm2, ha]
  rw [hlo, hhi] at hcomp
  rw [hlo] at hr
  simp [f_part_from, getR, he, hd, hcomp, hr]
end K77
namespace K77
open PySem Pz

/-! ### even_of, size_row, led_over -/
theorem run_even (n : Nat) (R : Int × List Rat) (S : Store) (hl : R.2.length < 900000) (h1 : -1000000 ≤ R.1) (h2 : R.1 ≤ 1000000) :
    ∃ R', Phi (n + 4) i_even_of [rd R] S = .ok (rd R') S ∧ Nf R' ∧ (∀ k, val R' k = val R (2 * k)) ∧ R'.2.length ≤ R.2.length := by
  obtain ⟨R', e1, e2, e3, e4⟩ := run_part_from n R 0 S hl h1 h2 (by omega) (by omega)
  refine ⟨R', ?_, e2, fun k => by rw [e3, Int.add_zero], e4⟩
  rw [phiR (n + 3) rfl (f := f_even_of) rfl _ S rfl]
  have hr := callR_pure e1 (rd_nl _)
  simp [f_even_of, getR, hr]
theorem back_len (R : Int × List Rat) : (back R).2.length = R.2.length := by
  unfold back
  split
  · rfl
  · exact List.length_reverse
theorem back_mem {R : Int × List Rat} {q : Rat} (h : q ∈ (back R).2) : q ∈ R.2 := by
  unfold back at h
  split at h
  · exact h
  · exact List.mem_reverse.mp h
theorem run_size (n : Nat) {N D : Nat} (R : Int × List Rat) (S : Store) (n1 : Nf R) (hD : 0 < D) (h1 : ∀ a ∈ R.2, Fr N D a ∧ Sm a) (hl : R.2.length < 1000)
    (hs3 : Sz 4000 (R.2.length * (R.2.length * (N * N)) : Nat)) (hs4 : Sz 4000 (D * D : Nat)) :
    ∃ Q, Phi (n + 5) i_size_row [rd R] S = .ok (rd Q) S ∧ Nf Q ∧ (∀ k, val Q k = conv R (back R) k) ∧ Q.2.length ≤ R.2.length + R.2.length - 1 ∧ (∀ q ∈ Q.2, Fr (R.2.length * (R.2.length * (N * N))) (D * D) q) := by
  have hb := back_len R
  obtain ⟨Q, e1, e2, e3, e4, e5⟩ := run_product n R (back R) S n1 (back_nf n1) hD hD h1 (fun b hb => h1 b (back_mem hb)) hl (by omega) (by rw [hb]; exact hs3) hs4
  rw [hb] at e4 e5
  refine ⟨Q, ?_, e2, e3, e4, e5⟩
  rw [phiR (n + 4) rfl (f := f_size_row) rfl _ S rfl]
  have hr := callR_pure (run_back (n + 2) R S n1 (by omega)) (rd_nl _)
  simp [f_size_row, getR, hr, e1]
theorem Fr.at {N D : Nat} {R : Int × List Rat} (h : ∀ q ∈ R.2, Fr N D q) (k : Int) : Fr N D (val R k) := by
  by_cases e : val R k = 0
  · rw [e]; exact Fr.zero
  · exact h _ (val_mem e)
/-- a number of a laid row stands at one of its places -/
theorem mem_val {R : Int × List Rat} {q : Rat} (h : q ∈ R.2) : ∃ k, q = K77.val R k := by
  obtain ⟨i, hi, e⟩ := List.getElem_of_mem h
  refine ⟨R.1 + (i : Int), ?_⟩
  rw [val_in (by omega), show (R.1 + (i : Int) - R.1).toNat = i by omega, getD_of (List.getElem?_eq_getElem hi), e]
theorem cv_HALF : cv c_HALF = qd (Rat.divInt 1 2) := (rfl)
end K77
namespace K77
open PySem Pz

/-! ### the places of a row -/
/-- the row is nought outside a ..< b -/
def In (a b : Int) (R : Int × List Rat) : Prop := ∀ k, val R k ≠ 0 → a ≤ k ∧ k < b
theorem in_self (R : Int × List Rat) : In R.1 (R.1 + R.2.length) R := fun k h => Decidable.byContradiction fun hn => h (val_out hn)
theorem In.start {a b : Int} {R : Int × List Rat} (h : In a b R) (n : Nf R) : R = (0, []) ∨ (a ≤ R.1 ∧ R.1 + R.2.length ≤ b) := by
  by_cases e : R.2 = []
  · exact .inl (Prod.ext (n.nil e) e)
  · right
    have hp : 0 < R.2.length := List.length_pos_iff.mpr e
    have h1 : val R R.1 ≠ 0 := by
      rw [val_in (Int.le_refl _), show (R.1 - R.1).toNat = 0 by omega, getD_of (List.getElem?_eq_getElem hp)]
      exact n.hd _ (by rw [List.head?_eq_getElem?, List.getElem?_eq_getElem hp])
    have h2 : val R (R.1 + R.2.length - 1) ≠ 0 := by
      rw [val_in (by omega), show (R.1 + R.2.length - 1 - R.1).toNat = R.2.length - 1 by omega, getD_of (List.getElem?_eq_getElem (show R.2.length - 1 < R.2.length by omega))]
      exact n.last _ (by rw [List.getLast?_eq_getElem?, List.getElem?_eq_getElem (show R.2.length - 1 < R.2.length by omega)])
    have k1 := h _ h1
    have k2 := h _ h2
    omega
theorem sm_ne {n : Nat} {f : Nat → Rat} (h : sm n f ≠ 0) : ∃ j < n, f j ≠ 0 :=
  Classical.byContradiction fun hn => h (sm_zero fun j hj => Classical.byContradiction fun hk => hn ⟨j, hj, hk⟩)
theorem conv_in {a b : Int} {R1 R2 : Int × List Rat} (h : In a b R2) {k : Int} (hk : conv R1 R2 k ≠ 0) : R1.1 + a ≤ k ∧ k < R1.1 + R1.2.length + b := by
  obtain ⟨j, hj, e⟩ := sm_ne hk
  have := h (k - R1.1 - (j : Nat)) fun e2 => e (by rw [e2, Rat.mul_zero])
  omega
theorem conv_len0 {R1 R2 : Int × List Rat} {k : Int} (hk : conv R1 R2 k ≠ 0) : 0 < R1.2.length := by
  obtain ⟨j, hj, e⟩ := sm_ne hk
  omega
/-- led_over -/
theorem run_led (n : Nat) {N D M E : Nat} (R W : Int × List Rat) (S : Store) (n1 : Nf R) (n2 : Nf W) (hD : 0 < D) (hE : 0 < E) (h1 : ∀ a ∈ R.2, Fr N D a ∧ Sm a) (h2 : ∀ a ∈ W.2, Fr M E a ∧ Sm a)
    (hl : R.2.length < 400) (hl2 : W.2.length < 400) (p1 : -1000 ≤ R.1) (p2 : R.1 ≤ 1000) (p3 : -1000 ≤ W.1) (p4 : W.1 ≤ 1000)
    (hs1 : Sz 1000 (R.2.length * (R.2.length * (N * N)) : Nat)) (hs2 : Sz 1000 (D * D : Nat)) (hs3 : Sz 1900 (M : Nat)) (hs4 : Sz 1900 (E : Nat)) :
    ∃ Q T, Nf Q ∧ (∀ k, val Q k = conv R (back R) k) ∧ Q.2.length ≤ R.2.length + R.2.length - 1 ∧ (∀ q ∈ Q.2, Fr (R.2.length * (R.2.length * (N * N))) (D * D) q) ∧
      Phi (n + 6) i_led_over [rd R, rd W] S = .ok (rd T) S ∧ Nf T ∧ (∀ k, val T k = conv Q W (2 * k) * Rat.divInt 1 2) := by
  obtain ⟨Q, e1, e2, e3, e4, e5⟩ := run_size n R S n1 hD h1 (by omega) (hs1.mono (by omega)) (hs2.mono (by omega))
  have hQ : ∀ q ∈ Q.2, Sm q := fun q hq => (e5 q hq).sm (Nat.mul_pos hD hD) (hs1.mono (by omega)) (hs2.mono (by omega))
  have sz1 : Sz 4000 (Q.2.length * (W.2.length * ((R.2.length * (R.2.length * (N * N))) * M)) : Nat) := by
    have a1 : Sz 10 (Q.2.length : Nat) := by show Int.natAbs _ < _; omega
    have a2 : Sz 10 (W.2.length : Nat) := by show Int.natAbs _ < _; omega
    have := (a1.mul (a2.mul (hs1.mul hs3))).mono (show 10 + (10 + (1000 + 1900)) ≤ 4000 by omega)
    rw [← Int.natCast_mul, ← Int.natCast_mul, ← Int.natCast_mul] at this
    exact this
  have sz2 : Sz 4000 ((D * D) * E : Nat) := by
    have := (hs2.mul hs4).mono (show 1000 + 1900 ≤ 4000 by omega)
    rw [← Int.natCast_mul] at this
    exact this
  obtain ⟨P, f1, f2, f3, f4, f5⟩ := run_product (n + 1) Q W S e2 n2 (Nat.mul_pos hD hD) hE (fun q hq => ⟨e5 q hq, hQ q hq⟩) h2 (by omega) (by omega) sz1 sz2
  have hP : ∀ q ∈ P.2, Sm q := fun q hq => (f5 q hq).sm (Nat.mul_pos (Nat.mul_pos hD hD) hE) sz1 sz2
  have bQ : Q.1 = 0 ∨ -3000 ≤ Q.1 ∧ Q.1 ≤ 3000 := by
    have hin : In (-3000) 3000 Q := fun k hk => by
      rw [e3] at hk
      have hin2 : In (-R.1 - R.2.length) (1 - R.1) (back R) := fun k hk => by
        rw [back_val] at hk
        have := in_self R _ hk
        omega
      have := conv_in hin2 hk
      omega
    rcases hin.start e2 with h | h
    · exact .inl (by rw [h])
    · exact .inr (by omega)
  have bP : P.1 = 0 ∨ -9000 ≤ P.1 ∧ P.1 ≤ 9000 := by
    have hin : In (-9000) 9000 P := fun k hk => by
      rw [f3] at hk
      have := conv_in (in_self W) hk
      omega
    rcases hin.start f2 with h | h
    · exact .inl (by rw [h])
    · exact .inr (by omega)
  obtain ⟨V, g1, g2, g3, g4⟩ := run_even (n + 1) P S (by omega) (by omega) (by omega)
  have hV : AllSm V.2 := fun q hq => by
    obtain ⟨k, rfl⟩ := mem_val hq
    rw [g3]
    exact (Fr.at f5 _).sm (Nat.mul_pos (Nat.mul_pos hD hD) hE) sz1 sz2
  have sh : Sm (Rat.divInt 1 2) := by
    have : Fr 1 2 (Rat.divInt 1 2) := ⟨1, rfl, by decide⟩
    exact this.sm (by omega) (Sz.mono (m := 2) (by show Int.natAbs _ < _; decide) (by omega)) (Sz.mono (m := 2) (by show Int.natAbs _ < _; decide) (by omega))
  obtain ⟨T, t1, t2, t3, t4⟩ := run_scaled (n + 1) V (Rat.divInt 1 2) S hV sh (by omega)
  refine ⟨Q, T, e2, e3, e4, e5, ?_, t2, fun k => by rw [t3, g3, f3]⟩
  rw [phiR (n + 5) rfl (f := f_led_over) rfl _ S rfl]
  have c1 := callR_pure e1 (rd_nl _)
  have c3 := callR_pure g1 (rd_nl _)
  have c4 := callR_pure t1 (rd_nl _)
  simp [f_led_over, getR, c1, f1, c3, cv_HALF, c4]
end K77
namespace K77
open PySem Pz

/-! ### the elimination's parts: scaled_to_one, lead_of, cleared -/
theorem lst_ix {S : Store} {qs : List Rat} {p : Nat} (h : p < qs.length) : ixD S (.lst (qs.map qd)) (.int p) = .ok (qd (qs.getD p 0)) S := (isL_lst S _).ix (getD_qd h)
theorem lt_of_getD {qs : List Rat} {p : Nat} (h : qs.getD p 0 ≠ 0) : p < qs.length := Decidable.byContradiction fun hn => h (getD_big (by omega))
theorem run_one (n : Nat) (qs : List Rat) (p : Nat) (S : Store) (hq : AllSm qs) (hp : qs.getD p 0 ≠ 0) (hl : qs.length ≤ 1000000) :
    Phi (n + 4) i_scaled_to_one [.lst (qs.map qd), .int p] S = .ok (.lst ((qs.map (· / qs.getD p 0)).map qd)) S := by
  have hpl := lt_of_getD hp
  have hpm : qs.getD p 0 ∈ qs := by rw [getD_of (List.getElem?_eq_getElem hpl)]; exact List.getElem_mem hpl
  rw [phiR (n + 3) rfl (f := f_scaled_to_one) rfl _ S rfl]
  have hcomp : compK [2] (evI cv (Phi (n + 3)) (.seq (.var 0))) (evT cv (Phi (n + 3)) (.nm 2)) (evC cv (Phi (n + 3)) []) (evE cv (Phi (n + 3)) (.call i_over [.var 2, .ix (.var 0) (.var 1)])) [some (.lst (qs.map qd)), some (.int p), none] S = .ok (.lst ((qs.map (· / qs.getD p 0)).map qd)) S := by
    rw [List.map_map]
    refine comp_map (src := []) qd (fun q => qd (q / qs.getD p 0)) (by simp [getR]) hl rfl fun q hm => ?_
    have ho := callR_pure (run_over n q (qs.getD p 0) S (hq q hm) (hq _ hpm) hp) (qd_nl _)
    have hi := lst_ix (S := S) hpl
    simp only [List.getD_eq_getElem?_getD] at ho hi
    simp [getR, hi, ho]
  simp [f_scaled_to_one, getR, hcomp]
/-- the first place of w that is not nought -/
def lead (qs : List Rat) : Nat → Nat → Option Nat
  | _, 0 => none
  | i, c + 1 => if qs.getD i 0 ≠ 0 then some i else lead qs (i + 1) c
theorem lead_some {qs : List Rat} : ∀ {c i p : Nat}, lead qs i c = some p → i ≤ p ∧ p < i + c ∧ qs.getD p 0 ≠ 0 ∧ ∀ j, i ≤ j → j < p → qs.getD j 0 = 0
  | 0, i, p, h => by cases h
  | c + 1, i, p, h => by
    unfold lead at h
    split at h
    · rename_i h0
      obtain rfl := Option.some.inj h
      exact ⟨Nat.le_refl _, by omega, h0, fun j _ _ => by omega⟩
    · rename_i h0
      obtain ⟨k1, k2, k3, k4⟩ := lead_some h
      refine ⟨by omega, by omega, k3, fun j h1 h2 => ?_⟩
      by_cases e : j = i
      · subst e; exact Decidable.byContradiction h0
      · exact k4 j (by omega) h2
theorem lead_none {qs : List Rat} : ∀ {c i : Nat}, lead qs i c = none → ∀ j, i ≤ j → j < i + c → qs.getD j 0 = 0
  | 0, i, h => fun j _ _ => by omega
  | c + 1, i, h => by
    unfold lead at h
    split at h
    · cases h
    · rename_i h0
      intro j h1 h2
      by_cases e : j = i
      · subst e; exact Decidable.byContradiction h0
      · exact lead_none h j (by omega) (by omega)
def leadD : Option Nat → Dt
  | some p => .int p
  | none => .non
theorem rngL_succ (i : Int) (c : Nat) : rngL i 1 (c + 1) = .int i :: rngL (i + 1) 1 c := by
  unfold rngL
  rw [List.range_succ_eq_map, List.map_cons, List.map_map]
  congr 1
  · simp
  · refine List.map_congr_left fun m _ => ?_
    show Dt.int (i + ((m + 1 : Nat) : Int) * 1) = Dt.int (i + 1 + (m : Int) * 1)
    congr 1
    omega
theorem lead_loop (n : Nat) (qs : List Rat) (r1 : Option Dt) (S : Store) : ∀ (c i : Nat) (r2 : Option Dt), i + c ≤ qs.length →
    ∃ r2', forF (evT cv (Phi n) (.nm 2)) (evB cv (Phi n) [.iff (.eq true (.ix (.var 0) (.var 2)) (.cst c_ZERO)) [.ret (.var 2)] []]) [] (rngL i 1 c) [some (.lst (qs.map qd)), r1, r2] S =
      (match lead qs i c with | some p => .ok (.rt (.int p)) S | none => .ok (.nx [some (.lst (qs.map qd)), r1, r2']) S)
  | 0, i, r2, h => ⟨r2, rfl⟩
  | c + 1, i, r2, h => by
    have hi := lst_ix (S := S) (qs := qs) (p := i) (by omega)
    rw [rngL_succ]
    by_cases h0 : qs.getD i 0 = 0
    · obtain ⟨r2', e⟩ := lead_loop n qs r1 S c (i + 1) (some (.int i)) (by omega)
      refine ⟨r2', ?_⟩
      have hL : lead qs i (c + 1) = lead qs (i + 1) c := by
        conv => lhs; unfold lead
        exact if_neg (fun h => h h0)
      rw [hL]
      rw [show ((i + 1 : Nat) : Int) = (i : Int) + 1 from rfl] at e
      rw [← e]
      conv => lhs; unfold forF
      simp only [List.getD_eq_getElem?_getD] at hi h0
      simp [getR, hi, cv_ZERO, eq_qd, h0]
    · refine ⟨none, ?_⟩
      have hL : lead qs i (c + 1) = some i := by
        conv => lhs; unfold lead
        exact if_pos h0
      rw [hL]
      conv => lhs; unfold forF
      simp only [List.getD_eq_getElem?_getD] at hi h0
      simp [getR, hi, cv_ZERO, eq_qd, h0]
theorem rng1_of {j : Int} {S : Store} (h3 : -1000000000 ≤ j) (h4 : j ≤ 1000000000) : rng1K (.int j) S = .ok ⟨rngL 0 1 j.toNat, []⟩ S := by
  show (if okR j = true then Res.ok (⟨rngL 0 1 j.toNat, []⟩ : Walk) S else .bad) = _
  rw [okR_of h3 h4]
  rfl
end K77
namespace K77
open PySem Pz
theorem rng1_ok {j : Nat} {S : Store} (h : okR (j : Int) = true) : rng1K (.int j) S = .ok ⟨rngL 0 1 j, []⟩ S := by
  show (if okR (j : Int) = true then Res.ok (⟨rngL 0 1 (j : Int).toNat, []⟩ : Walk) S else .bad) = _
  rw [if_pos h, Int.toNat_natCast]
theorem lead_rng (n : Nat) (r : Rho) (w : Nat) (S : Store) (h : okR (w : Int) = true) (hr : getR r 1 S = .ok (.int w) S) : evI cv (Phi n) (.rng1 (.var 1)) r S = .ok ⟨rngL 0 1 w, []⟩ S := by
  rw [evI_rng1, ev_var, hr, bind_okS, rng1_ok h]
theorem run_lead (n : Nat) (qs : List Rat) (w : Nat) (S : Store) (hw : w ≤ qs.length) (h2 : okR (w : Int) = true) :
    Phi (n + 1) i_lead_of [.lst (qs.map qd), .int w] S = .ok (leadD (lead qs 0 w)) S := by
  rw [phiR n rfl (f := f_lead_of) rfl _ S rfl]
  obtain ⟨r2', e⟩ := lead_loop n qs (some (.int w)) S w 0 none (by omega)
  have hr := lead_rng n [some (.lst (qs.map qd)), some (.int w), none] w S h2 rfl
  rw [show ((0 : Nat) : Int) = 0 from rfl] at e
  cases hL : lead qs 0 w with
  | none => rw [hL] at e; simp [f_lead_of, hr, e, leadD]
  | some p => rw [hL] at e; simp [f_lead_of, hr, e, leadD]
end K77
namespace K77
open PySem Pz
/-! ### cleared: one step -/
theorem zipL_map : ∀ xs ys : List Rat, zipL (xs.map qd) (ys.map qd) = (xs.zip ys).map fun p => .tup [qd p.1, qd p.2]
  | [], ys => by cases ys <;> rfl
  | x :: xs, [] => rfl
  | x :: xs, y :: ys => by
    rw [List.map_cons, List.map_cons, List.zip_cons_cons, List.map_cons, ← zipL_map xs ys]
    rfl
/-- a row less f times another -/
def less (f : Rat) (xs ys : List Rat) : List Rat := (xs.zip ys).map fun p => p.1 - f * p.2
theorem less_len {f : Rat} {xs ys : List Rat} (h : xs.length = ys.length) : (less f xs ys).length = xs.length := by
  unfold less
  rw [List.length_map, List.length_zip, h, Nat.min_self]
theorem less_get {f : Rat} {xs ys : List Rat} (h : xs.length = ys.length) (k : Nat) : (less f xs ys).getD k 0 = xs.getD k 0 - f * ys.getD k 0 := by
  by_cases hk : k < xs.length
  · have hy : k < ys.length := by omega
    refine getD_of ?_
    unfold less
    rw [List.getElem?_map, List.getElem?_eq_getElem (by rw [List.length_zip]; omega), List.getElem_zip, getD_of (List.getElem?_eq_getElem hk), getD_of (List.getElem?_eq_getElem hy)]
    rfl
  · rw [getD_big (by rw [less_len h]; omega), getD_big (by omega), getD_big (by omega), Rat.mul_zero, Rat.sub_self]
end K77
namespace K77
open PySem Pz
/-! ### cleared -/
theorem zipK_lst (S : Store) (xs ys : List Dt) : zipK (.lst xs) (.lst ys) S = .ok ⟨zipL xs ys, []⟩ S := (rfl)
def encB (b : Nat × List Rat) : Dt := .tup [.int b.1, .lst (b.2.map qd)]
def clr : List Rat → List (Nat × List Rat) → List Rat
  | x, [] => x
  | x, b :: bs => clr (if x.getD b.1 0 = 0 then x else less (x.getD b.1 0) x b.2) bs
def FrA (N D : Nat) (qs : List Rat) : Prop := ∀ q ∈ qs, Fr N D q
theorem FrA.mono {N M D : Nat} {qs : List Rat} (h : FrA N D qs) (k : N ≤ M) : FrA M D qs := fun q hq => (h q hq).mono k
theorem FrA.get {N D : Nat} {qs : List Rat} (h : FrA N D qs) (k : Nat) : Fr N D (qs.getD k 0) := by
  by_cases hk : k < qs.length
  · rw [getD_of (List.getElem?_eq_getElem hk)]; exact h _ (List.getElem_mem hk)
  · rw [getD_big (by omega)]; exact .zero
theorem Fr.scale {N D V : Nat} {q : Rat} (h : Fr N D q) (hV : 0 < V) : Fr (N * V) (D * V) q := by
  obtain ⟨a, rfl, ha⟩ := h
  refine ⟨a * V, ?_, by rw [Int.natAbs_mul, Int.natAbs_natCast]; exact Nat.mul_le_mul_right _ ha⟩
  rw [Int.natCast_mul, Rat.divInt_mul_right (by omega)]
theorem Fr.sub {N M D : Nat} {p q : Rat} (h : Fr N D p) (k : Fr M D q) (hD : 0 < D) : Fr (N + M) D (p - q) := by
  rw [Rat.sub_eq_add_neg]; exact h.add k.neg hD
theorem less_fr {N D U V : Nat} {x y : List Rat} {f : Rat} (hx : FrA N D x) (hy : FrA U V y) (hf : Fr N D f) (hD : 0 < D) (hV : 0 < V) : FrA (N * (V + U)) (D * V) (less f x y) := by
  intro q hq
  unfold less at hq
  obtain ⟨⟨a, b⟩, hm, rfl⟩ := List.mem_map.mp hq
  have h1 := hx a (List.of_mem_zip hm).1
  have h2 := hy b (List.of_mem_zip hm).2
  rw [Nat.mul_add]
  exact (h1.scale hV).sub (hf.mul h2) (Nat.mul_pos hD hV)
theorem still_loc {S : Store} {d : Dt} {xs : List Dt} (h : IsL S d xs) : still S (srcOf d xs) = true := by
  obtain ⟨h1, h2⟩ := h
  cases d with
  | loc n =>
    have h2 : S[n]? = some xs := h2
    show ((match S[n]? with | some ys => sameAll ys xs | none => false) && true) = true
    rw [h2, Bool.and_true]; exact sameAll_refl xs
  | _ => rfl
theorem IsL.seqK {S : Store} {d : Dt} {xs : List Dt} (h : IsL S d xs) : seqK d S = .ok ⟨xs, srcOf d xs⟩ S := by
  unfold Pz.seqK
  simp only [h.seq]
/-- the bounds of the rows that clear: numerators, denominators -/
def prodU : List (Nat × Nat) → Nat
  | [] => 1
  | u :: us => (u.2 + u.1) * prodU us
def prodV : List (Nat × Nat) → Nat
  | [] => 1
  | u :: us => u.2 * prodV us
def Bds : List (Nat × List Rat) → List (Nat × Nat) → Prop
  | [], [] => True
  | b :: bs, u :: us => FrA u.1 u.2 b.2 ∧ 0 < u.2 ∧ Bds bs us
  | _, _ => False
theorem prodU_pos : ∀ {bs : List (Nat × List Rat)} {us : List (Nat × Nat)}, Bds bs us → 0 < prodU us
  | [], [], _ => Nat.one_pos
  | [], _ :: _, h => h.elim
  | _ :: _, [], h => h.elim
  | b :: bs, u :: us, h => Nat.mul_pos (Nat.add_pos_left h.2.1 _) (prodU_pos h.2.2)
theorem prodV_pos : ∀ {bs : List (Nat × List Rat)} {us : List (Nat × Nat)}, Bds bs us → 0 < prodV us
  | [], [], _ => Nat.one_pos
  | [], _ :: _, h => h.elim
  | _ :: _, [], h => h.elim
  | b :: bs, u :: us, h => Nat.mul_pos h.2.1 (prodV_pos h.2.2)
theorem clr_fr : ∀ {bs : List (Nat × List Rat)} {us : List (Nat × Nat)} {x : List Rat} {N D : Nat}, Bds bs us → FrA N D x → 0 < D → FrA (N * prodU us) (D * prodV us) (clr x bs)
  | [], [], x, N, D, _, hx, _ => by unfold prodU prodV clr; rw [Nat.mul_one, Nat.mul_one]; exact hx
  | [], _ :: _, x, N, D, h, _, _ => h.elim
  | _ :: _, [], x, N, D, h, _, _ => h.elim
  | b :: bs, u :: us, x, N, D, h, hx, hD => by
    obtain ⟨h1, h2, h3⟩ := h
    unfold prodU prodV clr
    rw [← Nat.mul_assoc, ← Nat.mul_assoc]
    refine clr_fr h3 ?_ (Nat.mul_pos hD h2)
    split
    · intro q hq
      exact ((hx q hq).scale h2).mono (Nat.mul_le_mul_left _ (Nat.le_add_right _ _))
    · exact less_fr hx h1 (hx.get _) hD h2
theorem clr_len : ∀ {bs : List (Nat × List Rat)} {x : List Rat}, (∀ b ∈ bs, b.2.length = x.length) → (clr x bs).length = x.length
  | [], x, _ => rfl
  | b :: bs, x, h => by
    unfold clr
    have hb := h b List.mem_cons_self
    split
    · exact clr_len fun c hc => h c (List.mem_cons_of_mem _ hc)
    · rw [clr_len fun c hc => by rw [h c (List.mem_cons_of_mem _ hc), less_len hb.symm], less_len hb.symm]
/-- one row less another: the comprehension -/
theorem run_less (n : Nat) (x y : List Rat) (f : Rat) (r1 r2 : Option Dt) (r5 r6 : Option Dt) (S : Store) (hx : AllSm x) (hf : Sm f) (hy : AllSm y) (hp : ∀ q ∈ y, Sm (f * q)) (hl : x.length < 1000) :
    evE cv (Phi (n + 3)) (.comp [5, 6] (.tup [.nm 5, .nm 6]) (.zip (.var 0) (.var 3)) [] (.call i_minus [.var 5, .call i_times [.var 4, .var 6]])) [some (.lst (x.map qd)), r1, r2, some (.lst (y.map qd)), some (qd f), r5, r6] S = .ok (.lst ((less f x y).map qd)) S := by
  rw [ev_comp]
  unfold less
  rw [List.map_map]
  refine comp_map (src := []) (fun p : Rat × Rat => .tup [qd p.1, qd p.2]) _ ?_ ?_ rfl fun p hm => ?_
  · simp only [evI_zip, ev_var, getR, List.getElem?_cons_succ, List.getElem?_cons_zero, bind_okS, zipK_lst, zipL_map]
  · rw [List.length_zip]; omega
  · have m1 := (List.of_mem_zip hm).1
    have m2 := (List.of_mem_zip hm).2
    have h1 := callR_pure (run_times n f p.2 S hf (hy _ m2)) (qd_nl _)
    have h2 := callR_pure (run_minus n p.1 (f * p.2) S (hx _ m1) (hp _ m2)) (qd_nl _)
    simp [getR, h1, h2]
theorem cleared_loop (n : Nat) (r1 : Dt) (S : Store) (T L : Nat) (hT : Sz 4000 (T : Nat)) (hL : L < 1000) (src : List (Nat × List Dt)) (hs : still S src = true) : ∀ (bs : List (Nat × List Rat)) (us : List (Nat × Nat)) (x : List Rat) (N D : Nat) (r2 r3 r4 r5 r6 : Option Dt),
    Bds bs us → FrA N D x → 0 < D → x.length = L → (∀ b ∈ bs, b.2.length = L ∧ b.1 < L) → 0 < N → N * prodU us ≤ T → D * prodV us ≤ T → (∀ u ∈ us, u.1 ≤ T ∧ u.2 ≤ T) →
    ∃ r', forF (evT cv (Phi (n + 3)) (.tup [.nm 2, .nm 3])) (evB cv (Phi (n + 3)) [
    .asg (.nm 4) (.ix (.var 0) (.var 2)),
    .iff (.eq true (.var 4) (.cst c_ZERO)) [
      .asg (.nm 0) (.comp [5, 6] (.tup [.nm 5, .nm 6]) (.zip (.var 0) (.var 3)) [] (.call i_minus [.var 5, .call i_times [.var 4, .var 6]]))] []]) src (bs.map encB) [some (.lst (x.map qd)), some r1, r2, r3, r4, r5, r6] S = .ok (.nx (some (.lst ((clr x bs).map qd)) :: r')) S
  | [], us, x, N, D, r2, r3, r4, r5, r6, _, _, _, _, _, _, _, _, _ => ⟨_, by rw [List.map_nil]; unfold forF; rw [if_pos hs]; rfl⟩
  | b :: bs, [], x, N, D, r2, r3, r4, r5, r6, h, _, _, _, _, _, _, _, _ => h.elim
  | b :: bs, u :: us, x, N, D, r2, r3, r4, r5, r6, h, hx, hD, hl, hb, hN, h1, h2, hu => by
    obtain ⟨k1, k2, k3⟩ := h
    obtain ⟨hb1, hb2⟩ := hb b List.mem_cons_self
    obtain ⟨hu1, hu2⟩ := hu u List.mem_cons_self
    unfold prodU at h1
    unfold prodV at h2
    rw [← Nat.mul_assoc] at h1 h2
    have pU := prodU_pos k3
    have pV := prodV_pos k3
    have a1 : N * (u.2 + u.1) ≤ T := Nat.le_trans (Nat.le_mul_of_pos_right _ pU) h1
    have a2 : D * u.2 ≤ T := Nat.le_trans (Nat.le_mul_of_pos_right _ pV) h2
    have a3 : D ≤ T := Nat.le_trans (Nat.le_mul_of_pos_right _ k2) a2
    have a4 : N ≤ T := Nat.le_trans (Nat.le_mul_of_pos_right _ (Nat.add_pos_left k2 _)) a1
    have le : ∀ {m : Nat}, m ≤ T → Sz 4000 (m : Nat) := fun {m} hm => hT.of_le (by rw [Int.natAbs_natCast, Int.natAbs_natCast]; exact hm)
    have sx : AllSm x := fun q hq => (hx q hq).sm hD (le a4) (le a3)
    have sf : Sm (x.getD b.1 0) := (hx.get _).sm hD (le a4) (le a3)
    have hix := lst_ix (S := S) (qs := x) (p := b.1) (by omega)
    have tl : ∀ c ∈ bs, c.2.length = L ∧ c.1 < L := fun c hc => hb c (List.mem_cons_of_mem _ hc)
    have tu : ∀ c ∈ us, c.1 ≤ T ∧ c.2 ≤ T := fun c hc => hu c (List.mem_cons_of_mem _ hc)
    rw [List.map_cons]
    by_cases h0 : x.getD b.1 0 = 0
    · have hx2 : FrA (N * (u.2 + u.1)) (D * u.2) x := fun q hq => ((hx q hq).scale k2).mono (Nat.mul_le_mul_left _ (Nat.le_add_right _ _))
      obtain ⟨r', e⟩ := cleared_loop n r1 S T L hT hL src hs bs us x _ _ (some (.int b.1)) (some (.lst (b.2.map qd))) (some (qd 0)) r5 r6 k3 hx2 (Nat.mul_pos hD k2) hl tl (Nat.mul_pos hN (Nat.add_pos_left k2 _)) h1 h2 tu
      refine ⟨r', ?_⟩
      have ec : clr x (b :: bs) = clr x bs := by
        conv => lhs; unfold clr
        rw [if_pos h0]
      rw [ec, ← e]
      conv => lhs; unfold forF
      rw [h0] at hix
      simp only [hs, if_true, encB, evT_tup, evTs_cons, evTs_nil, evT_nm, bind_okS, List.set_cons_succ, List.set_cons_zero, evB_cons, evB_nil, evS_asg, ev_ix, ev_var, getR, List.getElem?_cons_succ, List.getElem?_cons_zero, hix, thenB_nx, evS_iff, ev_eq, ev_cst, cv_ZERO, eq_qd, toB_bl]
      simp
    · have sp : ∀ q ∈ b.2, Sm (x.getD b.1 0 * q) := fun q hq => ((hx.get _).mul (k1 q hq)).sm (Nat.mul_pos hD k2) (le (Nat.le_trans (Nat.mul_le_mul_left _ (Nat.le_add_left _ _)) a1)) (le a2)
      have sy : AllSm b.2 := fun q hq => (k1 q hq).sm k2 (le hu1) (le hu2)
      have hx2 := less_fr hx k1 (hx.get b.1) hD k2
      obtain ⟨r', e⟩ := cleared_loop n r1 S T L hT hL src hs bs us (less (x.getD b.1 0) x b.2) _ _ (some (.int b.1)) (some (.lst (b.2.map qd))) (some (qd (x.getD b.1 0))) r5 r6 k3 hx2 (Nat.mul_pos hD k2) (by rw [less_len (by omega)]; exact hl) tl (Nat.mul_pos hN (Nat.add_pos_left k2 _)) h1 h2 tu
      refine ⟨r', ?_⟩
      have ec : clr x (b :: bs) = clr (less (x.getD b.1 0) x b.2) bs := by
        conv => lhs; unfold clr
        rw [if_neg h0]
      rw [ec, ← e]
      have hless := run_less n x b.2 (x.getD b.1 0) (some r1) (some (.int b.1)) r5 r6 S sx sf sy sp (by omega)
      conv => lhs; unfold forF
      generalize x.getD b.1 0 = f at *
      have d0 : decide (f = 0) = false := decide_eq_false h0
      simp only [hs, if_true, encB, evT_tup, evTs_cons, evTs_nil, evT_nm, bind_okS, List.set_cons_succ, List.set_cons_zero, evB_cons, evB_nil, evS_asg, ev_ix, ev_var, getR, List.getElem?_cons_succ, List.getElem?_cons_zero, hix, thenB_nx, evS_iff, ev_eq, ev_cst, cv_ZERO, eq_qd, toB_bl, d0, hless]
      rfl
theorem run_cleared (n : Nat) {T L N D : Nat} (d : Dt) (bs : List (Nat × List Rat)) (us : List (Nat × Nat)) (x : List Rat) (S : Store) (hT : Sz 4000 (T : Nat)) (hL : L < 1000) (hd : IsL S d (bs.map encB))
    (h : Bds bs us) (hx : FrA N D x) (hD : 0 < D) (hl : x.length = L) (hb : ∀ b ∈ bs, b.2.length = L ∧ b.1 < L) (hN : 0 < N) (h1 : N * prodU us ≤ T) (h2 : D * prodV us ≤ T) (hu : ∀ u ∈ us, u.1 ≤ T ∧ u.2 ≤ T) :
    Phi (n + 4) i_cleared [.lst (x.map qd), d] S = .ok (.lst ((clr x bs).map qd)) S := by
  rw [phiR (n + 3) rfl (f := f_cleared) rfl _ S rfl]
  obtain ⟨r', e⟩ := cleared_loop n d S T L hT hL (srcOf d (bs.map encB)) (still_loc hd) bs us x N D none none none none none h hx hD hl hb hN h1 h2 hu
  have hr0 : (List.map some [Dt.lst (x.map qd), d] ++ List.replicate (f_cleared.sz - f_cleared.ar) none) = [some (.lst (x.map qd)), some d, none, none, none, none, none] := rfl
  rw [hr0]
  unfold f_cleared
  simp only [evB_cons, evB_nil, evS_forr, evI_seq, ev_var, getR, List.getElem?_cons_zero, List.getElem?_cons_succ, bind_okS, hd.seqK, e, thenB_nx, evS_ret, thenB_rt, endF_rt]
end K77
namespace K77
open PySem Pz
/-! ### laid rows with the same numbers are one -/
theorem nf_val0 {R : Int × List Rat} (n : Nf R) (h : R.2 ≠ []) : val R R.1 ≠ 0 := by
  have hp : 0 < R.2.length := List.length_pos_iff.mpr h
  rw [val_in (Int.le_refl _), show (R.1 - R.1).toNat = 0 by omega, getD_of (List.getElem?_eq_getElem hp)]
  exact n.hd _ (by rw [List.head?_eq_getElem?, List.getElem?_eq_getElem hp])
theorem nf_ext {R T : Int × List Rat} (hR : Nf R) (hT : Nf T) (h : ∀ k, val R k = val T k) : R = T := by
  by_cases e : R.2 = []
  · by_cases e2 : T.2 = []
    · exact Prod.ext ((hR.nil e).trans (hT.nil e2).symm) (e.trans e2.symm)
    · refine absurd ?_ (nf_val0 hT e2)
      rw [← h]
      exact val_out (by rw [e]; simp)
  · by_cases e2 : T.2 = []
    · refine absurd ?_ (nf_val0 hR e)
      rw [h]
      exact val_out (by rw [e2]; simp)
    · have i1 : In R.1 (R.1 + R.2.length) T := fun k hk => in_self R k (by rw [h]; exact hk)
      have i2 : In T.1 (T.1 + T.2.length) R := fun k hk => in_self T k (by rw [← h]; exact hk)
      have a1 := (i1.start hT).resolve_left fun z => e2 (by rw [z])
      have a2 := (i2.start hR).resolve_left fun z => e (by rw [z])
      have e1 : R.1 = T.1 := by omega
      have el : R.2.length = T.2.length := by omega
      refine Prod.ext e1 (List.ext_getElem el fun i h1 h2 => ?_)
      have := h (R.1 + (i : Int))
      rw [val_in (by omega), val_in (by omega), show (R.1 + (i : Int) - R.1).toNat = i by omega, show (R.1 + (i : Int) - T.1).toNat = i by omega, getD_of (List.getElem?_eq_getElem h1), getD_of (List.getElem?_eq_getElem h2)] at this
      exact this
/-! ### sums -/
theorem sm_split (f : Nat → Rat) (m : Nat) : ∀ n, sm (m + n) f = sm m f + sm n fun j => f (m + j)
  | 0 => by show sm m f = sm m f + 0; rw [Rat.add_zero]
  | n + 1 => by
    show sm (m + n) f + f (m + n) = sm m f + (sm n (fun j => f (m + j)) + f (m + n))
    rw [sm_split f m n, Rat.add_assoc]
theorem sm_win {f : Nat → Rat} {a b n : Nat} (h : a + b ≤ n) (h1 : ∀ j < a, f j = 0) (h2 : ∀ j, a + b ≤ j → j < n → f j = 0) : sm n f = sm b fun j => f (a + j) := by
  obtain ⟨c, rfl⟩ : ∃ c, n = a + (b + c) := ⟨n - (a + b), by omega⟩
  rw [sm_split, sm_zero h1, sm_split, sm_zero (n := c) (fun j hj => h2 _ (by omega) (by omega)), Rat.zero_add, Rat.add_zero]
theorem sm_add {n : Nat} {f g : Nat → Rat} : sm n (fun j => f j + g j) = sm n f + sm n g := by
  induction n with
  | zero => show (0 : Rat) = 0 + 0; rw [Rat.add_zero]
  | succ n ih =>
    show sm n (fun j => f j + g j) + (f n + g n) = (sm n f + f n) + (sm n g + g n)
    rw [ih]
    grind
theorem sm_mul {n : Nat} {f : Nat → Rat} {c : Rat} : sm n (fun j => f j * c) = sm n f * c := by
  induction n with
  | zero => show (0 : Rat) = 0 * c; rw [Rat.zero_mul]
  | succ n ih =>
    show sm n (fun j => f j * c) + f n * c = (sm n f + f n) * c
    rw [ih, Rat.add_mul]
theorem sm_mull {n : Nat} {f : Nat → Rat} {c : Rat} : sm n (fun j => c * f j) = c * sm n f := by
  rw [Rat.mul_comm c, ← sm_mul]
  exact sm_congr fun j _ => Rat.mul_comm ..
theorem sm_swap {m n : Nat} {f : Nat → Nat → Rat} : sm m (fun i => sm n fun j => f i j) = sm n fun j => sm m fun i => f i j := by
  induction m with
  | zero => exact (sm_zero fun j _ => rfl).symm
  | succ m ih =>
    show sm m (fun i => sm n fun j => f i j) + sm n (f m) = sm n fun j => sm m (fun i => f i j) + f m j
    rw [ih, sm_add]
theorem sm_rev {f : Nat → Rat} : ∀ n, sm n f = sm n fun j => f (n - 1 - j)
  | 0 => rfl
  | n + 1 => by
    have e := sm_split (fun j => f (n + 1 - 1 - j)) 1 n
    rw [Nat.add_comm 1 n] at e
    rw [e]
    show sm n f + f n = (0 + f (n + 1 - 1 - 0)) + sm n fun j => f (n + 1 - 1 - (1 + j))
    rw [sm_rev n, Rat.zero_add, Rat.add_comm, show n + 1 - 1 - 0 = n by omega]
    congr 1
    exact sm_congr fun j hj => by rw [show n + 1 - 1 - (1 + j) = n - 1 - j by omega]
/-- the product's number, over a window -/
theorem conv_win {R1 R2 : Int × List Rat} {a : Int} {n : Nat} (h : In a (a + n) R1) (n1 : Nf R1) (k : Int) : conv R1 R2 k = sm n fun j => val R1 (a + (j : Int)) * val R2 (k - a - (j : Int)) := by
  by_cases e : R1.2 = []
  · rw [conv_nil1 e]
    refine (sm_zero fun j _ => ?_).symm
    rw [val_out (by rw [e]; simp), Rat.zero_mul]
  · have hs := (h.start n1).resolve_left fun z => e (by rw [z])
    obtain ⟨d, hd⟩ : ∃ d : Nat, R1.1 = a + (d : Int) := ⟨(R1.1 - a).toNat, by omega⟩
    unfold conv
    rw [sm_win (a := d) (b := R1.2.length) (n := n) (by omega) (fun j hj => by rw [val_out (by omega), Rat.zero_mul]) (fun j h1 h2 => by rw [val_out (by omega), Rat.zero_mul])]
    refine sm_congr fun j hj => ?_
    rw [val_in (R := R1) (by omega), show (a + ((d + j : Nat) : Int) - R1.1).toNat = j by omega, show k - R1.1 - (j : Int) = k - a - ((d + j : Nat) : Int) by omega]
/-- the other way round -/
theorem conv_win2 {R1 R2 : Int × List Rat} {b : Int} {n : Nat} (h : In b (b + n) R2) (k : Int) : conv R1 R2 k = sm n fun j => val R1 (k - b - (j : Int)) * val R2 (b + (j : Int)) := by
  have key : ∀ (N : Nat), R1.2.length ≤ N → conv R1 R2 k = sm N fun i => val R1 (R1.1 + (i : Int)) * val R2 (k - R1.1 - (i : Int)) := fun N hN => by
    unfold conv
    rw [sm_win (a := 0) (b := R1.2.length) (n := N) (by omega) (fun j hj => by omega) (fun j h1 h2 => by rw [val_out (R := R1) (by omega), Rat.zero_mul])]
    refine sm_congr fun j hj => ?_
    rw [val_in (R := R1) (by omega), show (R1.1 + ((0 + j : Nat) : Int) - R1.1).toNat = j by omega, show ((0 + j : Nat) : Int) = (j : Int) by omega]
  -- i + j = k - R1.1 - b
  obtain ⟨t, ht⟩ : ∃ t : Int, t = k - R1.1 - b := ⟨_, rfl⟩
  by_cases h0 : t < 0
  · rw [key _ (Nat.le_refl _), sm_zero, sm_zero]
    · intro j hj
      rw [val_out (R := R1) (by omega), Rat.zero_mul]
    · intro j hj
      have : val R2 (k - R1.1 - (j : Int)) = 0 := Classical.byContradiction fun z => by have := h _ z; omega
      rw [this, Rat.mul_zero]
  · obtain ⟨u, rfl⟩ : ∃ u : Nat, t = (u : Int) := ⟨t.toNat, by omega⟩
    rw [key (R1.2.length + u + 1) (by omega)]
    -- only i ≤ u
    rw [sm_win (a := 0) (b := u + 1) (n := R1.2.length + u + 1) (by omega) (fun j hj => by omega) (fun j h1 h2 => by
      have : val R2 (k - R1.1 - (j : Int)) = 0 := Classical.byContradiction fun z => by have := h _ z; omega
      rw [this, Rat.mul_zero])]
    rw [sm_rev (u + 1)]
    by_cases hn : n ≤ u + 1
    · rw [sm_win (a := 0) (b := n) (n := u + 1) (by omega) (fun j hj => by omega) (fun j h1 h2 => by
        have : val R2 (k - R1.1 - ((0 + (u + 1 - 1 - j) : Nat) : Int)) = 0 := Classical.byContradiction fun z => by have := h _ z; omega
        rw [this, Rat.mul_zero])]
      refine sm_congr fun j hj => ?_
      rw [show R1.1 + ((0 + (u + 1 - 1 - (0 + j)) : Nat) : Int) = k - b - (j : Int) by omega, show k - R1.1 - ((0 + (u + 1 - 1 - (0 + j)) : Nat) : Int) = b + (j : Int) by omega]
    · refine Eq.symm ?_
      rw [sm_win (a := 0) (b := u + 1) (n := n) (by omega) (fun j hj => by omega) (fun j h1 h2 => by rw [val_out (R := R1) (by omega), Rat.zero_mul])]
      refine sm_congr fun j hj => ?_
      rw [show R1.1 + ((0 + (u + 1 - 1 - j) : Nat) : Int) = k - b - ((0 + j : Nat) : Int) by omega, show k - R1.1 - ((0 + (u + 1 - 1 - j) : Nat) : Int) = b + ((0 + j : Nat) : Int) by omega]
end K77
namespace K77
open PySem Pz
/-! ### the elimination, plain -/
section
variable (x : Nat → Int → Rat) (w : Nat)
def vt (k : Nat) : List Rat := (List.range w).map (fun p => x k (p : Nat)) ++ (List.range (w + 1)).map fun p => if p = k then (1 : Rat) else 0
def bas : Nat → List (Nat × List Rat)
  | 0 => []
  | k + 1 => bas k ++ [((lead (clr (vt x w k) (bas k)) 0 w).getD 0, (clr (vt x w k) (bas k)).map (· / (clr (vt x w k) (bas k)).getD ((lead (clr (vt x w k) (bas k)) 0 w).getD 0) 0))]
def lf (k : Nat) : List Rat := clr (vt x w k) (bas x w k)
def pv (k : Nat) : Nat := (lead (lf x w k) 0 w).getD 0
def ob (k : Nat) : List Rat := (lf x w k).map (· / (lf x w k).getD (pv x w k) 0)
/-- the first k rows all had a leading place -/
def Live (k : Nat) : Prop := ∀ j < k, lead (lf x w j) 0 w ≠ none
end
variable {x : Nat → Int → Rat} {w : Nat}
theorem bas_succ (k : Nat) : bas x w (k + 1) = bas x w k ++ [(pv x w k, ob x w k)] := (rfl)
theorem bas_mem {k : Nat} {b : Nat × List Rat} (h : b ∈ bas x w k) : ∃ j < k, b = (pv x w j, ob x w j) := by
  induction k with
  | zero => cases h
  | succ k ih =>
    rw [bas_succ] at h
    rcases List.mem_append.mp h with h | h
    · obtain ⟨j, hj, e⟩ := ih h; exact ⟨j, by omega, e⟩
    · rw [List.mem_singleton] at h; exact ⟨k, by omega, h⟩
theorem bas_len (k : Nat) : (bas x w k).length = k := by
  induction k with
  | zero => rfl
  | succ k ih => rw [bas_succ, List.length_append, ih]; rfl
theorem vt_len (k : Nat) : (vt x w k).length = w + (w + 1) := by unfold vt; simp
theorem clr_append : ∀ (bs cs : List (Nat × List Rat)) (y : List Rat), clr y (bs ++ cs) = clr (clr y bs) cs
  | [], cs, y => rfl
  | b :: bs, cs, y => by
    show clr (if y.getD b.1 0 = 0 then y else less (y.getD b.1 0) y b.2) (bs ++ cs) = clr (clr (if y.getD b.1 0 = 0 then y else less (y.getD b.1 0) y b.2) bs) cs
    exact clr_append bs cs _
theorem lens : ∀ k, (lf x w k).length = w + (w + 1) ∧ (ob x w k).length = w + (w + 1) := by
  intro k
  induction k using Nat.strongRecOn with
  | _ k ih =>
    have h1 : (lf x w k).length = w + (w + 1) := by
      unfold lf
      rw [clr_len, vt_len]
      intro b hb
      obtain ⟨j, hj, rfl⟩ := bas_mem hb
      rw [vt_len]; exact (ih j hj).2
    exact ⟨h1, by unfold ob; rw [List.length_map]; exact h1⟩
theorem live_pv {k : Nat} (h : lead (lf x w k) 0 w ≠ none) : pv x w k < w ∧ (lf x w k).getD (pv x w k) 0 ≠ 0 ∧ lead (lf x w k) 0 w = some (pv x w k) ∧ ∀ j < pv x w k, (lf x w k).getD j 0 = 0 := by
  unfold pv
  cases e : lead (lf x w k) 0 w with
  | none => exact absurd e h
  | some p =>
    obtain ⟨a1, a2, a3, a4⟩ := lead_some e
    exact ⟨by simpa using a2, a3, rfl, fun j hj => a4 j (Nat.zero_le _) hj⟩
theorem map_get {qs : List Rat} {f : Rat → Rat} (hf : f 0 = 0) (i : Nat) : (qs.map f).getD i 0 = f (qs.getD i 0) := by
  rw [List.getD_eq_getElem?_getD, List.getElem?_map, List.getD_eq_getElem?_getD]
  cases qs[i]? with
  | none => exact hf.symm
  | some a => rfl
theorem ob_get (k i : Nat) : (ob x w k).getD i 0 = (lf x w k).getD i 0 / (lf x w k).getD (pv x w k) 0 := by
  unfold ob
  rw [map_get (by rw [Rat.div_def, Rat.zero_mul])]
/-- one step of clearing -/
def clr1 (y : List Rat) (p : Nat) (b : List Rat) : List Rat := if y.getD p 0 = 0 then y else less (y.getD p 0) y b
theorem clr_snoc (y : List Rat) (bs : List (Nat × List Rat)) (p : Nat) (b : List Rat) : clr y (bs ++ [(p, b)]) = clr1 (clr y bs) p b := by
  rw [clr_append]; rfl
theorem clr1_len {y : List Rat} {p : Nat} {b : List Rat} (h : b.length = y.length) : (clr1 y p b).length = y.length := by
  unfold clr1; split
  · rfl
  · exact less_len h.symm
theorem clr1_get {y : List Rat} {p : Nat} {b : List Rat} (h : b.length = y.length) (i : Nat) : (clr1 y p b).getD i 0 = y.getD i 0 - y.getD p 0 * b.getD i 0 := by
  unfold clr1; split
  · rename_i e; rw [e, Rat.zero_mul]; grind
  · exact less_get h.symm i
theorem clr_lenb {y : List Rat} (h : y.length = w + (w + 1)) (k : Nat) : (clr y (bas x w k)).length = w + (w + 1) := by
  rw [clr_len, h]
  intro b hb
  obtain ⟨j, hj, rfl⟩ := bas_mem hb
  rw [h]; exact (lens j).2
theorem clr_succ {y : List Rat} (h : y.length = w + (w + 1)) (k i : Nat) : (clr y (bas x w (k + 1))).getD i 0 = (clr y (bas x w k)).getD i 0 - (clr y (bas x w k)).getD (pv x w k) 0 * (ob x w k).getD i 0 := by
  rw [bas_succ, clr_snoc, clr1_get]
  rw [clr_lenb h]; exact (lens k).2
theorem ob_one {k : Nat} (h : lead (lf x w k) 0 w ≠ none) : (ob x w k).getD (pv x w k) 0 = 1 := by
  rw [ob_get]
  have := (live_pv h).2.1
  rw [Rat.div_def]; exact Rat.mul_inv_cancel _ this
/-- what is cleared is nought at the leading places -/
theorem clr_zero : ∀ {k : Nat}, Live x w k → ∀ {y : List Rat}, y.length = w + (w + 1) → ∀ j < k, (clr y (bas x w k)).getD (pv x w j) 0 = 0
  | 0, _, y, _, j, hj => absurd hj (Nat.not_lt_zero _)
  | k + 1, hL, y, hy, j, hj => by
    have hL' : Live x w k := fun i hi => hL i (by omega)
    rw [clr_succ hy]
    by_cases e : j = k
    · subst e
      rw [ob_one (hL j (by omega)), Rat.mul_one, Rat.sub_self]
    · have hjk : j < k := by omega
      rw [clr_zero hL' hy j hjk, ob_get]
      have : (lf x w k).getD (pv x w j) 0 = 0 := clr_zero hL' (vt_len k) j hjk
      rw [this, Rat.div_def, Rat.zero_mul, Rat.mul_zero, Rat.sub_self]
theorem lf_zero {k j : Nat} (hL : Live x w k) (hj : j < k) : (lf x w k).getD (pv x w j) 0 = 0 := clr_zero hL (vt_len k) j hj
/-! ### what is kept: the numbers are those of the rows by the tags -/
def Rel (x : Nat → Int → Rat) (w : Nat) (l : List Rat) : Prop := ∀ p < w, l.getD p 0 = sm (w + 1) fun i => l.getD (w + i) 0 * x i (p : Nat)
theorem vt_lo {k p : Nat} (h : p < w) : (vt x w k).getD p 0 = x k p := by
  refine getD_of ?_
  unfold vt
  rw [List.getElem?_append_left (by simpa using h), List.getElem?_map, List.getElem?_range h]; rfl
theorem vt_hi {k i : Nat} (h : i < w + 1) : (vt x w k).getD (w + i) 0 = if i = k then 1 else 0 := by
  refine getD_of ?_
  unfold vt
  rw [List.getElem?_append_right (by simp), List.length_map, List.length_range, Nat.add_sub_cancel_left, List.getElem?_map, List.getElem?_range h]; rfl
theorem sm_delta {n k : Nat} {f : Nat → Rat} (h : k < n) : sm n (fun i => (if i = k then (1 : Rat) else 0) * f i) = f k := by
  rw [sm_win (a := k) (b := 1) (by omega) (fun j hj => by rw [if_neg (by omega), Rat.zero_mul]) (fun j h1 h2 => by rw [if_neg (by omega), Rat.zero_mul])]
  show (0 : Rat) + (if k + 0 = k then (1 : Rat) else 0) * f (k + 0) = f k
  rw [Nat.add_zero, if_pos rfl, Rat.zero_add, Rat.one_mul]
theorem vt_rel {k : Nat} (h : k < w + 1) : Rel x w (vt x w k) := by
  intro p hp
  rw [vt_lo hp, ← sm_delta (f := fun i => x i p) h]
  exact sm_congr fun i hi => by rw [vt_hi hi]
theorem Rel.sub {y b : List Rat} (h1 : Rel x w y) (h2 : Rel x w b) {z : List Rat} (f : Rat) (h : ∀ i, z.getD i 0 = y.getD i 0 - f * b.getD i 0) : Rel x w z := by
  intro p hp
  rw [h, h1 p hp, h2 p hp, ← sm_mull]
  have : ∀ i, z.getD (w + i) 0 * x i p = y.getD (w + i) 0 * x i p + (f * (b.getD (w + i) 0 * x i p)) * (-1) := fun i => by rw [h]; grind
  rw [sm_congr fun i _ => this i, sm_add, sm_mul]
  grind
theorem Rel.scale {y : List Rat} (h1 : Rel x w y) {z : List Rat} (f : Rat) (h : ∀ i, z.getD i 0 = y.getD i 0 * f) : Rel x w z := by
  intro p hp
  rw [h, h1 p hp, ← sm_mul]
  exact sm_congr fun i _ => by rw [h]; grind
theorem clr_rel : ∀ {k : Nat}, (∀ j < k, Rel x w (ob x w j)) → ∀ {y : List Rat}, y.length = w + (w + 1) → Rel x w y → Rel x w (clr y (bas x w k))
  | 0, _, y, _, hr => hr
  | k + 1, ho, y, hy, hr => (clr_rel (fun j hj => ho j (by omega)) hy hr).sub (ho k (by omega)) _ fun i => clr_succ hy k i
theorem rels : ∀ k, k < w + 1 → Rel x w (lf x w k) ∧ Rel x w (ob x w k) := by
  intro k
  induction k using Nat.strongRecOn with
  | _ k ih =>
    intro hk
    have h1 : Rel x w (lf x w k) := clr_rel (fun j hj => (ih j hj (by omega)).2) (vt_len k) (vt_rel hk)
    exact ⟨h1, h1.scale ((lf x w k).getD (pv x w k) 0)⁻¹ fun i => by rw [ob_get, Rat.div_def]⟩
/-- the tags behind a row's own are nought -/
theorem clr_tag : ∀ {k : Nat} {i : Nat}, (∀ j < k, (ob x w j).getD (w + i) 0 = 0) → ∀ {y : List Rat}, y.length = w + (w + 1) → (clr y (bas x w k)).getD (w + i) 0 = y.getD (w + i) 0
  | 0, i, _, y, _ => rfl
  | k + 1, i, ho, y, hy => by
    rw [clr_succ hy, ho k (by omega), Rat.mul_zero, clr_tag (fun j hj => ho j (by omega)) hy]
    grind
theorem tags : ∀ k i, k ≤ i → i < w + 1 → (lf x w k).getD (w + i) 0 = (if i = k then 1 else 0) ∧ (k < i → (ob x w k).getD (w + i) 0 = 0) := by
  intro k
  induction k using Nat.strongRecOn with
  | _ k ih =>
    intro i h1 h2
    have h : (lf x w k).getD (w + i) 0 = (if i = k then 1 else 0) := by
      unfold lf
      rw [clr_tag (fun j hj => (ih j hj i (by omega) h2).2 (by omega)) (vt_len k), vt_hi h2]
    refine ⟨h, fun hk => ?_⟩
    rw [ob_get, h, if_neg (by omega), Rat.div_def, Rat.zero_mul]
/-! ### the rows ahead are independent -/
/-- no sum of them is nought at all leading places -/
theorem indep : ∀ {m : Nat}, Live x w m → m ≤ w → ∀ c : Nat → Rat, (∀ j < m, sm m (fun i => c i * x i (pv x w j : Nat)) = 0) → ∀ i < m, c i = 0
  | 0, _, _, c, _, i, hi => absurd hi (Nat.not_lt_zero _)
  | m + 1, hL, hm, c, h, i, hi => by
    have hL' : Live x w m := fun j hj => hL j (by omega)
    obtain ⟨hp, hp2, _, _⟩ := live_pv (hL m (by omega))
    have hT := fun i (h1 : m ≤ i) (h2 : i < w + 1) => (tags (x := x) (w := w) m i h1 h2).1
    -- the cleared row by the tags
    have hl : ∀ p < w, (lf x w m).getD p 0 = sm m (fun i => (lf x w m).getD (w + i) 0 * x i (p : Nat)) + x m p := fun p hp => by
      rw [(rels m (by omega)).1 p hp]
      rw [sm_win (a := 0) (b := m + 1) (n := w + 1) (by omega) (fun j hj => by omega) (fun j h1 h2 => by rw [hT j (by omega) h2, if_neg (by omega), Rat.zero_mul])]
      show sm m _ + (lf x w m).getD (w + (0 + m)) 0 * x (0 + m) p = _
      rw [Nat.zero_add, hT m (Nat.le_refl _) (by omega), if_pos rfl, Rat.one_mul]
      congr 1
      exact sm_congr fun j _ => by rw [Nat.zero_add]
    have h' : ∀ j < m + 1, sm m (fun i => c i * x i (pv x w j : Nat)) + c m * x m (pv x w j : Nat) = 0 := h
    have pvlt : ∀ j < m + 1, pv x w j < w := fun j hj => (live_pv (hL j hj)).1
    have key : ∀ j < m + 1, sm m (fun i => (c i - c m * (lf x w m).getD (w + i) 0) * x i (pv x w j : Nat)) = - c m * (lf x w m).getD (pv x w j) 0 := fun j hj => by
      have e1 := hl _ (pvlt j hj)
      have e2 := h' j hj
      have e3 : sm m (fun i => (c i - c m * (lf x w m).getD (w + i) 0) * x i (pv x w j : Nat)) = sm m (fun i => c i * x i (pv x w j : Nat)) + sm m (fun i => (lf x w m).getD (w + i) 0 * x i (pv x w j : Nat)) * (- c m) := by
        rw [← sm_mul, ← sm_add]
        exact sm_congr fun i _ => by grind
      rw [e3]
      grind
    have ih := indep hL' (by omega) (fun i => c i - c m * (lf x w m).getD (w + i) 0) fun j hj => by
      rw [key j (by omega), lf_zero hL' hj, Rat.mul_zero]
    have hm0 : c m = 0 := by
      have e := key m (by omega)
      rw [sm_zero fun i hi => by rw [ih i hi, Rat.zero_mul]] at e
      refine Classical.byContradiction fun z => ?_
      have : c m * (lf x w m).getD (pv x w m) 0 = 0 := by rw [Rat.neg_mul] at e; grind
      rcases Rat.mul_eq_zero.mp this with q | q
      · exact z q
      · exact hp2 q
    by_cases e : i = m
    · subst e; exact hm0
    · have := ih i (by omega)
      rw [hm0] at this
      grind
/-! ### it ends -/
theorem pigeon : ∀ (n : Nat) (f : Nat → Nat), (∀ i < n + 1, f i < n) → ∃ i j, i < j ∧ j < n + 1 ∧ f i = f j
  | 0, f, h => absurd (h 0 (by omega)) (Nat.not_lt_zero _)
  | n + 1, f, h => by
    by_cases hc : ∃ i, i < n + 1 ∧ f i = f (n + 1)
    · obtain ⟨i, hi, e⟩ := hc; exact ⟨i, n + 1, hi, by omega, e⟩
    · have hc' : ∀ i < n + 1, f i ≠ f (n + 1) := fun i hi e => hc ⟨i, hi, e⟩
      obtain ⟨i, j, h1, h2, h3⟩ := pigeon n (fun i => if f (n + 1) < f i then f i - 1 else f i) fun i hi => by
        have a1 := h i (by omega)
        have a2 := h (n + 1) (by omega)
        have a3 := hc' i hi
        split <;> omega
      refine ⟨i, j, h1, by omega, ?_⟩
      have a1 := hc' i (by omega)
      have a2 := hc' j (by omega)
      split at h3 <;> split at h3 <;> omega
/-- with at most h places that are not nought, at most h rows lead -/
theorem ends {h : Nat} (hh : h ≤ w) (hx : ∀ k < w + 1, ∀ p : Nat, h ≤ p → x k (p : Nat) = 0) : ∃ K ≤ h, Live x w K ∧ lead (lf x w K) 0 w = none := by
  refine Classical.byContradiction fun hn => ?_
  have hL : ∀ k, k ≤ h + 1 → Live x w k := by
    intro k
    induction k with
    | zero => intro _ j hj; omega
    | succ k ih =>
      intro hk j hj
      by_cases e : j = k
      · subst e; exact fun z => hn ⟨j, by omega, ih (by omega), z⟩
      · exact ih (by omega) j (by omega)
  obtain ⟨i, j, h1, h2, h3⟩ := pigeon h (pv x w) fun i hi => by
    obtain ⟨a1, a2, _, _⟩ := live_pv (hL (h + 1) (Nat.le_refl _) i hi)
    refine Decidable.byContradiction fun z => a2 ?_
    rw [(rels i (by omega)).1 _ a1]
    exact sm_zero fun t ht => by rw [hx t ht _ (by omega), Rat.mul_zero]
  have hz := lf_zero (x := x) (w := w) (hL j (by omega)) h1
  rw [h3] at hz
  exact (live_pv (hL (h + 1) (Nat.le_refl _) j h2)).2.1 hz
end K77
namespace K77
open PySem Pz
/-! ### rule_of: bounds -/
theorem Fr.div {N D : Nat} {q : Rat} {a : Int} (h : Fr N D q) (ha : a ≠ 0) (hD : 0 < D) : Fr N a.natAbs (q / Rat.divInt a D) := by
  obtain ⟨b, rfl, hb⟩ := h
  have hD' : (D : Int) ≠ 0 := by omega
  have ea : Rat.divInt a D ≠ 0 := fun e => ha (by rw [Rat.divInt_ofNat, Rat.mkRat_eq_zero (by omega)] at e; exact e)
  have e1 : Rat.divInt b D / Rat.divInt a D = Rat.divInt b a := by
    rw [Rat.div_def, Rat.inv_divInt, Rat.divInt_mul_divInt, Int.mul_comm (D : Int) a, Rat.divInt_mul_right hD']
  rw [e1]
  by_cases hp : 0 < a
  · exact ⟨b, by rw [show ((a.natAbs : Nat) : Int) = a by omega], hb⟩
  · refine ⟨-b, ?_, by rw [Int.natAbs_neg]; exact hb⟩
    rw [show ((a.natAbs : Nat) : Int) = -a by omega, Rat.neg_divInt_neg]
def Pb (N D : Nat → Nat) : Nat → Nat
  | 0 => 1
  | k + 1 => Pb N D k * (2 * (max (N k) (D k) * Pb N D k))
def Bb (N D : Nat → Nat) (k : Nat) : Nat := max (N k) (D k) * Pb N D k
section
variable {x : Nat → Int → Rat} {w : Nat} {N D : Nat → Nat}
theorem Bds.snoc : ∀ {bs : List (Nat × List Rat)} {us : List (Nat × Nat)} {b : Nat × List Rat} {u : Nat × Nat}, Bds bs us → FrA u.1 u.2 b.2 → 0 < u.2 → Bds (bs ++ [b]) (us ++ [u])
  | [], [], b, u, _, h1, h2 => ⟨h1, h2, trivial⟩
  | [], _ :: _, _, _, h, _, _ => h.elim
  | _ :: _, [], _, _, h, _, _ => h.elim
  | c :: bs, v :: us, b, u, h, h1, h2 => ⟨h.1, h.2.1, Bds.snoc h.2.2 h1 h2⟩
theorem prodU_snoc (u : Nat × Nat) : ∀ us : List (Nat × Nat), prodU (us ++ [u]) = prodU us * (u.2 + u.1)
  | [] => by show (u.2 + u.1) * 1 = 1 * (u.2 + u.1); omega
  | v :: us => by show (v.2 + v.1) * prodU (us ++ [u]) = (v.2 + v.1) * prodU us * _; rw [prodU_snoc u us, Nat.mul_assoc]
theorem prodV_snoc (u : Nat × Nat) : ∀ us : List (Nat × Nat), prodV (us ++ [u]) = prodV us * u.2
  | [] => by show u.2 * 1 = 1 * u.2; omega
  | v :: us => by show v.2 * prodV (us ++ [u]) = v.2 * prodV us * _; rw [prodV_snoc u us, Nat.mul_assoc]
theorem bas_bds : ∀ k, Live x w k → (∀ j < k, FrA (N j) (D j) (vt x w j) ∧ 0 < D j) → ∃ us, Bds (bas x w k) us ∧ prodU us ≤ Pb N D k ∧ prodV us ≤ Pb N D k ∧ ∀ u ∈ us, u.1 ≤ Pb N D k ∧ u.2 ≤ Pb N D k
  | 0, _, _ => ⟨[], trivial, Nat.le_refl _, Nat.le_refl _, fun u hu => by cases hu⟩
  | k + 1, hL, hv => by
    obtain ⟨us, h1, h2, h3, h4⟩ := bas_bds k (fun j hj => hL j (by omega)) fun j hj => hv j (by omega)
    obtain ⟨hx, hD⟩ := hv k (by omega)
    have hl : FrA (N k * prodU us) (D k * prodV us) (lf x w k) := clr_fr h1 hx hD
    have hDp : 0 < D k * prodV us := Nat.mul_pos hD (prodV_pos h1)
    obtain ⟨_, hne, _⟩ := live_pv (hL k (by omega))
    obtain ⟨a, ea, ha⟩ := hl.get (pv x w k)
    have ha0 : a ≠ 0 := fun z => hne (by rw [ea, z, Rat.zero_divInt])
    have hob : FrA (N k * prodU us) a.natAbs (ob x w k) := by
      intro q hq
      unfold ob at hq
      obtain ⟨p, hp, rfl⟩ := List.mem_map.mp hq
      rw [ea]
      exact (hl p hp).div ha0 hDp
    have hap : 0 < a.natAbs := Int.natAbs_pos.mpr ha0
    have hB : N k * prodU us ≤ max (N k) (D k) * Pb N D k := Nat.mul_le_mul (Nat.le_max_left ..) h2
    have hP : 0 < Pb N D k := Nat.lt_of_lt_of_le (prodU_pos h1) h2
    have hBp : 0 < max (N k) (D k) * Pb N D k := Nat.mul_pos (Nat.lt_of_lt_of_le hD (Nat.le_max_right ..)) hP
    refine ⟨us ++ [(N k * prodU us, a.natAbs)], h1.snoc hob hap, ?_, ?_, fun u hu => ?_⟩
    · rw [prodU_snoc]
      exact Nat.mul_le_mul h2 (by dsimp only; omega)
    · rw [prodV_snoc]
      exact Nat.mul_le_mul h3 (by dsimp only; omega)
    · have le1 : Pb N D k ≤ Pb N D (k + 1) := Nat.le_mul_of_pos_right _ (by omega)
      have le2 : max (N k) (D k) * Pb N D k ≤ Pb N D (k + 1) := Nat.le_trans (by omega) (Nat.le_mul_of_pos_left _ hP)
      rcases List.mem_append.mp hu with hu | hu
      · have := h4 u hu; omega
      · rw [List.mem_singleton] at hu
        subst hu
        dsimp only
        omega
theorem Pb_pos (hD : ∀ j, 0 < D j) : ∀ k, 0 < Pb N D k
  | 0 => Nat.one_pos
  | k + 1 => Nat.mul_pos (Pb_pos hD k) (Nat.mul_pos (by omega) (Nat.mul_pos (Nat.lt_of_lt_of_le (hD k) (Nat.le_max_right ..)) (Pb_pos hD k)))
theorem Bb_le (hD : ∀ j, 0 < D j) {j k : Nat} (h : j ≤ k) : Bb N D j ≤ Bb N D k ∧ Pb N D j ≤ Bb N D k := by
  induction k with
  | zero =>
    obtain rfl : j = 0 := by omega
    exact ⟨Nat.le_refl _, Nat.le_mul_of_pos_left _ (Nat.lt_of_lt_of_le (hD 0) (Nat.le_max_right ..))⟩
  | succ k ih =>
    have hp : 0 < max (N (k + 1)) (D (k + 1)) := Nat.lt_of_lt_of_le (hD (k + 1)) (Nat.le_max_right ..)
    have hP := Pb_pos (N := N) hD k
    have le2 : Bb N D k ≤ Pb N D (k + 1) := Nat.le_trans (by unfold Bb; omega) (Nat.le_mul_of_pos_left _ hP)
    have le3 : Pb N D (k + 1) ≤ Bb N D (k + 1) := Nat.le_mul_of_pos_left _ hp
    by_cases e : j = k + 1
    · subst e; exact ⟨Nat.le_refl _, le3⟩
    · have := ih (by omega)
      omega
end
/-! ### the turns of rule_of -/
theorem lst_nl (qs : List Rat) : (Dt.lst (qs.map qd)).nl = true := nlAll_qd qs
theorem encB_nl (b : Nat × List Rat) : (encB b).nl = true := by
  show (true && (nlAll (b.2.map qd) && true)) = true
  rw [nlAll_qd]; rfl
theorem catK_lst {S : Store} {a b : List Dt} (h : a.length + b.length ≤ 1000000) : catK (.lst a) (.lst b) S = .ok (.lst (a ++ b)) S := by
  unfold catK catD
  show (match (if okLen (a.length + b.length) then some (a ++ b) else none) with | some xs => Res.ok (Dt.lst xs) S | none => .bad) = _
  rw [if_pos (okLen_of h)]
theorem rngL_map (n : Nat) : rngL 0 1 n = (List.range n).map fun k : Nat => .int (k : Int) := by
  unfold rngL
  refine List.map_congr_left fun k _ => ?_
  congr 1; omega
theorem app_loc {S : Store} {xs : List Dt} {d : Dt} (h : okLen xs.length = true) (hd : d.nl = true) : mthD (S ++ [xs]) .append (.loc S.length) [d] = .ok .non (S ++ [xs ++ [d]]) := by
  have h1 : asLoc (S ++ [xs]) (.loc S.length) = some (S.length, xs) := by show ((S ++ [xs])[S.length]?).map _ = _; rw [get_append]; rfl
  unfold mthD
  rw [h1]
  show (if okLen xs.length && d.nl then Res.ok Dt.non ((S ++ [xs]).set S.length (xs ++ [d])) else .bad) = _
  rw [h, hd, set_append]; rfl
theorem evI_rng1_of {n j : Nat} {e : IEx} {r : Rho} {S : Store} (h : evE cv (Phi n) e r S = .ok (.int (j : Nat)) S) (hok : okR (j : Int) = true) : evI cv (Phi n) (.rng1 e) r S = .ok ⟨(List.range j).map fun k : Nat => .int (k : Int), []⟩ S := by
  rw [evI_rng1, h, bind_okS, rng1_ok hok, rngL_map]
section
variable (n : Nat) (r0 r2 r3 r5 r6 r7 : Option Dt) (S : Store) (w k : Nat)
theorem rule_s1 (hw : okR ((w + 1 : Nat) : Int) = true) (hw2 : w + 1 ≤ 1000000) :
    evS cv (Phi n) (.asg (.nm 5) (.comp [7] (.nm 7) (.rng1 (.bin .add (.var 1) (.int 1))) [] (.ite (.eq false (.var 7) (.var 4)) (.cst c_ONE) (.cst c_ZERO)))) [r0, some (.int w), r2, r3, some (.int k), r5, r6, r7] S
      = .ok (.nx [r0, some (.int w), r2, r3, some (.int k), some (.lst (((List.range (w + 1)).map fun p => if p = k then (1 : Rat) else 0).map qd)), r6, r7]) S := by
  rw [evS_asg, ev_comp]
  have hc : compK [7] (evI cv (Phi n) (.rng1 (.bin .add (.var 1) (.int 1)))) (evT cv (Phi n) (.nm 7)) (evC cv (Phi n) []) (evE cv (Phi n) (.ite (.eq false (.var 7) (.var 4)) (.cst c_ONE) (.cst c_ZERO))) [r0, some (.int w), r2, r3, some (.int k), r5, r6, r7] S
      = .ok (.lst (((List.range (w + 1)).map fun p => if p = k then (1 : Rat) else 0).map qd)) S := by
    rw [List.map_map]
    refine comp_map (src := []) (fun p : Nat => .int (p : Int)) (fun p : Nat => qd (if p = k then 1 else 0)) ?_ ?_ rfl fun p hp => ?_
    · exact evI_rng1_of (j := w + 1) (by simp [getR]) hw
    · rw [List.length_range]; exact hw2
    · by_cases e : p = k
      · subst e
        simp [getR, eqD_int, cv_ONE]
      · have e2 : ¬ ((p : Int) = (k : Int)) := by omega
        simp [getR, eqD_int, e, e2, cv_ZERO]
  rw [hc, bind_okS, evT_nm, bind_okS]
  rfl
theorem rule_s2a (W : Int × List Rat) (hw : okR (w : Int) = true) (hw2 : w ≤ 1000000) (x : Int → Rat) (hx : ∀ p, val W p = x p) :
    evE cv (Phi (n + 2)) (.comp [7] (.nm 7) (.rng1 (.var 1)) [] (.call i_at_place [.var 3, .var 7])) [r0, some (.int w), r2, some (rd W), some (.int k), r5, r6, r7] S
      = .ok (.lst (((List.range w).map fun p => x (p : Nat)).map qd)) S := by
  rw [ev_comp, List.map_map]
  refine comp_map (src := []) (fun p : Nat => .int (p : Int)) (fun p : Nat => qd (x p)) ?_ ?_ rfl fun p hp => ?_
  · exact evI_rng1_of (j := w) (by simp [getR]) hw
  · rw [List.length_range]; exact hw2
  · have ha := callR_pure (run_at n W p S) (qd_nl _)
    rw [hx] at ha
    simp [getR, ha]
end
end K77
namespace K77
open PySem Pz
/-! ### the loop of rule_of -/
theorem nf_start : Nf ((-1, [-1, 2, -1]) : Int × List Rat) := by
  refine ⟨fun h => ?_, fun q hq => ?_, fun q hq => ?_⟩
  · cases h
  · have : (-1 : Rat) = q := Option.some.inj hq
    subst this; decide
  · have : (-1 : Rat) = q := Option.some.inj hq
    subst this; decide
def rbody : List ISt := [
    .asg (.nm 5) (.comp [7] (.nm 7) (.rng1 (.bin .add (.var 1) (.int 1))) [] (.ite (.eq false (.var 7) (.var 4)) (.cst c_ONE) (.cst c_ZERO))),
    .asg (.nm 6) (.call i_cleared [.cat (.comp [7] (.nm 7) (.rng1 (.var 1)) [] (.call i_at_place [.var 3, .var 7])) (.var 5), .var 2]),
    .asg (.nm 7) (.call i_lead_of [.var 6, .var 1]),
    .iff (.is_ false (.var 7) (.non)) [
      .ret (.blt .tuple [.sl (.var 6) (.var 1) (.bin .add (.bin .add (.var 1) (.var 4)) (.int 1))])] [],
    .ex (.mth .append (.var 2) [.tup [.var 7, .call i_scaled_to_one [.var 6, .var 7]]]),
    .asg (.tup [.nm 3, .nm 4]) (.tup [.call i_led_over [.var 0, .var 3], .bin .add (.var 4) (.int 1)])]
def told (x : Nat → Int → Rat) (w K : Nat) : List Rat := ((lf x w K).drop w).take (K + 1)
/-- what rule_of's text leans on: a mask that leads x k to x (k + 1), bounds -/
structure RuleOk (n : Nat) (M : Int × List Rat) (x : Nat → Int → Rat) (w K T : Nat) (N D : Nat → Nat) (S : Store) : Prop where
  wM : M.2.length = w
  kw : K ≤ w
  w1 : okR ((w + 1 : Nat) : Int) = true
  w0 : okR (w : Int) = true
  w5 : w < 400
  x0 : ∀ p, val (-1, [-1, 2, -1]) p = x 0 p
  led : ∀ k < K, ∀ (W : Int × List Rat), Nf W → (∀ p, val W p = x k p) → ∃ T, Phi (n + 6) i_led_over [rd M, rd W] S = .ok (rd T) S ∧ Nf T ∧ ∀ p, val T p = x (k + 1) p
  live : Live x w K
  dead : lead (lf x w K) 0 w = none
  hT : Sz 4000 (T : Nat)
  bnd : ∀ k ≤ K, FrA (N k) (D k) (vt x w k)
  posD : ∀ k, 0 < D k
  posN : ∀ k, 0 < N k
  top : Bb N D K ≤ T
section
variable {n : Nat} {M : Int × List Rat} {x : Nat → Int → Rat} {w K T : Nat} {N D : Nat → Nat} {S : Store}
theorem rule_clear (h : ∀ S', RuleOk n M x w K T N D S') {k : Nat} (hk : k ≤ K) (S' : Store) (d : Dt) (hd : IsL S' d ((bas x w k).map encB)) :
    Phi (n + 6) i_cleared [.lst ((vt x w k).map qd), d] S' = .ok (.lst ((lf x w k).map qd)) S' ∧ AllSm (lf x w k) := by
  have H := h S'
  obtain ⟨us, h1, h2, h3, h4⟩ := bas_bds (N := N) (D := D) k (fun j hj => H.live j (by omega)) fun j hj => ⟨H.bnd j (by omega), H.posD j⟩
  have hB := Bb_le (N := N) H.posD hk
  have hP := Pb_pos (N := N) H.posD k
  have b1 : N k * prodU us ≤ Bb N D k := Nat.mul_le_mul (Nat.le_max_left ..) h2
  have b2 : D k * prodV us ≤ Bb N D k := Nat.mul_le_mul (Nat.le_max_right ..) h3
  have b3 : Pb N D k ≤ Bb N D k := Nat.le_mul_of_pos_left _ (Nat.lt_of_lt_of_le (H.posD k) (Nat.le_max_right ..))
  have top := H.top
  have w5 := H.w5
  refine ⟨run_cleared (n + 2) (T := T) (L := w + (w + 1)) (N := N k) (D := D k) d (bas x w k) us (vt x w k) S' H.hT (by omega) hd h1 (H.bnd k hk) (H.posD k) (vt_len k) (fun b hb => ?_) (H.posN k) (by omega) (by omega) fun u hu => by have := h4 u hu; omega, fun q hq => ?_⟩
  · obtain ⟨j, hj, rfl⟩ := bas_mem hb
    refine ⟨(lens j).2, ?_⟩
    have := (live_pv (H.live j (by omega))).1
    dsimp only
    omega
  · have hfr := clr_fr h1 (H.bnd k hk) (H.posD k)
    have le : ∀ {m : Nat}, m ≤ T → Sz 4000 (m : Nat) := fun {m} hm => H.hT.of_le (by rw [Int.natAbs_natCast, Int.natAbs_natCast]; exact hm)
    exact (hfr q hq).sm (Nat.mul_pos (H.posD k) (prodV_pos h1)) (le (by omega)) (le (by omega))
theorem rule_loop (h : ∀ S', RuleOk n M x w K T N D S') : ∀ (d k fuel : Nat), k + d = K → d < fuel → ∀ (W : Int × List Rat) (r5 r6 r7 : Option Dt), Nf W → (∀ p, val W p = x k p) →
    ∃ S', whileF (evE cv (Phi (n + 6)) (.bl true)) (evB cv (Phi (n + 6)) rbody) fuel [some (rd M), some (.int w), some (.loc S.length), some (rd W), some (.int k), r5, r6, r7] (S ++ [(bas x w k).map encB]) = .ok (.rt (.tup ((told x w K).map qd))) (S ++ S') := by
  intro d
  induction d with
  | zero =>
    intro k fuel hk hf W r5 r6 r7 nW hW
    obtain ⟨f, rfl⟩ : ∃ f, fuel = f + 1 := ⟨fuel - 1, by omega⟩
    obtain rfl : k = K := by omega
    have H := h []
    have w5 := H.w5
    have kw := H.kw
    refine ⟨[(bas x w k).map encB], ?_⟩
    obtain ⟨S1, hS1⟩ : ∃ S1, S1 = S ++ [(bas x w k).map encB] := ⟨_, rfl⟩
    rw [← hS1]
    have hd : IsL S1 (.loc S.length) ((bas x w k).map encB) := isL_loc (by rw [hS1]; exact get_append)
    have s1 := rule_s1 (n + 6) (some (rd M)) (some (.loc S.length)) (some (rd W)) r5 r6 r7 S1 w k H.w1 (by omega)
    have s2a := rule_s2a (n + 4) (some (rd M)) (some (.loc S.length)) (some (.lst (((List.range (w + 1)).map fun p => if p = k then (1 : Rat) else 0).map qd))) r6 r7 S1 w k W H.w0 (by omega) (x k) hW
    have hcl := (rule_clear h (Nat.le_refl _) S1 _ hd).1
    have c2 := callR_pure hcl (lst_nl _)
    have hvt : (List.map qd (List.map (fun p => x k (p : Nat)) (List.range w)) ++ List.map qd (List.map (fun p => if p = k then (1 : Rat) else 0) (List.range (w + 1)))) = (vt x w k).map qd := by rw [← List.map_append]; rfl
    have hle := run_lead (n + 5) (lf x w k) w S1 (by rw [(lens k).1]; omega) H.w0
    rw [H.dead] at hle
    have c3 := callR_pure hle rfl
    have hcat := catK_lst (S := S1) (a := List.map qd (List.map (fun p => x k (p : Nat)) (List.range w))) (b := List.map qd (List.map (fun p => if p = k then (1 : Rat) else 0) (List.range (w + 1)))) (by simp; omega)
    rw [hvt] at hcat
    have e2 : evS cv (Phi (n + 6)) (.asg (.nm 6) (.call i_cleared [.cat (.comp [7] (.nm 7) (.rng1 (.var 1)) [] (.call i_at_place [.var 3, .var 7])) (.var 5), .var 2])) [some (rd M), some (.int w), some (.loc S.length), some (rd W), some (.int k), some (.lst (((List.range (w + 1)).map fun p => if p = k then (1 : Rat) else 0).map qd)), r6, r7] S1
        = .ok (.nx [some (rd M), some (.int w), some (.loc S.length), some (rd W), some (.int k), some (.lst (((List.range (w + 1)).map fun p => if p = k then (1 : Rat) else 0).map qd)), some (.lst ((lf x w k).map qd)), r7]) S1 := by
      rw [evS_asg, ev_call, evL_cons, ev_cat, s2a, bind_okS, ev_var, show getR _ 5 S1 = .ok (.lst (((List.range (w + 1)).map fun p => if p = k then (1 : Rat) else 0).map qd)) S1 from rfl, bind_okS, hcat, bind_okS, evL_cons, ev_var, show getR _ 2 S1 = .ok (.loc S.length) S1 from rfl, bind_okS, evL_nil, bind_okS, bind_okS, bind_okS, c2, bind_okS, evT_nm, bind_okS]
      rfl
    unfold whileF rbody
    rw [ev_bl, toB_bl, bind_okS, if_pos rfl, evB_cons, s1, bind_okS, thenB_nx, evB_cons, e2, bind_okS, thenB_nx]
    have hcut : slK (.lst ((lf x w k).map qd)) (some (w : Int)) (some ((w : Int) + (k : Int) + 1)) S1 = .ok (.lst ((told x w k).map qd)) S1 := by
      rw [(isL_lst S1 _).sl, show (w : Int) + (k : Int) + 1 = ((w + k + 1 : Nat) : Int) by omega, cutD_nat (by omega) (by rw [List.length_map, (lens k).1]; omega)]
      unfold told
      rw [List.map_take, List.map_drop, show w + k + 1 - w = k + 1 by omega]
    simp [getR, c3, leadD, isD, Dt.isNon, IEx.isAbs, partK, hcut]
  | succ d ih =>
    intro k fuel hk hf W r5 r6 r7 nW hW
    obtain ⟨f, rfl⟩ : ∃ f, fuel = f + 1 := ⟨fuel - 1, by omega⟩
    have H := h []
    have w5 := H.w5
    have kw := H.kw
    obtain ⟨S1, hS1⟩ : ∃ S1, S1 = S ++ [(bas x w k).map encB] := ⟨_, rfl⟩
    obtain ⟨S2, hS2⟩ : ∃ S2, S2 = S ++ [(bas x w (k + 1)).map encB] := ⟨_, rfl⟩
    rw [← hS1]
    have hd : IsL S1 (.loc S.length) ((bas x w k).map encB) := isL_loc (by rw [hS1]; exact get_append)
    have s1 := rule_s1 (n + 6) (some (rd M)) (some (.loc S.length)) (some (rd W)) r5 r6 r7 S1 w k H.w1 (by omega)
    have s2a := rule_s2a (n + 4) (some (rd M)) (some (.loc S.length)) (some (.lst (((List.range (w + 1)).map fun p => if p = k then (1 : Rat) else 0).map qd))) r6 r7 S1 w k W H.w0 (by omega) (x k) hW
    obtain ⟨hcl, hsm⟩ := rule_clear h (show k ≤ K by omega) S1 _ hd
    have c2 := callR_pure hcl (lst_nl _)
    have hvt : (List.map qd (List.map (fun p => x k (p : Nat)) (List.range w)) ++ List.map qd (List.map (fun p => if p = k then (1 : Rat) else 0) (List.range (w + 1)))) = (vt x w k).map qd := by rw [← List.map_append]; rfl
    obtain ⟨hp1, hp2, hp3, _⟩ := live_pv (H.live k (by omega))
    have hle := run_lead (n + 5) (lf x w k) w S1 (by rw [(lens k).1]; omega) H.w0
    rw [hp3] at hle
    have c3 := callR_pure hle rfl
    have hcat := catK_lst (S := S1) (a := List.map qd (List.map (fun p => x k (p : Nat)) (List.range w))) (b := List.map qd (List.map (fun p => if p = k then (1 : Rat) else 0) (List.range (w + 1)))) (by simp; omega)
    rw [hvt] at hcat
    have e2 : evS cv (Phi (n + 6)) (.asg (.nm 6) (.call i_cleared [.cat (.comp [7] (.nm 7) (.rng1 (.var 1)) [] (.call i_at_place [.var 3, .var 7])) (.var 5), .var 2])) [some (rd M), some (.int w), some (.loc S.length), some (rd W), some (.int k), some (.lst (((List.range (w + 1)).map fun p => if p = k then (1 : Rat) else 0).map qd)), r6, r7] S1
        = .ok (.nx [some (rd M), some (.int w), some (.loc S.length), some (rd W), some (.int k), some (.lst (((List.range (w + 1)).map fun p => if p = k then (1 : Rat) else 0).map qd)), some (.lst ((lf x w k).map qd)), r7]) S1 := by
      rw [evS_asg, ev_call, evL_cons, ev_cat, s2a, bind_okS, ev_var, show getR _ 5 S1 = .ok (.lst (((List.range (w + 1)).map fun p => if p = k then (1 : Rat) else 0).map qd)) S1 from rfl, bind_okS, hcat, bind_okS, evL_cons, ev_var, show getR _ 2 S1 = .ok (.loc S.length) S1 from rfl, bind_okS, evL_nil, bind_okS, bind_okS, bind_okS, c2, bind_okS, evT_nm, bind_okS]
      rfl
    -- the next basis row
    have hone := run_one (n + 2) (lf x w k) (pv x w k) S1 hsm hp2 (by rw [(lens k).1]; omega)
    have c5 := callR_pure hone (lst_nl _)
    have happ : mthD S1 .append (.loc S.length) [.tup [.int (pv x w k), .lst ((ob x w k).map qd)]] = .ok .non S2 := by
      have ha := app_loc (S := S) (xs := (bas x w k).map encB) (d := encB (pv x w k, ob x w k)) (okLen_of (by rw [List.length_map, bas_len]; omega)) (encB_nl _)
      rw [hS1, hS2, bas_succ, List.map_append]
      exact ha
    obtain ⟨W', g1, g2, g3⟩ := (h S2).led k (by omega) W nW hW
    have c6 := callR_pure g1 (rd_nl _)
    obtain ⟨S', e⟩ := ih (k + 1) f (by omega) (by omega) W' (some (.lst (((List.range (w + 1)).map fun p => if p = k then (1 : Rat) else 0).map qd))) (some (.lst ((lf x w k).map qd))) (some (.int (pv x w k))) g2 g3
    rw [← hS2] at e
    refine ⟨S', ?_⟩
    rw [← e]
    conv => lhs; unfold whileF
    conv => lhs; unfold rbody
    rw [ev_bl, toB_bl, bind_okS, if_pos rfl, evB_cons, s1, bind_okS, thenB_nx, evB_cons, e2, bind_okS, thenB_nx]
    have ek : ((k : Int) + 1) = ((k + 1 : Nat) : Int) := rfl
    have c5' : callR (Phi (n + 6)) i_scaled_to_one [.lst ((lf x w k).map qd), .int (pv x w k)] S1 = .ok (.lst ((ob x w k).map qd)) S1 := c5
    simp only [evB_cons, evS_asg, ev_call, evL_cons, evL_nil, ev_var, getR, List.getElem?_cons_succ, List.getElem?_cons_zero, bind_okS, c3, leadD, evT_nm, List.set_cons_succ, List.set_cons_zero, thenB_nx, evS_iff, ev_is, ev_non, isD, Dt.isNon, toB_bl, bne_self_eq_false, Bool.false_eq_true, if_false, evB_nil, evS_ex, ev_mth, ev_tup, c5', tupK2, happ, c6, ev_bin, ev_int, bin_add, ek, evT_tup, evTs_cons, evTs_nil]
    rfl
theorem run_rule (h : ∀ S', RuleOk n M x w K T N D S') : ∃ S', Phi (n + 7) i_rule_of [rd M] S = .ok (.tup ((told x w K).map qd)) (S ++ S') := by
  have H := h S
  rw [phiR (n + 6) rfl (f := f_rule_of) rfl _ S rfl]
  have nst : Nf ((-1, [-1, 2, -1]) : Int × List Rat) := nf_start
  obtain ⟨S', e⟩ := rule_loop (S := S) h K 0 bigFuel (by omega) (by have := H.w5; have := H.kw; unfold bigFuel; omega) (-1, [-1, 2, -1]) none none none nst H.x0
  refine ⟨S', ?_⟩
  have hr0 : (List.map some [rd M] ++ List.replicate (f_rule_of.sz - f_rule_of.ar) none) = [some (rd M), none, none, none, none, none, none, none] := rfl
  rw [hr0]
  have hst : cv c_START = rd (-1, [-1, 2, -1]) := rfl
  have hth : thawK (.lst []) S = .ok (.loc S.length) (S ++ [[]]) := rfl
  have e' : whileF (evE cv (Phi (n + 6)) (.bl true)) (evB cv (Phi (n + 6)) rbody) bigFuel [some (rd M), some (.int w), some (.loc S.length), some (rd (-1, [-1, 2, -1])), some (.int 0), none, none, none] (S ++ [[]]) = .ok (.rt (.tup ((told x w K).map qd))) (S ++ S') := e
  unfold f_rule_of
  rw [evB_cons, evS_asg, ev_tup]
  simp only [evL_cons, ev_blt, ev_ix, ev_var, getR, List.getElem?_cons_zero, ev_int, bind_okS, ixD_rd1, evL_nil, blt_len_tup, List.length_map, H.wM, ev_thaw, ev_lst, lstK0, hth, ev_cst, hst, tupK4, evT_tup, evTs_cons, evTs_nil, evT_nm, List.set_cons_succ, List.set_cons_zero, thenB_nx, evB_cons, evS_whil, e', evB_nil]
  show (((whileF (evE cv (Phi (n + 6)) (.bl true)) (evB cv (Phi (n + 6)) rbody) bigFuel _ _).bind _).bind _) = _
  rw [e']
  rfl
end
end K77
namespace K77
open PySem Pz
/-! ### the rows that a mask leads one after another -/
def qv (m : Int → Rat) (k : Int) : Rat := sm 7 fun i => m i * m ((i : Int) - k)
def stepx (m : Int → Rat) (y : Int → Rat) (p : Int) : Rat := sm 13 (fun t => qv m (2 * p + 6 - (t : Int)) * y ((t : Int) - 6)) * Rat.divInt 1 2
def start (p : Int) : Int := if p = 0 then 2 else if p = 1 ∨ p = -1 then -1 else 0
def itx (m : Int → Rat) : Nat → Int → Rat
  | 0 => fun p => (start p : Rat)
  | k + 1 => stepx m (itx m k)
/-- m is nought outside 0 .. w - 1 -/
def Mk (m : Int → Rat) (w : Nat) : Prop := ∀ k, m k ≠ 0 → 0 ≤ k ∧ k < w
theorem start_val (p : Int) : val (-1, [-1, 2, -1]) p = (start p : Rat) := by
  unfold start
  by_cases h0 : p = 0
  · subst h0; rfl
  · by_cases h1 : p = 1
    · subst h1; rfl
    · by_cases h2 : p = -1
      · subst h2; rfl
      · rw [if_neg h0, if_neg (by omega), val_out (by simp; omega)]; rfl
theorem sm_ne0 {n : Nat} {f : Nat → Rat} (h : sm n f ≠ 0) : ∃ j < n, f j ≠ 0 := sm_ne h
theorem mul_ne {a b : Rat} (h : a * b ≠ 0) : a ≠ 0 ∧ b ≠ 0 := ⟨fun e => h (by rw [e, Rat.zero_mul]), fun e => h (by rw [e, Rat.mul_zero])⟩
theorem qv_in {m : Int → Rat} {w : Nat} (hm : Mk m w) {k : Int} (h : qv m k ≠ 0) : -(w : Int) < k ∧ k < w := by
  obtain ⟨j, hj, e⟩ := sm_ne h
  obtain ⟨e1, e2⟩ := mul_ne e
  have := hm _ e1
  have := hm _ e2
  omega
def hw (w : Nat) : Nat := max 1 (w - 2)
theorem itx_in {m : Int → Rat} {w : Nat} (hm : Mk m w) (hw2 : 2 ≤ w) : ∀ (k : Nat) (p : Int), itx m k p ≠ 0 → -(hw w : Int) ≤ p ∧ p ≤ hw w
  | 0, p, h => by
    have h : ((start p : Int) : Rat) ≠ 0 := h
    unfold hw
    refine Decidable.byContradiction fun z => h ?_
    unfold start
    rw [if_neg (by omega), if_neg (by omega)]; rfl
  | k + 1, p, h => by
    have h : stepx m (itx m k) p ≠ 0 := h
    obtain ⟨t, ht, e⟩ := sm_ne (mul_ne h).1
    obtain ⟨e1, e2⟩ := mul_ne e
    have a1 := qv_in hm e1
    have a2 := itx_in hm hw2 k _ e2
    unfold hw at *
    omega
theorem qv_sym {m : Int → Rat} {w : Nat} (hm : Mk m w) (h7 : w ≤ 7) (k : Int) : qv m (-k) = qv m k := by
  -- over i from -30 on
  have key : ∀ j : Int, -20 ≤ j → j ≤ 20 → qv m j = sm 81 fun i => m ((i : Int) - 40) * m ((i : Int) - 40 - j) := fun j h1 h2 => by
    rw [sm_win (a := 40) (b := 7) (n := 81) (by omega) (fun i hi => by
      have : m ((i : Int) - 40) = 0 := Classical.byContradiction fun z => by have := hm _ z; omega
      rw [this, Rat.zero_mul]) (fun i h1 h2 => by
      have : m ((i : Int) - 40) = 0 := Classical.byContradiction fun z => by have := hm _ z; omega
      rw [this, Rat.zero_mul])]
    exact sm_congr fun i hi => by rw [show (((40 + i : Nat) : Int) - 40) = (i : Int) by omega]
  by_cases hk : -7 < k ∧ k < 7
  · -- shift by k
    have main : ∀ c : Nat, c < 7 → qv m (-(c : Int)) = qv m (c : Int) := fun c hc => by
      rw [key _ (by omega) (by omega), key _ (by omega) (by omega)]
      rw [sm_win (a := 20) (b := 40) (n := 81) (by omega) (fun i hi => by
        have : m ((i : Int) - 40) = 0 := Classical.byContradiction fun z => by have := hm _ z; omega
        rw [this, Rat.zero_mul]) (fun i h1 h2 => by
        have : m ((i : Int) - 40) = 0 := Classical.byContradiction fun z => by have := hm _ z; omega
        rw [this, Rat.zero_mul])]
      rw [sm_win (f := fun i => m ((i : Int) - 40) * m ((i : Int) - 40 - (c : Int))) (a := 20 + c) (b := 40) (n := 81) (by omega) (fun i hi => by
        have : m ((i : Int) - 40 - (c : Int)) = 0 := Classical.byContradiction fun z => by have := hm _ z; omega
        rw [this, Rat.mul_zero]) (fun i h1 h2 => by
        have : m ((i : Int) - 40) = 0 := Classical.byContradiction fun z => by have := hm _ z; omega
        rw [this, Rat.zero_mul])]
      refine sm_congr fun i hi => ?_
      rw [Rat.mul_comm, show ((20 + i : Nat) : Int) - 40 - -(c : Int) = ((20 + c + i : Nat) : Int) - 40 by omega, show ((20 + c + i : Nat) : Int) - 40 - (c : Int) = ((20 + i : Nat) : Int) - 40 by omega]
    by_cases hp : 0 ≤ k
    · have := main k.toNat (by omega)
      rwa [show ((k.toNat : Nat) : Int) = k by omega] at this
    · have := main (-k).toNat (by omega)
      rw [show (((-k).toNat : Nat) : Int) = -k by omega, Int.neg_neg] at this
      exact this.symm
  · have z : ∀ j : Int, ¬ (-7 < j ∧ j < 7) → qv m j = 0 := fun j hj => Classical.byContradiction fun q => by have := qv_in hm q; omega
    rw [z _ hk, z _ (by omega)]
theorem itx_sym {m : Int → Rat} {w : Nat} (hm : Mk m w) (h7 : w ≤ 7) : ∀ (k : Nat) (p : Int), itx m k (-p) = itx m k p
  | 0, p => by
    show ((start (-p) : Int) : Rat) = (start p : Int)
    congr 1
    unfold start
    split <;> split <;> (try split) <;> (try split) <;> omega
  | k + 1, p => by
    show stepx m (itx m k) (-p) = stepx m (itx m k) p
    unfold stepx
    congr 1
    rw [sm_rev]
    refine sm_congr fun t ht => ?_
    rw [show (2 * -p + 6 - ((13 - 1 - t : Nat) : Int)) = -(2 * p + 6 - (t : Int)) by omega, qv_sym hm h7, show (((13 - 1 - t : Nat) : Int) - 6) = -((t : Int) - 6) by omega, itx_sym hm h7 k]
/-! ### in whole numbers -/
def sI (n : Nat) (f : Nat → Int) : Int := match n with
  | 0 => 0
  | n + 1 => sI n f + f n
def sN (n : Nat) (f : Nat → Nat) : Nat := match n with
  | 0 => 0
  | n + 1 => sN n f + f n
theorem sI_abs (f : Nat → Int) : ∀ n, (sI n f).natAbs ≤ sN n fun j => (f j).natAbs
  | 0 => Nat.le_refl _
  | n + 1 => Nat.le_trans (Int.natAbs_add_le _ _) (Nat.add_le_add_right (sI_abs f n) _)
theorem sN_le {f g : Nat → Nat} : ∀ {n : Nat}, (∀ j < n, f j ≤ g j) → sN n f ≤ sN n g
  | 0, _ => Nat.le_refl _
  | n + 1, h => Nat.add_le_add (sN_le fun j hj => h j (by omega)) (h n (by omega))
theorem sN_mul {f : Nat → Nat} {c : Nat} : ∀ {n : Nat}, sN n (fun j => f j * c) = sN n f * c
  | 0 => (Nat.zero_mul c).symm
  | n + 1 => by show sN n _ + f n * c = (sN n f + f n) * c; rw [sN_mul, Nat.add_mul]
theorem sN_add {f g : Nat → Nat} : ∀ {n : Nat}, sN n (fun j => f j + g j) = sN n f + sN n g
  | 0 => rfl
  | n + 1 => by show sN n _ + (f n + g n) = (sN n f + f n) + (sN n g + g n); rw [sN_add]; omega
theorem sN_zero : ∀ {n : Nat}, sN n (fun _ => 0) = 0
  | 0 => rfl
  | n + 1 => by show sN n (fun _ => 0) + 0 = 0; rw [sN_zero]
theorem sN_swap {f : Nat → Nat → Nat} : ∀ {m n : Nat}, sN m (fun i => sN n fun j => f i j) = sN n fun j => sN m fun i => f i j
  | 0, n => sN_zero.symm
  | m + 1, n => by
    show sN m (fun i => sN n fun j => f i j) + sN n (f m) = sN n fun j => sN m (fun i => f i j) + f m j
    rw [sN_swap, ← sN_add]
theorem sN_mem {f : Nat → Nat} : ∀ {n j : Nat}, j < n → f j ≤ sN n f
  | n + 1, j, h => by
    show f j ≤ sN n f + f n
    by_cases e : j = n
    · subst e; omega
    · have := sN_mem (f := f) (show j < n by omega); omega
theorem sN_mem2 {f : Nat → Nat} : ∀ {n i j : Nat}, i < j → j < n → f i + f j ≤ sN n f
  | n + 1, i, j, h1, h2 => by
    show f i + f j ≤ sN n f + f n
    by_cases e : j = n
    · subst e; have := sN_mem (f := f) h1; omega
    · have := sN_mem2 (f := f) h1 (show j < n by omega); omega
def aq (A : Int → Int) (k : Int) : Int := sI 7 fun i => A i * A ((i : Int) - k)
def Xi (A : Int → Int) : Nat → Int → Int
  | 0 => start
  | k + 1 => fun p => sI 13 fun t => aq A (2 * p + 6 - (t : Int)) * Xi A k ((t : Int) - 6)
theorem sm_int {f : Nat → Int} : ∀ n, sm n (fun j => (f j : Rat)) = (sI n f : Rat)
  | 0 => rfl
  | n + 1 => by show sm n _ + (f n : Rat) = ((sI n f + f n : Int) : Rat); rw [sm_int n, Rat.intCast_add]
theorem itx_int {m : Int → Rat} {A : Int → Int} {E : Nat} (hE : 0 < E) (hA : ∀ i, m i = Rat.divInt (A i) E) : ∀ k p, itx m k p = Rat.divInt (Xi A k p) ((2 * (E * E)) ^ k : Nat)
  | 0, p => by
    show ((start p : Int) : Rat) = Rat.divInt (start p) ((1 : Nat) : Int)
    rw [Rat.divInt_ofNat]
    exact (Rat.mkRat_one _).symm
  | k + 1, p => by
    have hE' : (E : Int) ≠ 0 := by omega
    have dq : ∀ j, qv m j = Rat.divInt (aq A j) ((E * E : Nat) : Int) := fun j => by
      unfold qv aq
      rw [Rat.divInt_eq_div, ← sm_int, Rat.div_def, ← sm_mul]
      refine sm_congr fun i _ => ?_
      rw [hA, hA, Rat.divInt_mul_divInt, Rat.divInt_eq_div, Rat.div_def, Int.natCast_mul]
    show stepx m (itx m k) p = _
    unfold stepx
    show _ = Rat.divInt (sI 13 fun t => aq A (2 * p + 6 - (t : Int)) * Xi A k ((t : Int) - 6)) _
    have e : ∀ t : Nat, qv m (2 * p + 6 - (t : Int)) * itx m k ((t : Int) - 6) = ((aq A (2 * p + 6 - (t : Int)) * Xi A k ((t : Int) - 6) : Int) : Rat) * (((E * E * (2 * (E * E)) ^ k : Nat) : Int) : Rat)⁻¹ := fun t => by
      rw [dq, itx_int hE hA k, Rat.divInt_mul_divInt, Rat.divInt_eq_div, Rat.div_def]
      congr 2
    rw [sm_congr fun t _ => e t, sm_mul, sm_int, ← Rat.div_def, ← Rat.divInt_eq_div, Rat.divInt_mul_divInt, Int.mul_one]
    congr 1
    rw [show (2 : Int) = ((2 : Nat) : Int) from rfl, ← Int.natCast_mul]
    congr 1
    rw [Nat.pow_succ, Nat.mul_comm (E * E), Nat.mul_assoc, Nat.mul_comm (E * E) 2]
end K77
namespace K77
open PySem Pz
/-! ### how big the numbers are -/
def cnt (s t : Nat) : Nat := sN 7 fun i => if 0 ≤ (i : Int) - (2 * (s : Int) - 6 - (t : Int)) ∧ (i : Int) - (2 * (s : Int) - 6 - (t : Int)) < 7 then 1 else 0
theorem cnt_col : ∀ t < 13, sN 13 (fun s => cnt s t) ≤ 25 := by decide
theorem cnt_le : ∀ s < 13, ∀ t < 13, cnt s t ≤ 7 := by decide
section
variable {A : Int → Int} {B : Nat}
/-- whole numbers from place 0 to 6, none greater than B -/
structure Wk (A : Int → Int) (B : Nat) : Prop where
  out : ∀ i, ¬ (0 ≤ i ∧ i < 7) → A i = 0
  le : ∀ i, (A i).natAbs ≤ B
theorem aq_le (h : Wk A B) (s t : Nat) : (aq A (2 * (s : Int) - 6 - (t : Int))).natAbs ≤ cnt s t * (B * B) := by
  unfold aq cnt
  refine Nat.le_trans (sI_abs _ _) ?_
  rw [← sN_mul]
  refine sN_le fun i hi => ?_
  rw [Int.natAbs_mul]
  split
  · rw [Nat.one_mul]; exact Nat.mul_le_mul (h.le _) (h.le _)
  · rename_i hn; rw [h.out _ hn]; simp
def S1 (A : Int → Int) (k : Nat) : Nat := sN 13 fun t => (Xi A k ((t : Int) - 6)).natAbs
theorem xi_step (k s : Nat) : (Xi A (k + 1) ((s : Int) - 6)).natAbs ≤ sN 13 fun t => (aq A (2 * (s : Int) - 6 - (t : Int))).natAbs * (Xi A k ((t : Int) - 6)).natAbs := by
  show (sI 13 fun t => aq A (2 * ((s : Int) - 6) + 6 - (t : Int)) * Xi A k ((t : Int) - 6)).natAbs ≤ _
  refine Nat.le_trans (sI_abs _ _) (sN_le fun t ht => ?_)
  rw [Int.natAbs_mul, show 2 * ((s : Int) - 6) + 6 - (t : Int) = 2 * (s : Int) - 6 - (t : Int) by omega]
  exact Nat.le_refl _
theorem s1_step (h : Wk A B) (k : Nat) : S1 A (k + 1) ≤ 25 * (B * B) * S1 A k := by
  unfold S1
  refine Nat.le_trans (sN_le fun s _ => xi_step (A := A) k s) ?_
  rw [sN_swap, Nat.mul_comm _ (sN 13 _), ← sN_mul]
  refine sN_le fun t ht => ?_
  rw [sN_mul, Nat.mul_comm]
  refine Nat.mul_le_mul_left _ ?_
  refine Nat.le_trans (sN_le fun s _ => aq_le h s t) ?_
  rw [sN_mul]
  exact Nat.mul_le_mul_right _ (cnt_col t ht)
theorem s1_le (h : Wk A B) : ∀ k, S1 A k ≤ 4 * (25 * (B * B)) ^ k
  | 0 => by show S1 A 0 ≤ 4 * 1; exact (by decide : (sN 13 fun t => (start ((t : Int) - 6)).natAbs) ≤ 4)
  | k + 1 => by
    refine Nat.le_trans (s1_step h k) ?_
    rw [Nat.pow_succ]
    refine Nat.le_trans (Nat.mul_le_mul_left _ (s1_le h k)) ?_
    rw [Nat.mul_comm, Nat.mul_assoc]
    exact Nat.le_refl _
theorem xi0_le (h : Wk A B) : ∀ k, (Xi A k 0).natAbs ≤ 2 * (25 * (B * B)) ^ k
  | 0 => by show (start 0).natAbs ≤ 2 * 1; decide
  | k + 1 => by
    have e := xi_step (A := A) k 6
    rw [show ((6 : Nat) : Int) - 6 = 0 from rfl] at e
    refine Nat.le_trans e ?_
    have : (sN 13 fun t => (aq A (2 * ((6 : Nat) : Int) - 6 - (t : Int))).natAbs * (Xi A k ((t : Int) - 6)).natAbs) ≤ sN 13 fun t => (Xi A k ((t : Int) - 6)).natAbs * (7 * (B * B)) := sN_le fun t ht => by
      rw [Nat.mul_comm]
      refine Nat.mul_le_mul_left _ (Nat.le_trans (aq_le h 6 t) (Nat.mul_le_mul_right _ (cnt_le 6 (by omega) t ht)))
    refine Nat.le_trans this ?_
    rw [sN_mul]
    have s := s1_le h k
    unfold S1 at s
    refine Nat.le_trans (Nat.mul_le_mul_right _ s) ?_
    rw [Nat.pow_succ]
    generalize (25 * (B * B)) ^ k = c
    generalize B * B = b
    have e1 : 4 * c * (7 * b) = 28 * (c * b) := by rw [Nat.mul_assoc, Nat.mul_left_comm c 7 b, ← Nat.mul_assoc]
    have e2 : 2 * (c * (25 * b)) = 50 * (c * b) := by rw [Nat.mul_left_comm c 25 b, ← Nat.mul_assoc]
    rw [e1, e2]
    omega
end
/-- a mask's numbers: denominators E, whole numbers A above them -/
structure Mok (m : Int → Rat) (A : Int → Int) (E B w : Nat) : Prop where
  wk : Wk A B
  hA : ∀ i, m i = Rat.divInt (A i) E
  hE : 0 < E
  supp : Mk m w
  w2 : 2 ≤ w
  w7 : w ≤ 7
  eb : 2 * (E * E) ≤ 25 * (B * B)
section
variable {m : Int → Rat} {A : Int → Int} {E B w : Nat}
theorem Mok.bpos (h : Mok m A E B w) : 0 < 25 * (B * B) := Nat.lt_of_lt_of_le (Nat.mul_pos (by omega) (Nat.mul_pos h.hE h.hE)) h.eb
theorem xi_zero (h : Mok m A E B w) (k : Nat) (p : Int) : itx m k p = 0 → Xi A k p = 0 := fun e => by
  rw [itx_int h.hE h.hA, Rat.divInt_ofNat, Rat.mkRat_eq_zero (by have := Nat.pow_pos (n := k) (Nat.mul_pos (show 0 < 2 by omega) (Nat.mul_pos h.hE h.hE)); omega)] at e
  exact e
theorem xi_sym (h : Mok m A E B w) (k : Nat) (p : Int) : (Xi A k (-p)) = (Xi A k p) := by
  have e := itx_sym h.supp h.w7 k p
  have hp := Nat.pow_pos (n := k) (Nat.mul_pos (show 0 < 2 by omega) (Nat.mul_pos h.hE h.hE))
  rw [itx_int h.hE h.hA, itx_int h.hE h.hA, Rat.divInt_eq_divInt_iff (by omega) (by omega)] at e
  exact Int.eq_of_mul_eq_mul_right (by omega) e
theorem xi_le (h : Mok m A E B w) (k : Nat) (p : Int) : (Xi A k p).natAbs ≤ 2 * (25 * (B * B)) ^ k := by
  by_cases hz : itx m k p = 0
  · rw [xi_zero h k p hz]; exact Nat.zero_le _
  · have hin := itx_in h.supp h.w2 k p hz
    unfold hw at hin
    have hw7 := h.w7
    have hs := s1_le h.wk k
    unfold S1 at hs
    have two : ∀ q : Int, 0 < q → q < 7 → (Xi A k q).natAbs ≤ 2 * (25 * (B * B)) ^ k := fun q h1 h2 => by
      have e := sN_mem2 (f := fun t => (Xi A k ((t : Int) - 6)).natAbs) (n := 13) (i := (6 - q).toNat) (j := (6 + q).toNat) (by omega) (by omega)
      rw [show (((6 - q).toNat : Nat) : Int) - 6 = -q by omega, show (((6 + q).toNat : Nat) : Int) - 6 = q by omega, xi_sym h] at e
      omega
    by_cases h0 : p = 0
    · subst h0; exact xi0_le h.wk k
    · by_cases hp : 0 < p
      · exact two p hp (by omega)
      · rw [← xi_sym h]
        exact two (-p) (by omega) (by omega)
def Nm (B : Nat) (k : Nat) : Nat := 2 * (25 * (B * B)) ^ k
def Dm (E : Nat) (k : Nat) : Nat := (2 * (E * E)) ^ k
theorem Dm_pos (hE : 0 < E) (k : Nat) : 0 < Dm E k := Nat.pow_pos (Nat.mul_pos (by omega) (Nat.mul_pos hE hE))
theorem Dm_le (h : Mok m A E B w) (k : Nat) : Dm E k ≤ Nm B k := Nat.le_trans (Nat.pow_le_pow_left h.eb k) (Nat.le_mul_of_pos_left _ (by omega))
theorem itx_fr (h : Mok m A E B w) (k : Nat) (p : Int) : Fr (Nm B k) (Dm E k) (itx m k p) := ⟨Xi A k p, itx_int h.hE h.hA k p, xi_le h k p⟩
theorem vt_fr (h : Mok m A E B w) (k : Nat) : FrA (Nm B k) (Dm E k) (vt (itx m) w k) := by
  intro q hq
  unfold vt at hq
  rcases List.mem_append.mp hq with hq | hq
  · obtain ⟨p, _, rfl⟩ := List.mem_map.mp hq
    exact itx_fr h k p
  · obtain ⟨p, _, rfl⟩ := List.mem_map.mp hq
    split
    · refine ⟨Dm E k, ?_, by rw [Int.natAbs_natCast]; exact Dm_le h k⟩
      rw [Rat.divInt_self' (by have := Dm_pos h.hE k; omega)]
    · exact .zero
def Pn (B : Nat) : Nat → Nat
  | 0 => 1
  | k + 1 => Pn B k * (2 * (Nm B k * Pn B k))
theorem Pb_eq (h : Mok m A E B w) : ∀ k, Pb (Nm B) (Dm E) k = Pn B k
  | 0 => rfl
  | k + 1 => by
    show Pb (Nm B) (Dm E) k * (2 * (max (Nm B k) (Dm E k) * Pb (Nm B) (Dm E) k)) = Pn B k * (2 * (Nm B k * Pn B k))
    rw [Pb_eq h k, Nat.max_eq_left (Dm_le h k)]
def topT : Nat := Nm 3600 6 * Pn 3600 6
theorem topT_lt : topT < 2 ^ 1920 := by decide +kernel
theorem Bb_top (h : Mok m A E 3600 w) : Bb (Nm 3600) (Dm E) 6 = topT := by
  unfold Bb topT
  rw [Pb_eq h, Nat.max_eq_left (Dm_le h 6)]
end
end K77
namespace K77
open PySem Pz
/-! ### a mask's row -/
/-- M is the row of the numbers m, from place 0 on -/
structure Msk (M : Int × List Rat) (m : Int → Rat) (A : Int → Int) (E w : Nat) : Prop where
  ok : Mok m A E 3600 w
  nf : Nf M
  vl : ∀ k, val M k = m k
  z : M.1 = 0
  len : M.2.length = w
  E2 : E ≤ 240
theorem mem_val0 {M : Int × List Rat} {q : Rat} (h : q ∈ M.2) : ∃ k, q = val M k := mem_val h
theorem sz_of {n m : Nat} (h : m < 2 ^ n) : Sz n (m : Nat) := by show Int.natAbs _ < _; rw [Int.natAbs_natCast]; exact h
theorem szN {k : Nat} (hk : k ≤ 7) : Nm 3600 k < 2 ^ 300 := by
  have e : Nm 3600 k ≤ Nm 3600 7 := Nat.mul_le_mul_left _ (Nat.pow_le_pow_right (by decide) hk)
  exact Nat.lt_of_le_of_lt e (by decide +kernel)
section
variable {M : Int × List Rat} {m : Int → Rat} {A : Int → Int} {E w : Nat}
theorem Msk.num (h : Msk M m A E w) : ∀ a ∈ M.2, Fr 3600 E a ∧ Sm a := fun a ha => by
  obtain ⟨k, rfl⟩ := mem_val ha
  have hf : Fr 3600 E (val M k) := ⟨A k, by rw [h.vl]; exact h.ok.hA k, h.ok.wk.le k⟩
  have hE2 := h.E2
  exact ⟨hf, hf.sm h.ok.hE ((sz_of (n := 12) (by decide)).mono (by omega)) ((sz_of (n := 12) (by omega)).mono (by omega))⟩
theorem row_fr (h : Msk M m A E w) {k : Nat} {W : Int × List Rat} (hW : ∀ p, val W p = itx m k p) : ∀ a ∈ W.2, Fr (Nm 3600 k) (Dm E k) a := fun a ha => by
  obtain ⟨p, rfl⟩ := mem_val ha
  rw [hW]; exact itx_fr h.ok k p
theorem row_sm (h : Msk M m A E w) {k : Nat} (hk : k ≤ 7) {W : Int × List Rat} (hW : ∀ p, val W p = itx m k p) : ∀ a ∈ W.2, Sm a := fun a ha =>
  (row_fr h hW a ha).sm (Dm_pos h.ok.hE k) ((sz_of (szN hk)).mono (by omega)) ((sz_of (Nat.lt_of_le_of_lt (Dm_le h.ok k) (szN hk))).mono (by omega))
theorem itx_in6 (h : Msk M m A E w) {k : Nat} {W : Int × List Rat} (hW : ∀ p, val W p = itx m k p) : In (-6) (-6 + (13 : Nat)) W := fun p hp => by
  rw [hW] at hp
  have := itx_in h.ok.supp h.ok.w2 k p hp
  unfold hw at this
  have := h.ok.w7
  omega
theorem row_place (h : Msk M m A E w) {k : Nat} {W : Int × List Rat} (nW : Nf W) (hW : ∀ p, val W p = itx m k p) : -6 ≤ W.1 ∧ W.1 ≤ 7 ∧ W.2.length ≤ 13 := by
  rcases (itx_in6 h hW).start nW with e | e
  · rw [e]; simp
  · omega
theorem led_ok (h : Msk M m A E w) (n : Nat) {k : Nat} (hk : k ≤ 6) (S : Store) (W : Int × List Rat) (nW : Nf W) (hW : ∀ p, val W p = itx m k p) :
    ∃ T, Phi (n + 6) i_led_over [rd M, rd W] S = .ok (rd T) S ∧ Nf T ∧ ∀ p, val T p = itx m (k + 1) p := by
  have hlen := h.len
  have hz := h.z
  have hw7 := h.ok.w7
  have hE2 := h.E2
  obtain ⟨p1, p2, p3⟩ := row_place h nW hW
  have hn := szN (show k ≤ 7 by omega)
  have sz1 : Sz 1000 ((M.2.length * (M.2.length * (3600 * 3600)) : Nat) : Int) := by
    refine (sz_of (n := 40) ?_).mono (by omega)
    have : M.2.length * (M.2.length * (3600 * 3600)) ≤ 7 * (7 * (3600 * 3600)) := Nat.mul_le_mul (by omega) (Nat.mul_le_mul_right _ (by omega))
    omega
  have sz2 : Sz 1000 ((E * E : Nat) : Int) := by
    refine (sz_of (n := 40) ?_).mono (by omega)
    have : E * E ≤ 240 * 240 := Nat.mul_le_mul hE2 hE2
    omega
  obtain ⟨Q, T, q1, q2, q3, q4, t1, t2, t3⟩ := run_led n M W S h.nf nW h.ok.hE (Dm_pos h.ok.hE k) h.num (fun a ha => ⟨row_fr h hW a ha, row_sm h (by omega) hW a ha⟩) (by omega) (by omega) (by omega) (by omega) (by omega) (by omega)
    sz1 sz2 ((sz_of hn).mono (by omega)) ((sz_of (Nat.lt_of_le_of_lt (Dm_le h.ok k) hn)).mono (by omega))
  refine ⟨T, t1, t2, fun p => ?_⟩
  rw [t3, conv_win2 (itx_in6 h hW)]
  show _ = stepx m (itx m k) p
  unfold stepx
  congr 1
  refine sm_congr fun t ht => ?_
  have hin : In 0 (0 + (7 : Nat)) M := fun i hi => by rw [h.vl] at hi; have := h.ok.supp i hi; omega
  rw [q2, conv_win hin h.nf, hW, show 2 * p - -6 - (t : Int) = 2 * p + 6 - (t : Int) by omega, show -6 + (t : Int) = (t : Int) - 6 by omega]
  congr 1
  unfold qv
  refine sm_congr fun i hi => ?_
  rw [h.vl, back_val, h.vl, show 0 + (i : Int) = i by omega, show -(2 * p + 6 - (t : Int) - 0 - (i : Int)) = (i : Int) - (2 * p + 6 - (t : Int)) by omega]
/-- the number of rows ahead of the first that hangs on them -/
theorem rule_K (h : Mok m A E 3600 w) : ∃ K, Live (itx m) w K ∧ lead (lf (itx m) w K) 0 w = none ∧ K ≤ w ∧ K ≤ 6 := by
  have h2 := h.w2
  have h7 := h.w7
  obtain ⟨K, a, b, c⟩ := ends (x := itx m) (w := w) (h := hw w + 1) (by unfold hw; omega) fun k hk p hp => Classical.byContradiction fun z => by
    have := itx_in h.supp h.w2 k _ z
    omega
  exact ⟨K, b, c, by unfold hw at a; omega, by unfold hw at a; omega⟩
theorem okR_small {j : Nat} (h : j ≤ 1000000) : okR (j : Int) = true := okR_of (by omega) (by omega)
theorem rule_ok (h : Msk M m A E w) {K : Nat} (hL : Live (itx m) w K) (hd : lead (lf (itx m) w K) 0 w = none) (hKw : K ≤ w) (hK : K ≤ 6) (n : Nat) (S : Store) : RuleOk n M (itx m) w K topT (Nm 3600) (Dm E) S := by
  have h7 := h.ok.w7
  refine ⟨h.len, hKw, okR_small (by omega), okR_small (by omega), by omega, start_val, fun k hk W nW hW => led_ok h n (by omega) S W nW hW, hL, hd, (sz_of topT_lt).mono (by omega), fun k _ => vt_fr h.ok k, fun k => Dm_pos h.ok.hE k, fun k => Nat.lt_of_lt_of_le (Dm_pos h.ok.hE k) (Dm_le h.ok k), ?_⟩
  rw [← Bb_top h.ok]
  exact (Bb_le (fun k => Dm_pos h.ok.hE k) hK).1
theorem run_rule_mask (h : Msk M m A E w) {K : Nat} (hL : Live (itx m) w K) (hd : lead (lf (itx m) w K) 0 w = none) (hKw : K ≤ w) (hK : K ≤ 6) (n : Nat) (S : Store) :
    ∃ S', Phi (n + 7) i_rule_of [rd M] S = .ok (.tup ((told (itx m) w K).map qd)) (S ++ S') := run_rule fun S' => rule_ok h hL hd hKw hK n S'
/-! ### the told numbers -/
theorem Fr.sz {n N D : Nat} {q : Rat} (h : Fr N D q) (hD : 0 < D) (hN : Sz n N) (hd : Sz n D) : Sz n q.num ∧ Sz n (q.den : Int) := by
  obtain ⟨a, rfl, ha⟩ := h
  have hD' : (D : Int) ≠ 0 := by omega
  have h1 := (ratio_eq (t := a) hD' _ rfl)
  rw [if_pos (by omega : (0 : Int) < (D : Int))] at h1
  obtain ⟨e1, e2⟩ := h1
  have hg : 0 < Int.gcd a D := by rw [Int.gcd_pos_iff]; exact .inr hD'
  constructor
  · rw [← e1]
    refine hN.of_le ?_
    rw [Int.fdiv_eq_ediv_of_nonneg _ (by omega), Int.natAbs_natCast]
    obtain ⟨t, ht⟩ : (Int.gcd a D : Int) ∣ a := Int.gcd_dvd_left ..
    generalize Int.gcd a D = g at *
    rw [ht, Int.mul_ediv_cancel_left _ (by omega)]
    rw [ht, Int.natAbs_mul, Int.natAbs_natCast] at ha
    exact Nat.le_trans (Nat.le_mul_of_pos_left _ hg) ha
  · rw [← e2]
    refine hd.of_le ?_
    rw [Int.fdiv_eq_ediv_of_nonneg _ (by omega), Int.natAbs_natCast]
    obtain ⟨t, ht⟩ : (Int.gcd a D : Int) ∣ (D : Int) := Int.gcd_dvd_right ..
    have hDn : ((D : Int)).natAbs = D := Int.natAbs_natCast D
    generalize Int.gcd a D = g at *
    rw [ht, Int.mul_ediv_cancel_left _ (by omega)]
    rw [ht, Int.natAbs_mul, Int.natAbs_natCast] at hDn
    rw [← hDn]
    exact Nat.le_mul_of_pos_left _ hg
/-- numbers that repr shows -/
def Sh (q : Rat) : Prop := Sz 1920 q.num ∧ Sz 1920 (q.den : Int)
theorem lf_sh (h : Mok m A E 3600 w) {k : Nat} (hL : Live (itx m) w k) (hK : k ≤ 6) : ∀ q ∈ lf (itx m) w k, Sh q := by
  obtain ⟨us, h1, h2, h3, h4⟩ := bas_bds (N := Nm 3600) (D := Dm E) k hL fun j _ => ⟨vt_fr h j, Dm_pos h.hE j⟩
  have hB := (Bb_le (N := Nm 3600) (fun k => Dm_pos h.hE k) hK).1
  rw [Bb_top h] at hB
  have b1 : Nm 3600 k * prodU us ≤ Bb (Nm 3600) (Dm E) k := Nat.mul_le_mul (Nat.le_max_left ..) h2
  have b2 : Dm E k * prodV us ≤ Bb (Nm 3600) (Dm E) k := Nat.mul_le_mul (Nat.le_max_right ..) h3
  have hfr := clr_fr h1 (vt_fr h k) (Dm_pos h.hE k)
  intro q hq
  exact (hfr q hq).sz (Nat.mul_pos (Dm_pos h.hE k) (prodV_pos h1)) (sz_of (Nat.lt_of_le_of_lt (Nat.le_trans b1 hB) topT_lt)) (sz_of (Nat.lt_of_le_of_lt (Nat.le_trans b2 hB) topT_lt))
theorem told_len {x : Nat → Int → Rat} {w K : Nat} (hK : K ≤ w) : (told x w K).length = K + 1 := by
  unfold told
  rw [List.length_take, List.length_drop, (lens K).1]; omega
theorem told_get {x : Nat → Int → Rat} {w K i : Nat} (hi : i ≤ K) : (told x w K).getD i 0 = (lf x w K).getD (w + i) 0 := by
  unfold told
  rw [getD_take, if_pos (by omega), getD_drop]
theorem told_last {x : Nat → Int → Rat} {w K : Nat} (hK : K ≤ w) : (told x w K).getD K 0 = 1 := by
  rw [told_get (Nat.le_refl _), (tags K K (Nat.le_refl _) (by omega)).1, if_pos rfl]
/-- the told polynomial leads to nought -/
theorem told_zero (h : Mok m A E 3600 w) {K : Nat} (hd : lead (lf (itx m) w K) 0 w = none) (hKw : K ≤ w) (p : Int) : sm (K + 1) (fun i => (told (itx m) w K).getD i 0 * itx m i p) = 0 := by
  have pos : ∀ p : Nat, sm (K + 1) (fun i => (told (itx m) w K).getD i 0 * itx m i (p : Nat)) = 0 := fun p => by
    by_cases hp : p < w
    · have e := (rels (x := itx m) K (by omega)).1 p hp
      rw [lead_none hd p (Nat.zero_le _) (by omega)] at e
      refine Eq.trans ?_ e.symm
      rw [sm_win (n := w + 1) (a := 0) (b := K + 1) (by omega) (fun j hj => by omega) fun j h1 h2 => by rw [(tags K j (by omega) h2).1, if_neg (by omega), Rat.zero_mul]]
      refine sm_congr fun i hi => ?_
      rw [told_get (by omega), Nat.zero_add]
    · refine sm_zero fun i hi => ?_
      have : itx m i (p : Nat) = 0 := Classical.byContradiction fun z => by
        have a1 := itx_in h.supp h.w2 i _ z
        have a2 := h.w2
        unfold hw at a1
        omega
      rw [this, Rat.mul_zero]
  by_cases hp : 0 ≤ p
  · have := pos p.toNat
    rwa [show ((p.toNat : Nat) : Int) = p by omega] at this
  · have := pos (-p).toNat
    rw [show (((-p).toNat : Nat) : Int) = -p by omega] at this
    exact Eq.trans (sm_congr fun i _ => by rw [itx_sym h.supp h.w7]) this
end
end K77
namespace K77
open PySem Pz
/-! ### checks of rows and masks -/
theorem blsOf_map {α : Type} (f : α → Bool) : ∀ l : List α, blsOf (l.map fun a => .bl (f a)) = some (l.map f)
  | [] => rfl
  | a :: l => by
    show (blsOf (l.map fun a => .bl (f a))).map (f a :: ·) = _
    rw [blsOf_map f l]; rfl
theorem blt_all {α : Type} {S : Store} (f : α → Bool) (l : List α) : bltD S .all [.lst (l.map fun a => .bl (f a))] = .ok (.bl (l.all f)) S := by
  show optK ((some (l.map fun a => Dt.bl (f a))).bind blsOf) _ = _
  rw [Option.bind_some, blsOf_map]
  show Res.ok (Dt.bl ((l.map f).all id)) S = _
  rw [List.all_map]; rfl
theorem run_is_whole (n : Nat) (i : Int) (S : Store) : Phi (n + 1) i_is_whole [.int i] S = .ok (.bl true) S := by
  rw [phiR n rfl (f := f_is_whole) rfl _ S rfl]
  simp [f_is_whole, getR]
theorem run_are_wholes2 (n : Nat) (a b : Int) (S : Store) : Phi (n + 2) i_are_wholes [.tup [.int a, .int b], .int 2] S = .ok (.bl true) S := by
  rw [phiR (n + 1) rfl (f := f_are_wholes) rfl _ S rfl]
  have hc : compK [2] (evI cv (Phi (n + 1)) (.seq (.var 0))) (evT cv (Phi (n + 1)) (.nm 2)) (evC cv (Phi (n + 1)) []) (evE cv (Phi (n + 1)) (.call i_is_whole [.var 2])) [some (.tup [.int a, .int b]), some (.int 2), none] S = .ok (.lst ([a, b].map fun _ => .bl true)) S := by
    refine comp_map (src := []) (fun i : Int => .int i) (fun _ => .bl true) (by simp [getR]) (by simp) rfl fun i hi => ?_
    have h := callR_pure (run_is_whole n i S) rfl
    simp [getR, h]
  have hall := blt_all (S := S) (fun _ : Int => true) [a, b]
  simp only [List.map_cons, List.map_nil] at hall hc
  simp [f_are_wholes, getR, eqD_int, hc, hall]
theorem gcd_num_den (q : Rat) : Int.gcd q.num q.den = 1 := q.reduced
theorem run_is_ratio (n : Nat) (q : Rat) (S : Store) : Phi (n + 3) i_is_ratio [qd q] S = .ok (.bl true) S := by
  rw [phiR (n + 2) rfl (f := f_is_ratio) rfl _ S rfl]
  have h1 := callR_pure (run_are_wholes2 n q.num q.den S) rfl
  have h2 := callR_pure (run_divisor2 (n + 1) q.num q.den S) rfl
  rw [gcd_num_den] at h2
  have hp : (0 : Int) < q.den := by have := q.den_pos; omega
  simp [f_is_ratio, getR, qd, h1, h2, eqD_int, hp, q.den_pos]
theorem eq_tups (S : Store) (ng : Bool) (ps qs : List Rat) : eqD S ng (.tup (ps.map qd)) (.tup (qs.map qd)) = .ok (.bl (ng != decide (ps = qs))) S := by
  have h := eqD_pl (S := S) (ng := ng) (d := .tup (ps.map qd)) (e := .tup (qs.map qd)) (pl_qds ps) (pl_qds qs) (by show dpAll _ + 1 ≤ 64; have := dp_qds ps; omega) (by show dpAll _ + 1 ≤ 64; have := dp_qds qs; omega)
  rw [h]
  have e : (Dt.tup (ps.map qd)).same (.tup (qs.map qd)) = decide (ps = qs) := by
    by_cases h : ps = qs
    · subst h; rw [Dt.same_refl]; simp
    · rw [decide_eq_false h]
      cases z : (Dt.tup (ps.map qd)).same (.tup (qs.map qd)) with
      | false => rfl
      | true =>
        have := same_iff.mp z
        injection this with this
        exact absurd (qds_inj this) h
  rw [e]
theorem num_ne {q : Rat} (h : q ≠ 0) : q.num ≠ 0 := fun e => h (Rat.num_eq_zero.mp e)
theorem run_is_laid (n : Nat) (R : Int × List Rat) (S : Store) (nR : Nf R) (hl : R.2.length ≤ 1000000) : Phi (n + 4) i_is_laid [rd R] S = .ok (.bl true) S := by
  rw [phiR (n + 3) rfl (f := f_is_laid) rfl _ S rfl]
  have h1 := callR_pure (run_is_whole (n + 2) R.1 S) rfl
  have het := eq_tups S false R.2 []
  rw [List.map_nil] at het
  by_cases e : R.2 = []
  · have e0 := nR.nil e
    obtain ⟨a, b⟩ := R
    have e : b = [] := e
    have e0 : a = 0 := e0
    subst e; subst e0
    simp only [List.map_nil] at het
    simp [f_is_laid, getR, rd, h1, eqD_int, het]
  · rw [decide_eq_false e] at het
    have hc : compK [1] (evI cv (Phi (n + 3)) (.seq (.ix (.var 0) (.int 1)))) (evT cv (Phi (n + 3)) (.nm 1)) (evC cv (Phi (n + 3)) []) (evE cv (Phi (n + 3)) (.call i_is_ratio [.var 1])) [some (rd R), none] S = .ok (.lst (R.2.map fun _ => .bl true)) S := by
      refine comp_map (src := []) qd (fun _ => .bl true) (by simp [getR]) hl rfl fun q hq => ?_
      have h := callR_pure (run_is_ratio n q S) rfl
      simp [getR, h]
    have hall := blt_all (S := S) (fun _ : Rat => true) R.2
    have hp : 0 < R.2.length := List.length_pos_iff.mpr e
    have i0 : ixD S (.tup (R.2.map qd)) (.int 0) = .ok (qd R.2[0]) S := ixD_tup (k := 0) (by rw [List.getElem?_map, List.getElem?_eq_getElem hp]; rfl)
    have n0 := num_ne (nR.hd R.2[0] (by rw [List.head?_eq_getElem?, List.getElem?_eq_getElem hp]))
    have il : ixD S (.tup (R.2.map qd)) (.int (-1)) = .ok (qd R.2[R.2.length - 1]) S := ixD_last (by rw [List.getLast?_eq_getElem?, List.length_map, List.getElem?_map, List.getElem?_eq_getElem (by omega)]; rfl)
    have nl := num_ne (nR.last R.2[R.2.length - 1] (by rw [List.getLast?_eq_getElem?, List.getElem?_eq_getElem (by omega)]))
    simp only [rd] at hc
    simp [f_is_laid, getR, rd, h1, eqD_int, het, hc, hall, i0, il, n0, nl]
theorem cv_FEW : cv c_FEW_NUMBERS = .int 2 := (rfl)
theorem cv_MOST : cv c_MOST_NUMBERS = .int 9 := (rfl)
theorem run_is_mask (n : Nat) (R : Int × List Rat) (S : Store) (nR : Nf R) (h0 : R.1 = 0) (h2 : 2 ≤ R.2.length) (h9 : R.2.length ≤ 9) : Phi (n + 5) i_is_mask [rd R] S = .ok (.bl true) S := by
  rw [phiR (n + 4) rfl (f := f_is_mask) rfl _ S rfl]
  have h1 := callR_pure (run_is_laid n R S nR (by omega)) rfl
  have a2 : (2 : Int) ≤ (R.2.length : Int) := by omega
  have a9 : (R.2.length : Int) ≤ 9 := by omega
  have v1 : COp.le.ev 2 (R.2.length : Int) = true := decide_eq_true a2
  have v2 : COp.le.ev (R.2.length : Int) 9 = true := decide_eq_true a9
  simp only [rd] at h1
  rw [h0] at h1
  simp [-cop_le, f_is_mask, getR, rd, h1, eqD_int, h0, cv_FEW, cv_MOST, chainK, v1, v2]
theorem run_check_mask (n : Nat) (R : Int × List Rat) (S : Store) (nR : Nf R) (h0 : R.1 = 0) (h2 : 2 ≤ R.2.length) (h9 : R.2.length ≤ 9) : Phi (n + 6) i_check_mask [rd R] S = .ok .non S := by
  rw [phiR (n + 5) rfl (f := f_check_mask) rfl _ S rfl]
  have h1 := callR_pure (run_is_mask n R S nR h0 h2 h9) rfl
  simp [f_check_mask, getR, h1]
section
variable {M : Int × List Rat} {m : Int → Rat} {A : Int → Int} {E w : Nat}
theorem tup_nl (qs : List Rat) : (Dt.tup (qs.map qd)).nl = true := nlAll_qd qs
theorem run_transfer_rule (h : Msk M m A E w) {K : Nat} (hL : Live (itx m) w K) (hd : lead (lf (itx m) w K) 0 w = none) (hKw : K ≤ w) (hK : K ≤ 6) (n : Nat) (S : Store) :
    Phi (n + 8) i_transfer_rule [rd M] S = .ok (.tup ((told (itx m) w K).map qd)) S := by
  have hw := h.ok.w2
  have h7 := h.ok.w7
  have hlen := h.len
  obtain ⟨S', e⟩ := run_rule_mask h hL hd hKw hK n S
  rw [phiR (n + 7) rfl (f := f_transfer_rule) rfl _ S rfl]
  have c1 := callR_pure (run_check_mask (n + 1) M S h.nf h.z (by omega) (by omega)) rfl
  have c2 := callR_ext e (tup_nl _)
  simp [f_transfer_rule, getR, c1, c2]
end
end K77
namespace K77
open PySem Pz
/-! ### the law's own rows -/
/-! trim -/
theorem filter_range_nil {p : Nat → Bool} {n : Nat} (h : (List.range n).filter p = []) : ∀ i < n, p i = false := fun i hi => by
  have := List.filter_eq_nil_iff.mp h i (List.mem_range.mpr hi)
  simpa using this
theorem filter_range_head {p : Nat → Bool} : ∀ {n i : Nat}, ((List.range n).filter p).head? = some i → i < n ∧ p i = true ∧ ∀ j < i, p j = false
  | 0, i, h => by cases h
  | n + 1, i, h => by
    rw [List.range_succ, List.filter_append] at h
    by_cases e : (List.range n).filter p = []
    · rw [e, List.nil_append] at h
      by_cases hp : p n = true
      · rw [List.filter_cons_of_pos hp] at h
        obtain rfl : n = i := Option.some.inj h
        exact ⟨by omega, hp, filter_range_nil e⟩
      · rw [List.filter_cons_of_neg hp] at h; cases h
    · rw [List.head?_append, Option.or_of_isSome (by cases q : (List.range n).filter p with | nil => exact absurd q e | cons a l => rfl)] at h
      obtain ⟨a, b, c⟩ := filter_range_head h
      exact ⟨by omega, b, c⟩
theorem filter_range_last {p : Nat → Bool} : ∀ {n i : Nat}, ((List.range n).filter p).getLast? = some i → i < n ∧ p i = true ∧ ∀ j, i < j → j < n → p j = false
  | 0, i, h => by cases h
  | n + 1, i, h => by
    rw [List.range_succ, List.filter_append] at h
    by_cases hp : p n = true
    · rw [List.filter_cons_of_pos hp, List.filter_nil, List.getLast?_append] at h
      obtain rfl : n = i := Option.some.inj h
      exact ⟨by omega, hp, fun j h1 h2 => by omega⟩
    · rw [List.filter_cons_of_neg hp, List.filter_nil, List.append_nil] at h
      obtain ⟨a, b, c⟩ := filter_range_last h
      exact ⟨by omega, b, fun j h1 h2 => by
        by_cases e : j = n
        · subst e; simpa using hp
        · exact c j h1 (by omega)⟩
theorem pl_ints : ∀ l : List Nat, plAll (l.map fun i : Nat => Dt.int (i : Int)) = true
  | [] => rfl
  | a :: l => by show (true && plAll (l.map fun i : Nat => Dt.int (i : Int))) = true; rw [pl_ints l]; rfl
theorem dp_ints : ∀ l : List Nat, dpAll (l.map fun i : Nat => Dt.int (i : Int)) = 0
  | [] => rfl
  | a :: l => by show max 0 (dpAll (l.map fun i : Nat => Dt.int (i : Int))) = 0; rw [dp_ints l]; rfl
theorem eq_nil_ints (S : Store) (l : List Nat) : eqD S false (.lst (l.map fun i : Nat => .int (i : Int))) (.lst []) = .ok (.bl (decide (l = []))) S := by
  have h := eqD_pl (S := S) (ng := false) (d := .lst (l.map fun i : Nat => .int (i : Int))) (e := .lst []) (pl_ints l) rfl (by show dpAll _ + 1 ≤ 64; rw [dp_ints]; omega) (by show (0 : Nat) + 1 ≤ 64; omega)
  rw [h]
  cases l with
  | nil => rfl
  | cons a l => rfl
theorem run_trim (n : Nat) (s : Int) (d : Dt) (qs : List Rat) (S : Store) (h : IsL S d (qs.map qd)) (hok : okR (qs.length : Int) = true) (hl : qs.length ≤ 1000000) :
    ∃ R, Phi (n + 1) i_law_trim [.int s, d] S = .ok (rd R) S ∧ Nf R ∧ (∀ k, val R k = val (s, qs) k) ∧ R.2.length ≤ qs.length ∧ (∀ q ∈ R.2, q ∈ qs) := by
  rw [phiR n rfl (f := f_law_trim) rfl _ S rfl]
  have ixn : ∀ (i : Nat) (hi : i < qs.length), ixD S d (.int i) = .ok (qd qs[i]) S := fun i hi => h.ix (by simp [hi])
  obtain ⟨p, hp⟩ : ∃ p : Nat → Bool, p = fun i => decide (qs.getD i 0 ≠ 0) := ⟨_, rfl⟩
  obtain ⟨full, hfull⟩ : ∃ full, full = (List.range qs.length).filter p := ⟨_, rfl⟩
  have hlen : bltD S .len [d] = .ok (.int qs.length) S := by rw [h.len, List.length_map]
  have hc : compK [3] (evI cv (Phi n) (.rng1 (.blt .len [.var 1]))) (evT cv (Phi n) (.nm 3)) (evC cv (Phi n) [.eq true (.ix (.ix (.var 1) (.var 3)) (.int 0)) (.int 0)]) (evE cv (Phi n) (.var 3)) [some (.int s), some d, none, none] S = .ok (.lst (full.map fun i : Nat => .int (i : Int))) S := by
    rw [hfull]
    refine comp_filter (src := []) (fun i : Nat => .int (i : Int)) (fun i : Nat => .int (i : Int)) p (evI_rng1_of (j := qs.length) (by simp [getR, hlen]) hok) (by rw [List.length_range]; exact hl) rfl fun i hi => ?_
    have hi := List.mem_range.mp hi
    have hx := ixn i hi
    have hpi : p i = decide (qs[i] ≠ 0) := by rw [hp]; show decide (qs.getD i 0 ≠ 0) = _; rw [getD_of (List.getElem?_eq_getElem hi)]
    by_cases h0 : qs[i] = 0
    · rw [h0] at hx
      have : p i = false := by rw [hpi, h0]; simp
      simp [getR, hx, eqD_int, this]
    · have hn := num_ne h0
      have : p i = true := by rw [hpi]; simpa using h0
      simp [getR, hx, eqD_int, this, hn]
  have hr0 : (List.map some [Dt.int s, d] ++ List.replicate (f_law_trim.sz - f_law_trim.ar) none) = [some (.int s), some d, none, none] := rfl
  rw [hr0]
  have heq := eq_nil_ints S full
  by_cases he : full = []
  · refine ⟨(0, []), ?_, nf_nought, val_zero fun m => ?_, Nat.zero_le _, fun q hq => by cases hq⟩
    · rw [decide_eq_true he] at heq
      rw [he, List.map_nil] at heq hc
      simp [f_law_trim, getR, hc, heq]
      rfl
    · by_cases hm : m < qs.length
      · have := filter_range_nil (hfull ▸ he) m hm
        rw [hp] at this
        simpa using this
      · exact getD_big (by omega)
  · rw [decide_eq_false he] at heq
    have hpos : 0 < full.length := List.length_pos_iff.mpr he
    obtain ⟨i, hi⟩ : ∃ i, full.head? = some i := ⟨full[0], by rw [List.head?_eq_getElem?, List.getElem?_eq_getElem hpos]⟩
    obtain ⟨j, hj⟩ : ∃ j, full.getLast? = some j := ⟨full[full.length - 1], by rw [List.getLast?_eq_getElem?, List.getElem?_eq_getElem (by omega)]⟩
    obtain ⟨a1, a2, a3⟩ := filter_range_head (hfull ▸ hi)
    obtain ⟨b1, b2, b3⟩ := filter_range_last (hfull ▸ hj)
    have hij : i ≤ j := Decidable.byContradiction fun z => by
      have := b3 i (by omega) a1
      rw [a2] at this; cases this
    have toP : ∀ k, p k = false → qs.getD k 0 = 0 := fun k hk => by rw [hp] at hk; simpa using hk
    have toN : ∀ k, p k = true → qs.getD k 0 ≠ 0 := fun k hk => by rw [hp] at hk; simpa using hk
    have x0 : ixD S (.lst (full.map fun i : Nat => .int (i : Int))) (.int 0) = .ok (.int i) S := ixD_lst (k := 0) (by rw [List.getElem?_map, ← List.head?_eq_getElem?, hi]; rfl)
    have xl : ixD S (.lst (full.map fun i : Nat => .int (i : Int))) (.int (-1)) = .ok (.int j) S := by
      have := atI_last (xs := full.map fun i : Nat => Dt.int (i : Int)) (a := .int j) (by rw [List.getLast?_map, hj]; rfl)
      unfold ixD asSeq asTup asLst
      simp only [this]
    have hsl : slK d (some (i : Int)) (some ((j : Int) + 1)) S = .ok (.lst (((qs.drop i).take (j + 1 - i)).map qd)) S := by
      rw [h.sl, show (j : Int) + 1 = ((j + 1 : Nat) : Int) from rfl, cutD_nat (by omega) (by rw [List.length_map]; omega), List.map_take, List.map_drop]
    refine ⟨(s + (i : Int), (qs.drop i).take (j + 1 - i)), ?_, nf_trim (by omega) (by omega) (toN i a2) (toN j b2), val_trim (fun m hm => toP m (a3 m hm)) (fun m hm => ?_), by rw [List.length_take, List.length_drop]; omega, fun q hq => List.mem_of_mem_drop (List.mem_of_mem_take hq)⟩
    · simp [f_law_trim, getR, hc, heq, x0, xl, IEx.isAbs, partK, hsl, rd]
    · by_cases hm2 : m < qs.length
      · exact toP m (b3 m (by omega) hm2)
      · exact getD_big (by omega)
/-! at, round, scaled -/
theorem run_lat (n : Nat) (R : Int × List Rat) (k : Int) (S : Store) : Phi (n + 1) i_law_at [rd R, .int k] S = .ok (qd (val R k)) S := by
  rw [phiR n rfl (f := f_law_at) rfl _ S rfl]
  by_cases h1 : R.1 ≤ k
  · by_cases h2 : k < R.1 + R.2.length
    · have hi : (k - R.1).toNat < R.2.length := by omega
      have hq : (R.2.map qd)[(k - R.1).toNat]? = some (qd (val R k)) := by
        rw [List.getElem?_map, val_in h1, List.getElem?_eq_getElem hi, getD_of (List.getElem?_eq_getElem hi)]
        rfl
      have hx := ixD_tup (S := S) hq
      have ek : (((k - R.1).toNat : Nat) : Int) = k - R.1 := by omega
      rw [ek] at hx
      have v1 : COp.le.ev 0 (k - R.1) = true := decide_eq_true (by omega)
      have v2 : COp.lt.ev (k - R.1) R.2.length = true := decide_eq_true (by omega)
      simp [-cop_le, -cop_lt, f_law_at, getR, rd, chainK, v1, v2, hx]
    · have hv : val R k = 0 := val_out fun h => h2 h.2
      have v1 : COp.le.ev 0 (k - R.1) = true := decide_eq_true (by omega)
      have v2 : COp.lt.ev (k - R.1) R.2.length = false := decide_eq_false (by omega)
      simp [-cop_le, -cop_lt, f_law_at, getR, rd, chainK, v1, v2, hv]
      rfl
  · have hv : val R k = 0 := val_out fun h => h1 h.1
    have v1 : COp.le.ev 0 (k - R.1) = false := decide_eq_false (by omega)
    simp [-cop_le, -cop_lt, f_law_at, getR, rd, chainK, v1, hv]
    rfl
theorem run_lround (n : Nat) (R : Int × List Rat) (S : Store) (hl : R.2.length ≤ 1000000) : Phi (n + 1) i_law_round [rd R] S = .ok (rd (back R)) S := by
  rw [phiR n rfl (f := f_law_round) rfl _ S rfl]
  have het := eq_tups S true R.2 []
  rw [List.map_nil] at het
  by_cases e : R.2 = []
  · have eb : back R = R := if_pos e
    rw [eb]
    obtain ⟨a, b⟩ := R
    have e : b = [] := e
    subst e
    simp only [List.map_nil] at het
    simp [f_law_round, getR, rd, het]
  · rw [decide_eq_false e] at het
    have hs := slk_rev (S := S) (xs := R.2.map qd) (by rw [List.length_map]; omega)
    have eb : back R = (1 - (R.1 + R.2.length), R.2.reverse) := if_neg e
    have er : rd (1 - (R.1 + (R.2.length : Int)), R.2.reverse) = .tup [.int (1 - R.1 - R.2.length), .tup (R.2.map qd).reverse] := by
      unfold rd
      rw [List.map_reverse, show (1 - (R.1 + (R.2.length : Int))) = 1 - R.1 - R.2.length by omega]
    rw [eb, er]
    simp [f_law_round, getR, rd, het, IEx.isAbs, hs]
theorem run_lscaled (n : Nat) (R : Int × List Rat) (c : Rat) (S : Store) (hR : AllSm R.2) (hc : Sm c) (hok : okR (R.2.length : Int) = true) (hl : R.2.length ≤ 1000000) :
    ∃ R', Phi (n + 4) i_law_scaled [rd R, qd c] S = .ok (rd R') S ∧ Nf R' ∧ (∀ k, val R' k = val R k * c) ∧ R'.2.length ≤ R.2.length := by
  obtain ⟨R', h1, h2, h3, h4, h5⟩ := run_trim (n + 2) R.1 (.lst ((R.2.map (· * c)).map qd)) (R.2.map (· * c)) S (isL_lst _ _) (by rw [List.length_map]; exact hok) (by rw [List.length_map]; exact hl)
  refine ⟨R', ?_, h2, fun k => ?_, by rw [List.length_map] at h4; exact h4⟩
  · rw [phiR (n + 3) rfl (f := f_law_scaled) rfl _ S rfl]
    have hcomp : compK [2] (evI cv (Phi (n + 3)) (.seq (.ix (.var 0) (.int 1)))) (evT cv (Phi (n + 3)) (.nm 2)) (evC cv (Phi (n + 3)) []) (evE cv (Phi (n + 3)) (.call i_law_prod [.var 2, .var 1])) [some (rd R), some (qd c), none] S = .ok (.lst (R.2.map fun q => qd (q * c))) S :=
      comp_map (src := []) qd (fun q => qd (q * c)) (by simp [getR]) hl rfl fun q hq => by
        have ht := callR_pure (run_lprod n q c S (hR q hq) hc) (qd_nl _)
        simp [getR, ht]
    have hr := callR_pure h1 (rd_nl _)
    rw [List.map_map] at hr
    have hr : callR (Phi (n + 3)) i_law_trim [.int R.1, .lst (R.2.map fun q => qd (q * c))] S = .ok (rd R') S := hr
    simp [f_law_scaled, getR, hcomp, hr]
  · rw [h3]
    unfold val
    dsimp only
    split
    · rw [List.getD_eq_getElem?_getD, List.getElem?_map, List.getD_eq_getElem?_getD]
      cases R.2[(k - R.1).toNat]? <;> simp
    · simp
end K77
namespace K77
open PySem Pz
/-! ### whole numbers over one number -/
def lcmL : Nat → List Rat → Nat
  | u, [] => u
  | u, q :: qs => lcmL (Nat.lcm u q.den) qs
theorem lcmL_dvd : ∀ {qs : List Rat} {u : Nat}, u ∣ lcmL u qs ∧ ∀ q ∈ qs, q.den ∣ lcmL u qs
  | [], u => ⟨Nat.dvd_refl _, fun q hq => by cases hq⟩
  | q :: qs, u => by
    obtain ⟨h1, h2⟩ := lcmL_dvd (qs := qs) (u := Nat.lcm u q.den)
    refine ⟨Nat.dvd_trans (Nat.dvd_lcm_left ..) h1, fun p hp => ?_⟩
    rcases List.mem_cons.mp hp with rfl | hp
    · exact Nat.dvd_trans (Nat.dvd_lcm_right ..) h1
    · exact h2 p hp
theorem lcmL_least {D : Nat} : ∀ {qs : List Rat} {u : Nat}, u ∣ D → (∀ q ∈ qs, q.den ∣ D) → lcmL u qs ∣ D
  | [], u, h, _ => h
  | q :: qs, u, h, hq => lcmL_least (qs := qs) (u := Nat.lcm u q.den) (Nat.lcm_dvd h (hq q List.mem_cons_self)) fun p hp => hq p (List.mem_cons_of_mem _ hp)
theorem Fr.den {N D : Nat} {q : Rat} (h : Fr N D q) (hD : 0 < D) : q.den ∣ D ∧ (q.num.natAbs * (D / q.den) ≤ N) := by
  obtain ⟨a, rfl, ha⟩ := h
  have hD' : (D : Int) ≠ 0 := by omega
  have h1 := (ratio_eq (t := a) hD' _ rfl)
  rw [if_pos (by omega : (0 : Int) < (D : Int))] at h1
  obtain ⟨e1, e2⟩ := h1
  have hg : 0 < Int.gcd a D := by rw [Int.gcd_pos_iff]; exact .inr hD'
  obtain ⟨t, ht⟩ : (Int.gcd a D : Int) ∣ a := Int.gcd_dvd_left ..
  obtain ⟨s, hs⟩ : (Int.gcd a D : Int) ∣ (D : Int) := Int.gcd_dvd_right ..
  rw [Int.fdiv_eq_ediv_of_nonneg _ (by omega)] at e1 e2
  generalize Int.gcd a D = g at *
  have e3 : (Rat.divInt a D).num = t := by rw [← e1, ht, Int.mul_ediv_cancel_left _ (by omega)]
  have e4 : ((Rat.divInt a D).den : Int) = s := by
    rw [← e2]
    conv => lhs; lhs; rw [hs]
    rw [Int.mul_ediv_cancel_left _ (by omega)]
  have e5 : D = g * (Rat.divInt a D).den := by
    have : (D : Int) = (g * (Rat.divInt a D).den : Nat) := by rw [Int.natCast_mul, e4]; exact hs
    exact_mod_cast this
  have hden := (Rat.divInt a D).den_pos
  refine ⟨⟨g, by rw [Nat.mul_comm]; exact e5⟩, ?_⟩
  have e6 : D / (Rat.divInt a D).den = g := by
    conv => lhs; lhs; rw [e5]
    exact Nat.mul_div_cancel _ hden
  rw [e6, e3]
  rw [ht, Int.natAbs_mul, Int.natAbs_natCast] at ha
  rw [Nat.mul_comm]; exact ha
/-- a number's whole number over u -/
def over_ (u : Nat) (q : Rat) : Int := q.num * ((u / q.den : Nat) : Int)
theorem over_eq' {u : Nat} {q : Rat} (h : q.den ∣ u) (hu : 0 < u) : q = Rat.divInt (over_ u q) u := by
  obtain ⟨t, rfl⟩ := h
  unfold over_
  rw [Nat.mul_div_cancel_left _ q.den_pos, Int.natCast_mul]
  have ht : (t : Int) ≠ 0 := fun z => by
    have : t = 0 := by omega
    subst this; omega
  rw [Rat.divInt_mul_right ht, Rat.num_divInt_den]
theorem over_le {N D u : Nat} {q : Rat} (h : Fr N D q) (hD : 0 < D) (hu : u ∣ D) : (over_ u q).natAbs ≤ N := by
  obtain ⟨h1, h2⟩ := h.den hD
  unfold over_
  rw [Int.natAbs_mul, Int.natAbs_natCast]
  exact Nat.le_trans (Nat.mul_le_mul_left _ (Nat.div_le_div_right (Nat.le_of_dvd hD hu))) h2
theorem ints_loop (n : Nat) (S : Store) (r0 : Option Dt) (D : Nat) (hD : 0 < D) (hs : Sz 4000 (D : Nat)) : ∀ (qs : List Rat) (u : Nat) (r2 : Option Dt), u ∣ D → (∀ q ∈ qs, q.den ∣ D) →
    ∃ r2', forF (evT cv (Phi (n + 1)) (.nm 2)) (evB cv (Phi (n + 1)) [.asg (.nm 1) (.bin .mul (.var 1) (.bin .fdiv (.ix (.var 2) (.int 1)) (.call i_law_deep [.var 1, .ix (.var 2) (.int 1)])))]) [] (qs.map qd) [r0, some (.int u), r2] S = .ok (.nx [r0, some (.int (lcmL u qs)), r2']) S
  | [], u, r2, _, _ => ⟨r2, rfl⟩
  | q :: qs, u, r2, hu, hq => by
    have hqd := hq q List.mem_cons_self
    have hl := Nat.lcm_dvd hu hqd
    have sz : ∀ {m : Nat}, m ∣ D → Sz 4000 (m : Nat) := fun {m} hm => hs.of_le (by rw [Int.natAbs_natCast, Int.natAbs_natCast]; exact Nat.le_of_dvd hD hm)
    have hup : 0 < u := Nat.pos_of_dvd_of_pos hu hD
    obtain ⟨r2', e⟩ := ints_loop n S r0 D hD hs qs (Nat.lcm u q.den) (some (qd q)) hl fun p hp => hq p (List.mem_cons_of_mem _ hp)
    refine ⟨r2', ?_⟩
    rw [List.map_cons]
    have hde : lcmL u (q :: qs) = lcmL (Nat.lcm u q.den) qs := rfl
    rw [hde, ← e]
    have hd := callR_pure (run_deep n u q.den S ((sz hqd).mono (by omega))) rfl
    have hg : Int.gcd (u : Int) (q.den : Int) = Nat.gcd u q.den := rfl
    rw [hg] at hd
    have hgp : 0 < Nat.gcd u q.den := Nat.gcd_pos_of_pos_left _ hup
    have k1 : okDiv (q.den : Int) ((Nat.gcd u q.den : Nat) : Int) = true := okDiv_of (by omega) ((sz (Nat.dvd_trans (Nat.gcd_dvd_left ..) hu)).mono (by omega))
    have ef : Int.fdiv (q.den : Int) ((Nat.gcd u q.den : Nat) : Int) = ((q.den / Nat.gcd u q.den : Nat) : Int) := by rw [Int.fdiv_eq_ediv_of_nonneg _ (by omega)]; rfl
    have k2 : okMul (u : Int) ((q.den / Nat.gcd u q.den : Nat) : Int) = true := okMul_of ((sz hu).mono (by omega)) ((sz (Nat.dvd_trans (Nat.div_dvd_of_dvd (Nat.gcd_dvd_right ..)) hqd)).mono (by omega))
    have em : (u : Int) * ((q.den / Nat.gcd u q.den : Nat) : Int) = ((Nat.lcm u q.den : Nat) : Int) := by
      rw [← Int.natCast_mul]
      unfold Nat.lcm
      rw [Nat.mul_div_assoc _ (Nat.gcd_dvd_right ..)]
    have c1 := bin_fdiv _ _ S k1
    rw [ef] at c1
    have c2 := bin_mul _ _ S k2
    rw [em] at c2
    conv => lhs; unfold forF
    simp only [still_nil, if_true, evT_nm, bind_okS, List.set_cons_succ, List.set_cons_zero, evB_cons, evB_nil, evS_asg, ev_bin, ev_ix, ev_var, ev_int, ev_call, evL_cons, evL_nil, getR, List.getElem?_cons_succ, List.getElem?_cons_zero, ixD_qd1, hd, c1, c2, thenB_nx]
theorem run_lints (n : Nat) (d : Dt) (qs : List Rat) (S : Store) (D : Nat) (hD : 0 < D) (hs : Sz 4000 (D : Nat)) (hd : seqK d S = .ok ⟨qs.map qd, []⟩ S) (hq : ∀ q ∈ qs, q.den ∣ D) (hsm : ∀ q ∈ qs, Sz 4000 q.num) (hl : qs.length ≤ 1000000) :
    Phi (n + 2) i_law_ints [d] S = .ok (.tup [.lst ((qs.map (over_ (lcmL 1 qs))).map .int), .int (lcmL 1 qs)]) S := by
  rw [phiR (n + 1) rfl (f := f_law_ints) rfl _ S rfl]
  obtain ⟨r2', e⟩ := ints_loop n S (some d) D hD hs qs 1 none (Nat.one_dvd _) hq
  have hu := lcmL_least (Nat.one_dvd D) hq
  have sz : ∀ {m : Nat}, m ∣ D → Sz 4000 (m : Nat) := fun {m} hm => hs.of_le (by rw [Int.natAbs_natCast, Int.natAbs_natCast]; exact Nat.le_of_dvd hD hm)
  have hc : compK [2] (evI cv (Phi (n + 1)) (.seq (.var 0))) (evT cv (Phi (n + 1)) (.nm 2)) (evC cv (Phi (n + 1)) []) (evE cv (Phi (n + 1)) (.bin .mul (.ix (.var 2) (.int 0)) (.bin .fdiv (.var 1) (.ix (.var 2) (.int 1))))) [some d, some (.int (lcmL 1 qs)), r2'] S = .ok (.lst ((qs.map (over_ (lcmL 1 qs))).map .int)) S := by
    rw [List.map_map]
    refine comp_map (src := []) qd (fun q => .int (over_ (lcmL 1 qs) q)) (by simp [getR, hd]) hl rfl fun q hm => ?_
    have hqd := (lcmL_dvd (qs := qs) (u := 1)).2 q hm
    have k1 : okDiv ((lcmL 1 qs : Nat) : Int) (q.den : Int) = true := okDiv_of (den_ne q) ((sz (hq q hm)).mono (by omega))
    have ef : Int.fdiv ((lcmL 1 qs : Nat) : Int) (q.den : Int) = ((lcmL 1 qs / q.den : Nat) : Int) := by rw [Int.fdiv_eq_ediv_of_nonneg _ (by omega)]; rfl
    have k2 : okMul q.num ((lcmL 1 qs / q.den : Nat) : Int) = true := okMul_of ((hsm q hm).mono (by omega)) ((sz (Nat.dvd_trans (Nat.div_dvd_of_dvd hqd) hu)).mono (by omega))
    have c1 := bin_fdiv _ _ S k1
    rw [ef] at c1
    have c2 := bin_mul _ _ S k2
    have e0 : over_ (lcmL 1 qs) q = q.num * ((lcmL 1 qs / q.den : Nat) : Int) := rfl
    generalize lcmL 1 qs / q.den = t at *
    simp [getR, c1, c2, e0]
  have e' : forF (evT cv (Phi (n + 1)) (.nm 2)) (evB cv (Phi (n + 1)) [.asg (.nm 1) (.bin .mul (.var 1) (.bin .fdiv (.ix (.var 2) (.int 1)) (.call i_law_deep [.var 1, .ix (.var 2) (.int 1)])))]) [] (qs.map qd) [some d, some (.int 1), none] S = .ok (.nx [some d, some (.int (lcmL 1 qs)), r2']) S := e
  have hr0 : (List.map some [d] ++ List.replicate (f_law_ints.sz - f_law_ints.ar) none) = [some d, none, none] := rfl
  rw [hr0]
  unfold f_law_ints
  simp only [evB_cons, evS_asg, ev_int, bind_okS, evT_nm, List.set_cons_succ, List.set_cons_zero, thenB_nx, evS_forr, evI_seq, ev_var, getR, List.getElem?_cons_succ, List.getElem?_cons_zero, hd, e', evS_ret, ev_tup, evL_cons, evL_nil, ev_comp, hc, tupK2, thenB_rt, endF_rt]
end K77
namespace K77
open PySem Pz
/-! ### the law's product of rows -/
def addAtI (xs : List Int) (k : Nat) (v : Int) : List Int := xs.set k (xs.getD k 0 + v)
def accInI (a : Int) : Nat → List Int → List Int → List Int
  | _, [], xs => xs
  | k, b :: bs, xs => accInI a (k + 1) bs (addAtI xs k (a * b))
def accOutI (bs : List Int) : Nat → List Int → List Int → List Int
  | _, [], xs => xs
  | i, a :: as, xs => accOutI bs (i + 1) as (accInI a i bs xs)
theorem accInI_len {a : Int} : ∀ {bs : List Int} {k : Nat} {xs : List Int}, (accInI a k bs xs).length = xs.length
  | [], _, _ => rfl
  | b :: bs, k, xs => by unfold accInI; rw [accInI_len]; unfold addAtI; rw [List.length_set]
theorem accOutI_len {bs : List Int} : ∀ {as : List Int} {i : Nat} {xs : List Int}, (accOutI bs i as xs).length = xs.length
  | [], _, _ => rfl
  | a :: as, i, xs => by unfold accOutI; rw [accOutI_len, accInI_len]
section
variable {u v : Nat}
theorem phi_add (hu : 0 < u) (hv : 0 < v) (x a b : Int) : Rat.divInt (x + a * b) ((u * v : Nat) : Int) = Rat.divInt x ((u * v : Nat) : Int) + Rat.divInt a u * Rat.divInt b v := by
  have h : ((u * v : Nat) : Int) ≠ 0 := by have := Nat.mul_pos hu hv; omega
  rw [Rat.divInt_mul_divInt, ← Int.natCast_mul, Rat.divInt_add_divInt _ _ h h, ← Int.add_mul, Rat.divInt_mul_right h]
theorem getD_mapI {xs : List Int} {f : Int → Rat} (k : Nat) (hk : k < xs.length) : (xs.map f).getD k 0 = f (xs.getD k 0) := by
  refine getD_of ?_
  rw [List.getElem?_map, List.getElem?_eq_getElem hk, getD_of (List.getElem?_eq_getElem hk)]; rfl
theorem accIn_map (hu : 0 < u) (hv : 0 < v) (a : Int) : ∀ (bs : List Int) (k : Nat) (xs : List Int), k + bs.length ≤ xs.length →
    (accInI a k bs xs).map (fun z => Rat.divInt z ((u * v : Nat) : Int)) = accIn (Rat.divInt a u) k (bs.map fun b => Rat.divInt b v) (xs.map fun z => Rat.divInt z ((u * v : Nat) : Int))
  | [], k, xs, _ => rfl
  | b :: bs, k, xs, h => by
    rw [List.length_cons] at h
    unfold accInI
    rw [List.map_cons]
    unfold accIn
    rw [accIn_map hu hv a bs (k + 1) _ (by unfold addAtI; rw [List.length_set]; omega)]
    congr 1
    unfold addAtI addAt
    rw [List.map_set, phi_add hu hv, getD_mapI k (by omega)]
theorem accOut_map (hu : 0 < u) (hv : 0 < v) (bs : List Int) : ∀ (as : List Int) (i : Nat) (xs : List Int), i + as.length + bs.length ≤ xs.length + 1 →
    (accOutI bs i as xs).map (fun z => Rat.divInt z ((u * v : Nat) : Int)) = accOut (bs.map fun b => Rat.divInt b v) i (as.map fun a => Rat.divInt a u) (xs.map fun z => Rat.divInt z ((u * v : Nat) : Int))
  | [], i, xs, _ => rfl
  | a :: as, i, xs, h => by
    rw [List.length_cons] at h
    unfold accOutI
    rw [List.map_cons]
    unfold accOut
    rw [accOut_map hu hv bs as (i + 1) _ (by rw [accInI_len]; omega), accIn_map hu hv a bs i xs (by omega)]
end
theorem getI {xs : List Int} {k : Nat} (h : k < xs.length) : (xs.map Dt.int)[k]? = some (.int (xs.getD k 0)) := by
  rw [List.getElem?_map, List.getElem?_eq_getElem h, getD_of (List.getElem?_eq_getElem h)]; rfl
theorem setI (xs : List Int) (k : Nat) (v : Int) : (xs.map Dt.int).set k (.int v) = (xs.set k v).map Dt.int := (List.map_set ..).symm
theorem getD_mem {α : Type} {l : List α} {k : Nat} {d : α} (h : k < l.length) : l.getD k d ∈ l := by
  rw [getD_of (List.getElem?_eq_getElem h)]; exact List.getElem_mem h
def tinner : List ISt := [.asg (.sub (.var 2) (.bin .add (.var 3) (.var 8))) (.bin .add (.ix (.var 2) (.bin .add (.var 3) (.var 8))) (.bin .mul (.ix (.var 4) (.var 3)) (.ix (.var 6) (.var 8))))]
theorem drop_cons {α : Type} [Inhabited α] {l : List α} {j : Nat} {d : α} (h : j < l.length) : l.drop j = l.getD j d :: l.drop (j + 1) := by
  rw [List.drop_eq_getElem_cons h, getD_of (List.getElem?_eq_getElem h)]
theorem ltimes_in (n : Nat) {S : Store} (as bs : List Int) (i : Nat) (hi : i < as.length) (hm : ∀ a ∈ as, ∀ b ∈ bs, okMul a b = true) (r0 r1 r5 r7 r9 : Option Dt) :
    ∀ (c j : Nat) (xs : List Int) (r8 : Option Dt), j + c = bs.length → i + bs.length ≤ xs.length →
      ∃ r8', forF (evT cv (Phi n) (.nm 8)) (evB cv (Phi n) tinner) [] (rngL j 1 c) [r0, r1, some (.loc S.length), some (.int i), some (.lst (as.map .int)), r5, some (.lst (bs.map .int)), r7, r8, r9] (S ++ [xs.map .int])
        = .ok (.nx [r0, r1, some (.loc S.length), some (.int i), some (.lst (as.map .int)), r5, some (.lst (bs.map .int)), r7, r8', r9]) (S ++ [(accInI (as.getD i 0) (i + j) (bs.drop j) xs).map .int])
  | 0, j, xs, r8, hj, hl => ⟨r8, by rw [List.drop_eq_nil_of_le (by omega)]; rfl⟩
  | c + 1, j, xs, r8, hj, hl => by
    have hjb : j < bs.length := by omega
    obtain ⟨r8', e⟩ := ltimes_in n (S := S) as bs i hi hm r0 r1 r5 r7 r9 c (j + 1) (addAtI xs (i + j) (as.getD i 0 * bs.getD j 0)) (some (.int j)) (by omega) (by unfold addAtI; rw [List.length_set]; omega)
    refine ⟨r8', ?_⟩
    rw [drop_cons (d := 0) hjb]
    have ea : accInI (as.getD i 0) (i + j) (bs.getD j 0 :: bs.drop (j + 1)) xs = accInI (as.getD i 0) (i + (j + 1)) (bs.drop (j + 1)) (addAtI xs (i + j) (as.getD i 0 * bs.getD j 0)) := rfl
    rw [ea, ← e, rngL_succ]
    conv => lhs; unfold forF
    have ei : ((i : Int) + (j : Int)) = ((i + j : Nat) : Int) := by omega
    have hk : i + j < xs.length := by omega
    have hix := ixD_loc (S := S ++ [xs.map .int]) get_append (getI hk)
    have hset := setD_loc (S := S ++ [xs.map .int]) (v := .int (xs.getD (i + j) 0 + as.getD i 0 * bs.getD j 0)) get_append (by rw [List.length_map]; exact hk) rfl
    rw [set_append, setI] at hset
    have ia := (isL_lst (S ++ [xs.map .int]) _).ix (getI hi)
    have ib := (isL_lst (S ++ [xs.map .int]) _).ix (getI hjb)
    have hmm := bin_mul (as.getD i 0) (bs.getD j 0) (S ++ [xs.map .int]) (hm _ (getD_mem hi) _ (getD_mem hjb))
    rw [show ((j + 1 : Nat) : Int) = (j : Int) + 1 from rfl]
    unfold addAtI
    generalize xs.getD (i + j) 0 = xv at *
    generalize as.getD i 0 = av at *
    generalize bs.getD j 0 = bv at *
    simp only [still_nil, if_true, evT_nm, bind_okS, List.set_cons_succ, List.set_cons_zero, tinner, evB_cons, evB_nil, evS_asg, ev_bin, ev_ix, ev_var, getR, List.getElem?_cons_succ, List.getElem?_cons_zero, bin_add, ei, hix, ia, ib, hmm, evT_sub, hset, thenB_nx]
theorem ltimes_out (n : Nat) {S : Store} (as bs : List Int) (hok : okR (bs.length : Int) = true) (hm : ∀ a ∈ as, ∀ b ∈ bs, okMul a b = true) (r0 r1 r5 r7 r9 : Option Dt) :
    ∀ (c i : Nat) (xs : List Int) (r3 r8 : Option Dt), i + c = as.length → as.length + bs.length ≤ xs.length + 1 →
      ∃ r3' r8', forF (evT cv (Phi n) (.nm 3)) (evB cv (Phi n) [.forr (.nm 8) (.rng1 (.blt .len [.var 6])) tinner]) [] (rngL i 1 c) [r0, r1, some (.loc S.length), r3, some (.lst (as.map .int)), r5, some (.lst (bs.map .int)), r7, r8, r9] (S ++ [xs.map .int])
        = .ok (.nx [r0, r1, some (.loc S.length), r3', some (.lst (as.map .int)), r5, some (.lst (bs.map .int)), r7, r8', r9]) (S ++ [(accOutI bs i (as.drop i) xs).map .int])
  | 0, i, xs, r3, r8, hj, hl => ⟨r3, r8, by rw [List.drop_eq_nil_of_le (by omega)]; rfl⟩
  | c + 1, i, xs, r3, r8, hj, hl => by
    have hi : i < as.length := by omega
    obtain ⟨r8', e1⟩ := ltimes_in n (S := S) as bs i hi hm r0 r1 r5 r7 r9 bs.length 0 xs r8 (by omega) (by omega)
    rw [List.drop_zero, Nat.add_zero] at e1
    obtain ⟨r3', r8'', e⟩ := ltimes_out n (S := S) as bs hok hm r0 r1 r5 r7 r9 c (i + 1) (accInI (as.getD i 0) i bs xs) (some (.int i)) r8' (by omega) (by rw [accInI_len]; omega)
    refine ⟨r3', r8'', ?_⟩
    rw [drop_cons (d := 0) hi]
    have ea : accOutI bs i (as.getD i 0 :: as.drop (i + 1)) xs = accOutI bs (i + 1) (as.drop (i + 1)) (accInI (as.getD i 0) i bs xs) := rfl
    rw [ea, ← e, rngL_succ]
    conv => lhs; unfold forF
    have hI : evI cv (Phi n) (.rng1 (.blt .len [.var 6])) [r0, r1, some (.loc S.length), some (.int i), some (.lst (as.map .int)), r5, some (.lst (bs.map .int)), r7, r8, r9] (S ++ [xs.map .int]) = .ok ⟨rngL 0 1 bs.length, []⟩ (S ++ [xs.map .int]) := by
      rw [evI_rng1_of (j := bs.length) (by simp [getR]) hok, rngL_map]
    rw [show ((i + 1 : Nat) : Int) = (i : Int) + 1 from rfl]
    rw [show ((0 : Nat) : Int) = 0 from rfl] at e1
    simp only [still_nil, if_true, evT_nm, bind_okS, List.set_cons_succ, List.set_cons_zero, evB_cons, evB_nil, evS_forr, hI, e1, thenB_nx]
theorem fr_sum {N D : Nat} (hD : 0 < D) {f : Nat → Rat} : ∀ n, (∀ j < n, Fr N D (f j)) → Fr (n * N) D (sm n f)
  | 0, _ => .zero
  | n + 1, h => by
    rw [Nat.add_mul, Nat.one_mul]
    exact (fr_sum hD n fun j hj => h j (by omega)).add (h n (by omega)) hD
theorem conv_fr {N D M E : Nat} {R1 R2 : Int × List Rat} (hD : 0 < D) (hE : 0 < E) (h1 : ∀ a ∈ R1.2, Fr N D a) (h2 : ∀ b ∈ R2.2, Fr M E b) (k : Int) : Fr (R1.2.length * (N * M)) (D * E) (conv R1 R2 k) :=
  fr_sum (Nat.mul_pos hD hE) _ fun j hj => ((FrA.get h1 j).mul (Fr.at h2 _))
theorem rd_ix1 {S : Store} (R : Int × List Rat) : ixD S (rd R) (.int 1) = .ok (.tup (R.2.map qd)) S := ixD_rd1 S R
theorem map_over {N D : Nat} {qs : List Rat} (hD : 0 < D) (h : ∀ a ∈ qs, Fr N D a) : (qs.map (over_ (lcmL 1 qs))).map (fun b => Rat.divInt b (lcmL 1 qs)) = qs := by
  rw [List.map_map]
  refine (List.map_congr_left fun q hq => ?_).trans (List.map_id _)
  have hd := (lcmL_dvd (qs := qs) (u := 1)).2 q hq
  have hu : lcmL 1 qs ∣ D := lcmL_least (Nat.one_dvd _) fun q hq => ((h q hq).den hD).1
  exact (over_eq' hd (Nat.pos_of_dvd_of_pos hu hD)).symm
theorem run_ltimes (n : Nat) {N D M E : Nat} (R1 R2 : Int × List Rat) (S : Store) (n1 : Nf R1) (n2 : Nf R2) (hD : 0 < D) (hE : 0 < E) (h1 : ∀ a ∈ R1.2, Fr N D a) (h2 : ∀ b ∈ R2.2, Fr M E b)
    (hN : Sz 4000 (N : Nat)) (hM : Sz 4000 (M : Nat)) (sD : Sz 4000 (D : Nat)) (sE : Sz 4000 (E : Nat)) (l1 : R1.2.length < 1000) (l2 : R2.2.length < 1000) :
    ∃ R, callR (Phi (n + 3)) i_law_times [rd R1, rd R2] S = .ok (rd R) S ∧ Nf R ∧ (∀ k, val R k = conv R1 R2 k) := by
  have hrun := phiR (n + 2) (m := n + 3) rfl (k := i_law_times) (f := f_law_times) rfl [rd R1, rd R2] S rfl
  have t1 := eq_tups S false R1.2 []
  have t2 := eq_tups S false R2.2 []
  rw [List.map_nil] at t1 t2
  by_cases e1 : R1.2 = []
  · refine ⟨(0, []), ?_, nf_nought, fun k => by rw [conv_nil1 e1]; unfold val; split <;> rfl⟩
    refine callR_pure ?_ (rd_nl _)
    rw [hrun]
    rw [decide_eq_true e1] at t1
    simp [f_law_times, getR, t1]
    rfl
  · by_cases e2 : R2.2 = []
    · refine ⟨(0, []), ?_, nf_nought, fun k => by rw [conv_nil2 e2]; unfold val; split <;> rfl⟩
      refine callR_pure ?_ (rd_nl _)
      rw [hrun]
      rw [decide_eq_false e1] at t1
      rw [decide_eq_true e2] at t2
      simp [f_law_times, getR, t1, t2]
      rfl
    · rw [decide_eq_false e1] at t1
      rw [decide_eq_false e2] at t2
      have p1 : 0 < R1.2.length := List.length_pos_iff.mpr e1
      have p2 : 0 < R2.2.length := List.length_pos_iff.mpr e2
      have sz1 : ∀ q ∈ R1.2, Sz 4000 q.num := fun q hq => ((h1 q hq).sz hD hN sD).1
      have sz2 : ∀ q ∈ R2.2, Sz 4000 q.num := fun q hq => ((h2 q hq).sz hE hM sE).1
      have d1 : ∀ q ∈ R1.2, q.den ∣ D := fun q hq => ((h1 q hq).den hD).1
      have d2 : ∀ q ∈ R2.2, q.den ∣ E := fun q hq => ((h2 q hq).den hE).1
      have i1 := callR_pure (run_lints n (.tup (R1.2.map qd)) R1.2 S D hD sD rfl d1 sz1 (by omega))
      have i2 := callR_pure (run_lints n (.tup (R2.2.map qd)) R2.2 S E hE sE rfl d2 sz2 (by omega))
      obtain ⟨u, hu⟩ : ∃ u, u = lcmL 1 R1.2 := ⟨_, rfl⟩
      obtain ⟨v, hv⟩ : ∃ v, v = lcmL 1 R2.2 := ⟨_, rfl⟩
      have ud : u ∣ D := hu ▸ lcmL_least (Nat.one_dvd _) d1
      have vd : v ∣ E := hv ▸ lcmL_least (Nat.one_dvd _) d2
      have up : 0 < u := Nat.pos_of_dvd_of_pos ud hD
      have vp : 0 < v := Nat.pos_of_dvd_of_pos vd hE
      have m1 := map_over hD h1
      have m2 := map_over hE h2
      rw [← hu] at i1 m1
      rw [← hv] at i2 m2
      have b1 : ∀ a ∈ R1.2.map (over_ u), Sz 4000 a := fun a ha => by
        obtain ⟨q, hq, rfl⟩ := List.mem_map.mp ha
        exact hN.of_le (by rw [Int.natAbs_natCast]; exact over_le (h1 q hq) hD ud)
      have b2 : ∀ a ∈ R2.2.map (over_ v), Sz 4000 a := fun a ha => by
        obtain ⟨q, hq, rfl⟩ := List.mem_map.mp ha
        exact hM.of_le (by rw [Int.natAbs_natCast]; exact over_le (h2 q hq) hE vd)
      have lA : (R1.2.map (over_ u)).length = R1.2.length := List.length_map ..
      have lB : (R2.2.map (over_ v)).length = R2.2.length := List.length_map ..
      have szu : Sz 4000 (u : Nat) := sD.of_le (by rw [Int.natAbs_natCast, Int.natAbs_natCast]; exact Nat.le_of_dvd hD ud)
      have szv : Sz 4000 (v : Nat) := sE.of_le (by rw [Int.natAbs_natCast, Int.natAbs_natCast]; exact Nat.le_of_dvd hE vd)
      generalize R1.2.map (over_ u) = as at *
      generalize R2.2.map (over_ v) = bs at *
      have nlI : ∀ l : List Int, nlAll (l.map Dt.int) = true := fun l => by
        induction l with
        | nil => rfl
        | cons a l ih => show (true && nlAll (l.map Dt.int)) = true; rw [ih]; rfl
      have nlT : ∀ (l : List Int) (i : Int), (Dt.tup [.lst (l.map Dt.int), .int i]).nl = true := fun l i => by
        show (nlAll (l.map Dt.int) && (true && true)) = true
        rw [nlI]; rfl
      have i1 := i1 (nlT _ _)
      have i2 := i2 (nlT _ _)
      obtain ⟨L, hL⟩ : ∃ L, L = as.length + bs.length - 1 := ⟨_, rfl⟩
      have hok1 : okR (as.length : Int) = true := okR_small (by omega)
      have hok2 : okR (bs.length : Int) = true := okR_small (by omega)
      obtain ⟨r3, r8, e⟩ := ltimes_out (n + 2) (S := S) as bs hok2 (fun a ha b hb => okMul_of ((b1 a ha).mono (by omega)) ((b2 b hb).mono (by omega))) (some (rd R1)) (some (rd R2)) (some (.int u)) (some (.int v)) none as.length 0 (List.replicate L 0) none none (by omega) (by rw [List.length_replicate]; omega)
      rw [List.drop_zero, ← rfl (a := (0 : Int))] at e
      obtain ⟨acc, hacc⟩ : ∃ acc, acc = accOutI bs 0 as (List.replicate L 0) := ⟨_, rfl⟩
      rw [← hacc] at e
      have alen : acc.length = L := by rw [hacc, accOutI_len, List.length_replicate]
      have amap : acc.map (fun z => Rat.divInt z ((u * v : Nat) : Int)) = accOut R2.2 0 R1.2 (List.replicate L 0) := by
        rw [hacc, accOut_map up vp bs as 0 _ (by rw [List.length_replicate]; omega), m1, m2, List.map_replicate, Rat.zero_divInt]
      obtain ⟨S2, hS2⟩ : ∃ S2, S2 = S ++ [acc.map Dt.int] := ⟨_, rfl⟩
      obtain ⟨R, g1, g2, g3, _, _⟩ := run_trim (n + 1) (R1.1 + R2.1) (.lst ((acc.map fun z => Rat.divInt z ((u * v : Nat) : Int)).map qd)) (acc.map fun z => Rat.divInt z ((u * v : Nat) : Int)) S2 (isL_lst _ _) (by rw [List.length_map, alen]; exact okR_small (by omega)) (by rw [List.length_map, alen]; omega)
      refine ⟨R, ?_, g2, fun k => by rw [g3, amap, hL, lA, lB, conv_acc e1 e2]⟩
      have hrep : repK (.lst [.int 0]) (.int (L : Int)) S = .ok (.lst ((List.replicate L (0 : Int)).map .int)) S := by rw [List.map_replicate]; exact rep_zero (.int 0) S (by omega)
      have hth : thawK (.lst ((List.replicate L (0 : Int)).map .int)) S = .ok (.loc S.length) (S ++ [(List.replicate L (0 : Int)).map .int]) := by
        unfold thawK
        simp only [nlI, if_true]
      have eL : ((as.length : Int) + (bs.length : Int)) - 1 = (L : Int) := by omega
      refine callR_ext (T := [acc.map Dt.int]) ?_ (rd_nl _)
      rw [hrun, ← hS2]
      have hr0 : (List.map some [rd R1, rd R2] ++ List.replicate (f_law_times.sz - f_law_times.ar) none) = [some (rd R1), some (rd R2), none, none, none, none, none, none, none, none] := rfl
      rw [hr0]
      have huv : okMul (u : Int) (v : Int) = true := okMul_of (szu.mono (by omega)) (szv.mono (by omega))
      have huvne : (u : Int) * (v : Int) ≠ 0 := Int.mul_ne_zero (by omega) (by omega)
      have huvs : Sz 9000 ((u : Int) * (v : Int)) := (szu.mul szv).mono (by omega)
      have hcomp : compK [9] (evI cv (Phi (n + 2)) (.seq (.var 2))) (evT cv (Phi (n + 2)) (.nm 9)) (evC cv (Phi (n + 2)) []) (evE cv (Phi (n + 2)) (.call i_law_low [.var 9, .bin .mul (.var 5) (.var 7)])) [some (rd R1), some (rd R2), some (.loc S.length), r3, some (.lst (as.map .int)), some (.int u), some (.lst (bs.map .int)), some (.int v), r8, none] S2
          = .ok (.lst ((acc.map fun z => Rat.divInt z ((u * v : Nat) : Int)).map qd)) S2 := by
        rw [List.map_map]
        have hlc : IsL S2 (.loc S.length) (acc.map Dt.int) := isL_loc (by rw [hS2]; exact get_append)
        refine comp_map (src := srcOf (.loc S.length) (acc.map Dt.int)) Dt.int (fun z => qd (Rat.divInt z ((u * v : Nat) : Int))) ?_ (by omega) (still_loc hlc) fun z hz => ?_
        · simp only [evI_seq, ev_var, getR, List.getElem?_cons_succ, List.getElem?_cons_zero, bind_okS, hlc.seqK]
        · have hlow := callR_pure (run_low n z ((u : Int) * (v : Int)) S2 huvne huvs) (qd_nl _)
          have hmm := bin_mul _ _ S2 huv
          rw [Int.natCast_mul]
          simp [getR, hmm, hlow]
      have s1 : evS cv (Phi (n + 2)) (.iff (.or_ (.eq false (.ix (.var 0) (.int 1)) (.tup [])) (.eq false (.ix (.var 1) (.int 1)) (.tup []))) [.ret (.tup [.int 0, .tup []])] []) [some (rd R1), some (rd R2), none, none, none, none, none, none, none, none] S = .ok (.nx [some (rd R1), some (rd R2), none, none, none, none, none, none, none, none]) S := by
        simp [getR, t1, t2]
      have s2 : evS cv (Phi (n + 2)) (.asg (.tup [.nm 4, .nm 5]) (.call i_law_ints [.ix (.var 0) (.int 1)])) [some (rd R1), some (rd R2), none, none, none, none, none, none, none, none] S = .ok (.nx [some (rd R1), some (rd R2), none, none, some (.lst (as.map .int)), some (.int u), none, none, none, none]) S := by
        simp [getR, i1]
      have s3 : evS cv (Phi (n + 2)) (.asg (.tup [.nm 6, .nm 7]) (.call i_law_ints [.ix (.var 1) (.int 1)])) [some (rd R1), some (rd R2), none, none, some (.lst (as.map .int)), some (.int u), none, none, none, none] S = .ok (.nx [some (rd R1), some (rd R2), none, none, some (.lst (as.map .int)), some (.int u), some (.lst (bs.map .int)), some (.int v), none, none]) S := by
        simp [getR, i2]
      have s4 : evS cv (Phi (n + 2)) (.asg (.nm 2) (.thaw (.rep (.lst [.int 0]) (.bin .sub (.bin .add (.blt .len [.var 4]) (.blt .len [.var 6])) (.int 1))))) [some (rd R1), some (rd R2), none, none, some (.lst (as.map .int)), some (.int u), some (.lst (bs.map .int)), some (.int v), none, none] S
          = .ok (.nx [some (rd R1), some (rd R2), some (.loc S.length), none, some (.lst (as.map .int)), some (.int u), some (.lst (bs.map .int)), some (.int v), none, none]) (S ++ [(List.replicate L (0 : Int)).map .int]) := by
        simp [-List.map_replicate, getR, eL, hrep, hth]
      have s5 : evS cv (Phi (n + 2)) (.forr (.nm 3) (.rng1 (.blt .len [.var 4])) [.forr (.nm 8) (.rng1 (.blt .len [.var 6])) tinner]) [some (rd R1), some (rd R2), some (.loc S.length), none, some (.lst (as.map .int)), some (.int u), some (.lst (bs.map .int)), some (.int v), none, none] (S ++ [(List.replicate L (0 : Int)).map .int])
          = .ok (.nx [some (rd R1), some (rd R2), some (.loc S.length), r3, some (.lst (as.map .int)), some (.int u), some (.lst (bs.map .int)), some (.int v), r8, none]) S2 := by
        rw [evS_forr, evI_rng1_of (j := as.length) (by simp [getR]) hok1, bind_okS, ← rngL_map, hS2]
        exact e
      unfold f_law_times
      rw [evB_cons, s1, bind_okS, thenB_nx, evB_cons, s2, bind_okS, thenB_nx, evB_cons, s3, bind_okS, thenB_nx, evB_cons, s4, bind_okS, thenB_nx, evB_cons]
      have s5' := s5
      unfold tinner at s5'
      rw [s5', bind_okS, thenB_nx]
      have hr := callR_pure g1 (rd_nl _)
      simp only [evB_cons, evS_ret, ev_call, evL_cons, evL_nil, ev_bin, ev_ix, ev_int, ev_var, getR, List.getElem?_cons_zero, List.getElem?_cons_succ, ixD_rd0, bind_okS, bin_add, ev_comp, hcomp, hr, thenB_rt, endF_rt]
end K77
namespace K77
open PySem Pz
/-! ### the law's half, sum, auto, over -/
def ev2 (s : Nat) (qs : List Rat) : List Rat := (List.range ((qs.length - s + 1) / 2)).map fun m => qs.getD (s + 2 * m) 0
theorem fmap_all {α β : Type} {f : α → Option β} {g : α → β} : ∀ {l : List α}, (∀ x ∈ l, f x = some (g x)) → l.filterMap f = l.map g
  | [], _ => rfl
  | a :: l, h => by rw [List.filterMap_cons, h a List.mem_cons_self, List.map_cons, fmap_all fun x hx => h x (List.mem_cons_of_mem _ hx)]
theorem pickT_two (s : Nat) (hs : s ≤ 1) (qs : List Rat) : pickT (qs.map qd) (some (s : Int)) none 2 = (ev2 s qs).map qd := by
  unfold pickT ev2 Builtin.Slice.sliceAdjust Builtin.Slice.slicePlaces
  have h1 : ¬ ((2 : Int) < 0) := by omega
  have h2 : (2 : Int) > 0 := by omega
  have h3 : ¬ ((s : Int) < 0) := by omega
  simp only [if_neg h1, if_pos h2, if_neg h3, List.length_map]
  rw [List.map_map]
  have e : (if min (s : Int) (qs.length : Int) < (qs.length : Int) then ((qs.length : Int) - min (s : Int) (qs.length : Int) - 1) / 2 + 1 else 0).toNat = (qs.length - s + 1) / 2 := by
    split <;> omega
  rw [e]
  refine fmap_all fun m hm => ?_
  have hm := List.mem_range.mp hm
  rw [show (min (s : Int) (qs.length : Int) + (m : Int) * 2).toNat = s + 2 * m by omega]
  exact getD_qd (by omega)
theorem ev2_val (qs : List Rat) (a p : Int) (k : Int) (f : Int) (hf : f = a + (a + p) % 2) : val ((f - p) / 2, ev2 (f - a).toNat qs) k = val (a, qs) (2 * k + p) := by
  have h01 : (a + p) % 2 = 0 ∨ (a + p) % 2 = 1 := by omega
  unfold val ev2
  dsimp only
  by_cases h1 : (f - p) / 2 ≤ k
  · rw [if_pos h1, if_pos (by omega)]
    by_cases h2 : (k - (f - p) / 2).toNat < (qs.length - (f - a).toNat + 1) / 2
    · rw [getD_of (a := qs.getD ((f - a).toNat + 2 * (k - (f - p) / 2).toNat) 0) (by rw [List.getElem?_map, List.getElem?_range h2]; rfl)]
      rw [show (f - a).toNat + 2 * (k - (f - p) / 2).toNat = (2 * k + p - a).toNat by omega]
    · rw [getD_big (by rw [List.length_map, List.length_range]; omega), getD_big (by omega)]
  · rw [if_neg h1]
    split
    · omega
    · rfl
theorem ev2_mem {s : Nat} {qs : List Rat} {q : Rat} (h : q ∈ ev2 s qs) : q = 0 ∨ q ∈ qs := by
  unfold ev2 at h
  obtain ⟨m, _, rfl⟩ := List.mem_map.mp h
  by_cases hl : s + 2 * m < qs.length
  · exact .inr (getD_mem hl)
  · exact .inl (getD_big (by omega))
theorem fmod2 (i : Int) : Int.fmod i 2 = i % 2 := Int.fmod_eq_emod_of_nonneg _ (by omega)
theorem slk_two {S : Store} (s : Nat) (hs : s ≤ 1) (qs : List Rat) (hl : qs.length ≤ 1000000) : slkK 2 (.tup (qs.map qd)) (some (s : Int)) none S = .ok (.tup ((ev2 s qs).map qd)) S := by
  unfold slkK
  have h1 : decide ((2 : Int) ≠ 0 ∧ (2 : Int) ≠ 1) = true := by decide
  have h2 : okLen (pickT (qs.map qd) (some (s : Int)) none 2).length = true := by
    rw [pickT_two s hs, List.length_map]; unfold ev2; rw [List.length_map, List.length_range]; exact okLen_of (by omega)
  rw [if_pos h1]
  show (if okLen (pickT (qs.map qd) (some (s : Int)) none 2).length = true then Res.ok (Dt.tup (pickT (qs.map qd) (some (s : Int)) none 2)) S else .bad) = _
  rw [if_pos h2, pickT_two s hs]
theorem run_lhalf (n : Nat) (R : Int × List Rat) (p : Int) (S : Store) (hl : R.2.length ≤ 900000) :
    ∃ R', Phi (n + 2) i_law_half [rd R, .int p] S = .ok (rd R') S ∧ Nf R' ∧ (∀ k, val R' k = val R (2 * k + p)) ∧ (∀ q ∈ R'.2, q ∈ R.2 ∨ q = 0) := by
  obtain ⟨f, hf⟩ : ∃ f, f = R.1 + (R.1 + p) % 2 := ⟨_, rfl⟩
  obtain ⟨s, hs⟩ : ∃ s : Nat, s = (f - R.1).toNat := ⟨_, rfl⟩
  have hle : (ev2 s R.2).length ≤ 900000 := by unfold ev2; rw [List.length_map, List.length_range]; omega
  obtain ⟨R', e1, e2, e3, e4, e5⟩ := run_trim n ((f - p) / 2) (.lst ((ev2 s R.2).map qd)) (ev2 s R.2) S (isL_lst _ _) (okR_small (by omega)) (by omega)
  refine ⟨R', ?_, e2, fun k => by rw [e3, hs, ev2_val _ _ _ _ _ hf], fun q hq => (ev2_mem (e5 q hq)).symm⟩
  rw [phiR (n + 1) rfl (f := f_law_half) rfl _ S rfl]
  have hr := callR_pure e1 (rd_nl _)
  have hm : binD S .mod (.int (R.1 + p)) (.int 2) = .ok (.int ((R.1 + p) % 2)) S := by rw [bin_mod _ _ _ (by omega), fmod2]
  have hd : binD S .fdiv (.int (f - p)) (.int 2) = .ok (.int ((f - p) / 2)) S := by
    rw [bin_fdiv _ _ _ (okDiv_of (by omega) (show (2 : Int).natAbs < 2 ^ 9000 from Nat.lt_of_lt_of_le (show 2 < 2 ^ 2 by decide) (Nat.pow_le_pow_right (by omega) (by omega)))), fdiv2]
  have hsl := slk_two (S := S) s (by omega) R.2 (by omega)
  have es : f - R.1 = (s : Int) := by omega
  have hl2 : listK (.tup ((ev2 s R.2).map qd)) S = .ok (.lst ((ev2 s R.2).map qd)) S := rfl
  obtain ⟨d', hd'⟩ : ∃ d', d' = rd R' := ⟨_, rfl⟩
  rw [← hd'] at hr ⊢
  simp [f_law_half, getR, rd, hm, ← hf, hd, es, IEx.isAbs, partK, hsl, hl2, hr]
theorem val_mem2 {R : Int × List Rat} {k : Int} : val R k = 0 ∨ val R k ∈ R.2 := by
  by_cases h : val R k = 0
  · exact .inl h
  · exact .inr (val_mem h)
theorem sm_zero0 : Sm 0 := ⟨by show Int.natAbs _ < _; exact Nat.pow_pos (by omega), by show Int.natAbs _ < _; exact Nat.one_lt_two_pow (by omega)⟩
theorem AllSm.at {R : Int × List Rat} (h : AllSm R.2) (k : Int) : Sm (val R k) := by
  rcases val_mem2 (R := R) (k := k) with e | e
  · rw [e]; exact sm_zero0
  · exact h _ e
end K77
namespace K77
open PySem Pz
/-! ### auto and over -/
section
variable {M : Int × List Rat} {m : Int → Rat} {A : Int → Int} {E w : Nat}
theorem qv_int (h : Mok m A E 3600 w) (j : Int) : qv m j = Rat.divInt (aq A j) ((E * E : Nat) : Int) := by
  unfold qv aq
  rw [Rat.divInt_eq_div, ← sm_int, Rat.div_def, ← sm_mul]
  refine sm_congr fun i _ => ?_
  rw [h.hA, h.hA, Rat.divInt_mul_divInt, Rat.divInt_eq_div, Rat.div_def, Int.natCast_mul]
theorem sN_const {c : Nat} : ∀ n, sN n (fun _ => c) = n * c
  | 0 => (Nat.zero_mul c).symm
  | n + 1 => by show sN n _ + c = _; rw [sN_const n, Nat.add_mul, Nat.one_mul]
theorem aq_le2 (h : Mok m A E 3600 w) (j : Int) : (aq A j).natAbs ≤ 7 * (3600 * 3600) := by
  unfold aq
  refine Nat.le_trans (sI_abs _ _) ?_
  rw [← sN_const]
  refine sN_le fun i _ => ?_
  rw [Int.natAbs_mul]
  exact Nat.mul_le_mul (h.wk.le _) (h.wk.le _)
theorem qv_fr (h : Mok m A E 3600 w) (j : Int) : Fr (7 * (3600 * 3600)) (E * E) (qv m j) := ⟨aq A j, qv_int h j, aq_le2 h j⟩
theorem half_fr : Fr 1 2 (Rat.divInt 1 2) := ⟨1, rfl, by decide⟩
/-- half the size row -/
def Auto (m : Int → Rat) (Q : Int × List Rat) : Prop := Nf Q ∧ ∀ k, val Q k = qv m k * Rat.divInt 1 2
theorem EE_le (h : Msk M m A E w) : E * E ≤ 57600 := Nat.le_trans (Nat.mul_le_mul h.E2 h.E2) (by decide)
theorem auto_fr (h : Msk M m A E w) {Q : Int × List Rat} (hQ : Auto m Q) : ∀ q ∈ Q.2, Fr (7 * (3600 * 3600) * 1) (E * E * 2) q := fun q hq => by
  obtain ⟨k, rfl⟩ := mem_val hq
  rw [hQ.2]; exact (qv_fr h.ok k).mul half_fr
theorem auto_len (h : Msk M m A E w) {Q : Int × List Rat} (hQ : Auto m Q) : Q.2.length ≤ 13 := by
  have h7 := h.ok.w7
  have hin : In (-6) 7 Q := fun k hk => by
    rw [hQ.2] at hk
    have := qv_in h.ok.supp (mul_ne hk).1
    omega
  rcases hin.start hQ.1 with e | e
  · rw [e]; simp
  · omega
theorem conv_back (h : Msk M m A E w) (k : Int) : conv M (back M) k = qv m k := by
  have h7 := h.ok.w7
  have hin : In 0 (0 + (7 : Nat)) M := fun i hi => by rw [h.vl] at hi; have := h.ok.supp i hi; omega
  rw [conv_win hin h.nf]
  unfold qv
  refine sm_congr fun i hi => ?_
  rw [h.vl, back_val, h.vl, show 0 + (i : Int) = i by omega, show -(k - 0 - (i : Int)) = (i : Int) - k by omega]
theorem run_lauto (h : Msk M m A E w) (n : Nat) (S : Store) : ∃ Q, Phi (n + 5) i_law_auto [rd M] S = .ok (rd Q) S ∧ Auto m Q := by
  have hlen := h.len
  have h7 := h.ok.w7
  have hE2 := h.E2
  have hEp := h.ok.hE
  have sE : Sz 4000 (E : Nat) := (sz_of (n := 12) (by omega)).mono (by omega)
  have sN : Sz 4000 ((3600 : Nat) : Int) := (sz_of (n := 12) (by decide)).mono (by omega)
  have hb := back_len M
  obtain ⟨P, e1, e2, e3⟩ := run_ltimes (n + 1) M (back M) S h.nf (back_nf h.nf) hEp hEp (fun a ha => (h.num a ha).1) (fun b hb => (h.num b (back_mem hb)).1) sN sN sE sE (by omega) (by omega)
  have hPv : ∀ k, val P k = qv m k := fun k => by rw [e3, conv_back h]
  have hPin : In (-6) 7 P := fun k hk => by
    rw [hPv] at hk
    have := qv_in h.ok.supp hk
    omega
  have hPl : P.2.length ≤ 13 := by
    rcases hPin.start e2 with e | e
    · rw [e]; simp
    · omega
  have hEE := EE_le h
  have hPs : AllSm P.2 := fun q hq => by
    obtain ⟨k, rfl⟩ := mem_val hq
    rw [hPv]
    exact (qv_fr h.ok k).sm (Nat.mul_pos hEp hEp) ((sz_of (n := 40) (by decide)).mono (by omega)) ((sz_of (n := 40) (by omega)).mono (by omega))
  have sh : Sm (Rat.divInt 1 2) := half_fr.sm (by omega) ((sz_of (n := 2) (by decide)).mono (by omega)) ((sz_of (n := 2) (by decide)).mono (by omega))
  obtain ⟨Q, q1, q2, q3, _⟩ := run_lscaled n P (Rat.divInt 1 2) S hPs sh (okR_small (by omega)) (by omega)
  refine ⟨Q, ?_, q2, fun k => by rw [q3, hPv]⟩
  rw [phiR (n + 4) rfl (f := f_law_auto) rfl _ S rfl]
  have c1 := callR_pure (run_lround (n + 3) M S (by omega)) (rd_nl _)
  have c3 := callR_pure q1 (rd_nl _)
  have hh : qd (Rat.divInt 1 2) = .tup [.int 1, .int 2] := rfl
  rw [hh] at c3
  simp [f_law_auto, getR, c1, e1, c3]
/-- the even part of half the size row times a row -/
theorem lover_core (h : Msk M m A E w) (n : Nat) {k : Nat} (hk : k ≤ 6) (S : Store) (Q W : Int × List Rat) (hQ : Auto m Q) (nW : Nf W) (hW : ∀ p, val W p = itx m k p) :
    ∃ P T, callR (Phi (n + 3)) i_law_times [rd Q, rd W] S = .ok (rd P) S ∧ callR (Phi (n + 3)) i_law_half [rd P, .int 0] S = .ok (rd T) S ∧ Nf T ∧ ∀ p, val T p = itx m (k + 1) p := by
  have hEE := EE_le h
  have hEp := h.ok.hE
  have hn := szN (show k ≤ 7 by omega)
  have hql := auto_len h hQ
  obtain ⟨p1, p2, p3⟩ := row_place h nW hW
  obtain ⟨P, e1, e2, e3⟩ := run_ltimes n Q W S hQ.1 nW (Nat.mul_pos (Nat.mul_pos hEp hEp) (by omega)) (Dm_pos hEp k) (auto_fr h hQ) (row_fr h hW) ((sz_of (n := 40) (by decide)).mono (by omega)) ((sz_of hn).mono (by omega)) ((sz_of (n := 40) (by omega)).mono (by omega))
    ((sz_of (Nat.lt_of_le_of_lt (Dm_le h.ok k) hn)).mono (by omega)) (by omega) (by omega)
  have h7 := h.ok.w7
  have hPl : P.2.length ≤ 30 := by
    have hin : In (-14) 15 P := fun j hj => by
      rw [e3] at hj
      rw [conv_win2 (itx_in6 h hW)] at hj
      obtain ⟨t, ht, e⟩ := sm_ne hj
      obtain ⟨a1, a2⟩ := mul_ne e
      rw [hQ.2] at a1
      have := qv_in h.ok.supp (mul_ne a1).1
      omega
    rcases hin.start e2 with e | e
    · rw [e]; simp
    · omega
  obtain ⟨T, t1, t2, t3, _⟩ := run_lhalf (n + 1) P 0 S (by omega)
  refine ⟨P, T, e1, callR_pure t1 (rd_nl _), t2, fun p => ?_⟩
  rw [t3, e3, Int.add_zero, conv_win2 (itx_in6 h hW)]
  show _ = stepx m (itx m k) p
  unfold stepx
  rw [← sm_mul]
  refine sm_congr fun t ht => ?_
  rw [hQ.2, hW, show 2 * p - -6 - (t : Int) = 2 * p + 6 - (t : Int) by omega, show -6 + (t : Int) = (t : Int) - 6 by omega]
  rw [Rat.mul_assoc, Rat.mul_assoc, Rat.mul_comm (Rat.divInt 1 2)]
end
end K77
namespace K77
open PySem Pz
/-! ### sizes of the elimination's steps -/
theorem Bds.unsnoc : ∀ {bs : List (Nat × List Rat)} {us : List (Nat × Nat)} {b : Nat × List Rat}, Bds (bs ++ [b]) us → ∃ vs u, us = vs ++ [u] ∧ Bds bs vs ∧ FrA u.1 u.2 b.2 ∧ 0 < u.2
  | [], [], b, h => h.elim
  | [], [u], b, h => ⟨[], u, rfl, trivial, h.1, h.2.1⟩
  | [], u :: v :: us, b, h => h.2.2.elim
  | c :: bs, [], b, h => h.elim
  | c :: bs, u :: us, b, h => by
    obtain ⟨vs, v, rfl, h1, h2, h3⟩ := Bds.unsnoc h.2.2
    exact ⟨u :: vs, v, rfl, ⟨h.1, h.2.1, h1⟩, h2, h3⟩
theorem bas_take {x : Nat → Int → Rat} {w : Nat} {j k : Nat} (h : j ≤ k) : ∃ t, bas x w k = bas x w j ++ t := by
  induction k with
  | zero =>
    obtain rfl : j = 0 := by omega
    exact ⟨[], by simp⟩
  | succ k ih =>
    by_cases e : j = k + 1
    · subst e; exact ⟨[], by simp⟩
    · obtain ⟨t, ht⟩ := ih (by omega)
      exact ⟨t ++ [(pv x w k, ob x w k)], by rw [bas_succ, ht, List.append_assoc]⟩
section
variable {m : Int → Rat} {A : Int → Int} {E w : Nat}
theorem szT {a : Nat} (h : a ≤ topT) : Sz 4000 (a : Nat) := (sz_of (Nat.lt_of_le_of_lt h topT_lt)).mono (by omega)
theorem step_sm (h : Mok m A E 3600 w) {K k j : Nat} (hL : Live (itx m) w K) (hK : K ≤ 6) (hk : k ≤ K) (hj : j ≤ k) : AllSm (clr (vt (itx m) w k) (bas (itx m) w j)) ∧
    (j < K → j < k → (∀ q ∈ ob (itx m) w j, Sm ((clr (vt (itx m) w k) (bas (itx m) w j)).getD (pv (itx m) w j) 0 * q)) ∧ AllSm (ob (itx m) w j)) := by
  have hB := fun {i : Nat} (hi : i ≤ 6) => (Bb_le (N := Nm 3600) (D := Dm E) (fun k => Dm_pos h.hE k) hi)
  have mx : ∀ i, max (Nm 3600 i) (Dm E i) = Nm 3600 i := fun i => Nat.max_eq_left (Dm_le h i)
  have P6 : ∀ i, i ≤ k → Nm 3600 k * Pb (Nm 3600) (Dm E) i ≤ topT := fun i hi => by
    have h1 : Nm 3600 k * Pb (Nm 3600) (Dm E) i ≤ Bb (Nm 3600) (Dm E) k := by
      unfold Bb
      rw [mx]
      refine Nat.mul_le_mul_left _ ?_
      clear hj
      induction k with
      | zero => obtain rfl : i = 0 := by omega
                exact Nat.le_refl _
      | succ k ih =>
        by_cases e : i = k + 1
        · subst e; exact Nat.le_refl _
        · refine Nat.le_trans (ih (by omega) (by omega)) ?_
          exact Nat.le_mul_of_pos_right _ (Nat.mul_pos (by omega) (Nat.mul_pos (Nat.lt_of_lt_of_le (Dm_pos h.hE k) (Nat.le_max_right ..)) (Pb_pos (fun k => Dm_pos h.hE k) k)))
    have := (hB (show k ≤ 6 by omega)).1
    rw [Bb_top h] at this
    omega
  have bd := fun i (hi : i ≤ K) => bas_bds (N := Nm 3600) (D := Dm E) i (fun j hj => hL j (by omega)) fun j _ => ⟨vt_fr h j, Dm_pos h.hE j⟩
  constructor
  · obtain ⟨us, h1, h2, h3, h4⟩ := bd j (by omega)
    intro q hq
    refine ((clr_fr h1 (vt_fr h k) (Dm_pos h.hE k)) q hq).sm (Nat.mul_pos (Dm_pos h.hE k) (prodV_pos h1)) (szT (Nat.le_trans (Nat.mul_le_mul_left _ h2) (P6 j hj))) (szT (Nat.le_trans (Nat.mul_le_mul (Dm_le h k) h3) (P6 j hj)))
  · intro hjK hjk
    obtain ⟨us', h1, h2, h3, h4⟩ := bd (j + 1) (by omega)
    rw [bas_succ] at h1
    obtain ⟨us, u, rfl, g1, g2, g3⟩ := h1.unsnoc
    rw [prodU_snoc] at h2
    rw [prodV_snoc] at h3
    have p6 := P6 (j + 1) (by omega)
    have gU := prodU_pos g1
    have gV := prodV_pos g1
    have yfr := clr_fr g1 (vt_fr h k) (Dm_pos h.hE k)
    have l1 : Nm 3600 k * prodU us * u.1 ≤ topT := by
      rw [Nat.mul_assoc]
      exact Nat.le_trans (Nat.mul_le_mul_left _ (Nat.le_trans (Nat.mul_le_mul_left _ (Nat.le_add_left _ _)) h2)) p6
    have l2 : Dm E k * prodV us * u.2 ≤ topT := by
      rw [Nat.mul_assoc]
      exact Nat.le_trans (Nat.mul_le_mul (Dm_le h k) h3) p6
    refine ⟨fun q hq => ((yfr.get _).mul (g2 q hq)).sm (Nat.mul_pos (Nat.mul_pos (Dm_pos h.hE k) gV) g3) (szT l1) (szT l2), fun q hq => (g2 q hq).sm g3 (szT ?_) (szT ?_)⟩
    · exact Nat.le_trans (Nat.le_mul_of_pos_left _ (Nat.mul_pos (Nat.lt_of_lt_of_le (Dm_pos h.hE k) (Dm_le h k)) gU)) l1
    · exact Nat.le_trans (Nat.le_mul_of_pos_left _ (Nat.mul_pos (Dm_pos h.hE k) gV)) l2
theorem inv_sm {q : Rat} (h : Sm q) (h0 : q ≠ 0) : Sm (1 / q) := by
  have hn := num_ne h0
  have e1 : Fr q.den q.den (1 : Rat) := ⟨q.den, by rw [Rat.divInt_self' (den_ne q)], by simp⟩
  have e2 := e1.div hn q.den_pos
  rw [divInt_self'] at e2
  exact e2.sm (Int.natAbs_pos.mpr hn) h.2 (h.1.of_le (by simp))
end
/-! ### the law's least polynomial -/
def wz (w : Nat) (y : List Rat) : List Rat := (List.range 9).map fun p => if p < w then y.getD p 0 else 0
def mx (w k : Nat) (y : List Rat) : List Rat := (List.range (k + 1)).map fun i => y.getD (w + i) 0
theorem wz_get {w : Nat} {y : List Rat} {p : Nat} (h : p < w) (h9 : p < 9) : (wz w y).getD p 0 = y.getD p 0 := by
  refine getD_of ?_
  unfold wz
  rw [List.getElem?_map, List.getElem?_range h9]
  show some (if p < w then y.getD p 0 else 0) = _
  rw [if_pos h]
theorem mx_get {w k : Nat} {y : List Rat} {i : Nat} (h : i < k + 1) : (mx w k y).getD i 0 = y.getD (w + i) 0 := by
  refine getD_of ?_
  unfold mx
  rw [List.getElem?_map, List.getElem?_range h]; rfl
theorem mx_len {w k : Nat} {y : List Rat} : (mx w k y).length = k + 1 := by unfold mx; rw [List.length_map, List.length_range]
theorem wz_len {w : Nat} {y : List Rat} : (wz w y).length = 9 := by unfold wz; rw [List.length_map, List.length_range]
theorem wz_sm {w : Nat} {y : List Rat} (h : AllSm y) : AllSm (wz w y) := fun q hq => by
  unfold wz at hq
  obtain ⟨p, _, rfl⟩ := List.mem_map.mp hq
  split
  · by_cases hp : p < y.length
    · exact h _ (getD_mem hp)
    · rw [getD_big (by omega)]; exact sm_zero0
  · exact sm_zero0
theorem mx_sm {w k : Nat} {y : List Rat} (h : AllSm y) : AllSm (mx w k y) := fun q hq => by
  unfold mx at hq
  obtain ⟨p, _, rfl⟩ := List.mem_map.mp hq
  by_cases hp : w + p < y.length
  · exact h _ (getD_mem hp)
  · rw [getD_big (by omega)]; exact sm_zero0
def encL (x : Nat → Int → Rat) (w j : Nat) : Dt := .tup [.int (pv x w j), .lst ((wz w (ob x w j)).map qd), .lst ((mx w j (ob x w j)).map qd)]
def lbody : List ISt := [
      .asg (.nm 6) (.ix (.var 7) (.var 9)),
      .iff (.eq true (.ix (.var 6) (.int 0)) (.int 0)) [
        .asg (.nm 7) (.comp [12] (.nm 12) (.rng1 (.int 9)) [] (.call i_law_minus [.ix (.var 7) (.var 12), .call i_law_prod [.var 6, .ix (.var 10) (.var 12)]])),
        .asg (.nm 8) (.comp [12] (.nm 12) (.rng1 (.bin .add (.var 1) (.int 1))) [] (.ite (.cmp .lt (.var 12) (.blt .len [.var 11])) (.call i_law_minus [.ix (.var 8) (.var 12), .call i_law_prod [.var 6, .ix (.var 11) (.var 12)]]) (.ix (.var 8) (.var 12))))] []]
theorem okR9 : okR ((9 : Nat) : Int) = true := okR_small (by omega)
theorem okR9' : okR (9 : Int) = true := okR9
theorem at_sm {y : List Rat} (h : AllSm y) (i : Nat) : Sm (y.getD i 0) := by
  by_cases hp : i < y.length
  · exact h _ (getD_mem hp)
  · rw [getD_big (by omega)]; exact sm_zero0
theorem wire_comp (n : Nat) (S : Store) (w : Nat) (f : Rat) (y b : List Rat) (hlen : b.length = y.length) (hy : AllSm y) (hf : Sm f) (hb : AllSm b) (hp : ∀ q ∈ b, Sm (f * q)) (r0 r1 r2 r3 r4 r5 r8 r9 r11 r12 r13 : Option Dt) :
    evE cv (Phi (n + 3)) (.comp [12] (.nm 12) (.rng1 (.int 9)) [] (.call i_law_minus [.ix (.var 7) (.var 12), .call i_law_prod [.var 6, .ix (.var 10) (.var 12)]])) [r0, r1, r2, r3, r4, r5, some (qd f), some (.lst ((wz w y).map qd)), r8, r9, some (.lst ((wz w b).map qd)), r11, r12, r13] S
      = .ok (.lst ((wz w (less f y b)).map qd)) S := by
  rw [ev_comp]
  conv => rhs; unfold wz
  rw [List.map_map]
  refine comp_map (src := []) (fun p : Nat => .int (p : Int)) (fun p : Nat => qd (if p < w then (less f y b).getD p 0 else 0)) (evI_rng1_of (j := 9) (by simp) okR9) (by rw [List.length_range]; omega) rfl fun p hpm => ?_
  have h9 := List.mem_range.mp hpm
  have i1 := (isL_lst S _).ix (getD_qd (xs := wz w y) (k := p) (by rw [wz_len]; exact h9))
  have i2 := (isL_lst S _).ix (getD_qd (xs := wz w b) (k := p) (by rw [wz_len]; exact h9))
  have hfb : Sm (f * (wz w b).getD p 0) := by
    have : (wz w b).getD p 0 = 0 ∨ (wz w b).getD p 0 ∈ b := by
      by_cases hw : p < w
      · rw [wz_get hw h9]
        by_cases hl : p < b.length
        · exact .inr (getD_mem hl)
        · exact .inl (getD_big (by omega))
      · left
        refine getD_of ?_
        unfold wz
        rw [List.getElem?_map, List.getElem?_range h9]
        show some (if p < w then b.getD p 0 else 0) = _
        rw [if_neg hw]
    rcases this with e | e
    · rw [e, Rat.mul_zero]; exact sm_zero0
    · exact hp _ e
  have c1 := callR_pure (run_lprod n f ((wz w b).getD p 0) S hf (at_sm (wz_sm hb) p)) (qd_nl _)
  have c2 := callR_pure (run_lminus n ((wz w y).getD p 0) (f * (wz w b).getD p 0) S (at_sm (wz_sm hy) p) hfb) (qd_nl _)
  have ev : (if p < w then (less f y b).getD p 0 else 0) = (wz w y).getD p 0 - f * (wz w b).getD p 0 := by
    by_cases hw : p < w
    · rw [if_pos hw, wz_get hw h9, wz_get hw h9, less_get hlen.symm]
    · have z : ∀ c : List Rat, (wz w c).getD p 0 = 0 := fun c => by
        refine getD_of ?_
        unfold wz
        rw [List.getElem?_map, List.getElem?_range h9]
        show some (if p < w then c.getD p 0 else 0) = _
        rw [if_neg hw]
      rw [if_neg hw, z, z, Rat.mul_zero, Rat.sub_self]
  rw [ev]
  generalize (wz w y).getD p 0 = v1 at *
  generalize (wz w b).getD p 0 = v2 at *
  simp [getR, i1, i2, c1, c2]
theorem mix_comp (n : Nat) (S : Store) (w k j : Nat) (hjk : j < k) (hok : okR ((k + 1 : Nat) : Int) = true) (hk : k + 1 ≤ 1000000) (f : Rat) (y b : List Rat) (hlen : b.length = y.length) (hy : AllSm y) (hf : Sm f) (hb : AllSm b) (hp : ∀ q ∈ b, Sm (f * q)) (ht : ∀ i, j < i → i ≤ k → b.getD (w + i) 0 = 0) (r0 r2 r3 r4 r5 r7 r9 r10 r12 r13 : Option Dt) :
    evE cv (Phi (n + 3)) (.comp [12] (.nm 12) (.rng1 (.bin .add (.var 1) (.int 1))) [] (.ite (.cmp .lt (.var 12) (.blt .len [.var 11])) (.call i_law_minus [.ix (.var 8) (.var 12), .call i_law_prod [.var 6, .ix (.var 11) (.var 12)]]) (.ix (.var 8) (.var 12)))) [r0, some (.int k), r2, r3, r4, r5, some (qd f), r7, some (.lst ((mx w k y).map qd)), r9, r10, some (.lst ((mx w j b).map qd)), r12, r13] S
      = .ok (.lst ((mx w k (less f y b)).map qd)) S := by
  rw [ev_comp]
  conv => rhs; unfold mx
  rw [List.map_map]
  refine comp_map (src := []) (fun p : Nat => .int (p : Int)) (fun p : Nat => qd ((less f y b).getD (w + p) 0)) (evI_rng1_of (j := k + 1) (by simp [getR]) hok) (by rw [List.length_range]; exact hk) rfl fun p hpm => ?_
  have h9 := List.mem_range.mp hpm
  have i1 := (isL_lst S _).ix (getD_qd (xs := mx w k y) (k := p) (by rw [mx_len]; exact h9))
  rw [mx_get h9] at i1
  rw [less_get hlen.symm]
  have hbl : bltD S .len [.lst ((mx w j b).map qd)] = .ok (.int ((j + 1 : Nat) : Int)) S := by rw [blt_len_lst, List.length_map, mx_len]
  by_cases hpj : p < j + 1
  · have i2 := (isL_lst S _).ix (getD_qd (xs := mx w j b) (k := p) (by rw [mx_len]; exact hpj))
    rw [mx_get hpj] at i2
    have hfb : Sm (f * b.getD (w + p) 0) := by
      by_cases hl : w + p < b.length
      · exact hp _ (getD_mem hl)
      · rw [getD_big (by omega), Rat.mul_zero]; exact sm_zero0
    have c1 := callR_pure (run_lprod n f _ S hf (at_sm hb (w + p))) (qd_nl _)
    have c2 := callR_pure (run_lminus n _ _ S (at_sm hy (w + p)) hfb) (qd_nl _)
    have v1 : COp.lt.ev (p : Int) ((j : Int) + 1) = true := decide_eq_true (by omega)
    generalize y.getD (w + p) 0 = y1 at *
    generalize b.getD (w + p) 0 = y2 at *
    simp [-cop_lt, -blt_len_lst, getR, hbl, v1, i1, i2, c1, c2]
  · have v1 : COp.lt.ev (p : Int) ((j : Int) + 1) = false := decide_eq_false (by omega)
    rw [ht p (by omega) (by omega), Rat.mul_zero, show y.getD (w + p) 0 - 0 = y.getD (w + p) 0 by grind]
    generalize y.getD (w + p) 0 = y1 at *
    simp [-cop_lt, -blt_len_lst, getR, hbl, v1, i1]
end K77
namespace K77
open PySem Pz
theorem encL_nl (x : Nat → Int → Rat) (w j : Nat) : (encL x w j).nl = true := by
  show (true && (nlAll ((wz w (ob x w j)).map qd) && (nlAll ((mx w j (ob x w j)).map qd) && true))) = true
  rw [nlAll_qd, nlAll_qd]; rfl
section
variable {m : Int → Rat} {A : Int → Int} {E w : Nat}
theorem clr_step {x : Nat → Int → Rat} {w : Nat} (y : List Rat) (j : Nat) : clr y (bas x w (j + 1)) = clr1 (clr y (bas x w j)) (pv x w j) (ob x w j) := by rw [bas_succ, clr_snoc]
theorem lrule_in (h : Mok m A E 3600 w) (n : Nat) (S : Store) {K k : Nat} (hL : Live (itx m) w K) (hKw : K ≤ w) (hK : K ≤ 6) (hk : k ≤ K) (src : List (Nat × List Dt)) (hs : still S src = true) (r0 r2 r3 r4 r5 : Option Dt) :
    ∀ (d j : Nat) (r6 r9 r10 r11 r12 r13 : Option Dt), j + d = k →
      ∃ r6' r9' r10' r11' r12', forF (evT cv (Phi (n + 3)) (.tup [.nm 9, .nm 10, .nm 11])) (evB cv (Phi (n + 3)) lbody) src ((List.range' j d).map (encL (itx m) w)) [r0, some (.int k), r2, r3, r4, r5, r6, some (.lst ((wz w (clr (vt (itx m) w k) (bas (itx m) w j))).map qd)), some (.lst ((mx w k (clr (vt (itx m) w k) (bas (itx m) w j))).map qd)), r9, r10, r11, r12, r13] S
        = .ok (.nx [r0, some (.int k), r2, r3, r4, r5, r6', some (.lst ((wz w (lf (itx m) w k)).map qd)), some (.lst ((mx w k (lf (itx m) w k)).map qd)), r9', r10', r11', r12', r13]) S
  | 0, j, r6, r9, r10, r11, r12, r13, hj => by
    obtain rfl : j = k := by omega
    refine ⟨r6, r9, r10, r11, r12, ?_⟩
    unfold forF List.range'
    rw [List.map_nil]
    show (if still S src = true then _ else _) = _
    rw [if_pos hs]
    rfl
  | d + 1, j, r6, r9, r10, r11, r12, r13, hj => by
    have h7 := h.w7
    obtain ⟨hpv, hpne, _, _⟩ := live_pv (hL j (by omega))
    obtain ⟨sy, st⟩ := step_sm h hL hK hk (show j ≤ k by omega)
    obtain ⟨sp, so⟩ := st (by omega) (by omega)
    obtain ⟨y, hy⟩ : ∃ y, y = clr (vt (itx m) w k) (bas (itx m) w j) := ⟨_, rfl⟩
    have ylen : y.length = w + (w + 1) := by rw [hy]; exact clr_lenb (vt_len k) j
    have hlen : (ob (itx m) w j).length = y.length := by rw [ylen]; exact (lens j).2
    rw [← hy] at sy sp ⊢
    have stepy := clr_step (x := itx m) (w := w) (vt (itx m) w k) j
    rw [← hy] at stepy
    have ht : ∀ i, j < i → i ≤ k → (ob (itx m) w j).getD (w + i) 0 = 0 := fun i h1 h2 => (tags (x := itx m) (w := w) j i (by omega) (by omega)).2 h1
    have hix := (isL_lst S _).ix (getD_qd (xs := wz w y) (k := pv (itx m) w j) (by rw [wz_len]; omega))
    rw [wz_get hpv (by omega)] at hix
    rw [List.range'_succ, List.map_cons]
    by_cases h0 : y.getD (pv (itx m) w j) 0 = 0
    · have e1 : clr1 y (pv (itx m) w j) (ob (itx m) w j) = y := if_pos h0
      rw [e1] at stepy
      obtain ⟨a6, a9, a10, a11, a12, e⟩ := lrule_in h n S hL hKw hK hk src hs r0 r2 r3 r4 r5 d (j + 1) (some (qd 0)) (some (.int (pv (itx m) w j))) (some (.lst ((wz w (ob (itx m) w j)).map qd))) (some (.lst ((mx w j (ob (itx m) w j)).map qd))) r12 r13 (by omega)
      rw [stepy] at e
      refine ⟨a6, a9, a10, a11, a12, ?_⟩
      rw [← e]
      conv => lhs; unfold forF
      rw [h0] at hix
      simp only [hs, if_true, encL, evT_tup, evTs_cons, evTs_nil, evT_nm, bind_okS, List.set_cons_succ, List.set_cons_zero, lbody, evB_cons, evB_nil, evS_asg, ev_ix, ev_var, ev_int, getR, List.getElem?_cons_succ, List.getElem?_cons_zero, hix, thenB_nx, evS_iff, ev_eq, ixD_qd0, eqD_int, toB_bl]
      rfl
    · have e1 : clr1 y (pv (itx m) w j) (ob (itx m) w j) = less (y.getD (pv (itx m) w j) 0) y (ob (itx m) w j) := if_neg h0
      rw [e1] at stepy
      obtain ⟨f, hf⟩ : ∃ f, f = y.getD (pv (itx m) w j) 0 := ⟨_, rfl⟩
      have sf : Sm f := by rw [hf]; exact at_sm sy _
      rw [← hf] at stepy sp hix h0
      have hn := num_ne h0
      obtain ⟨a6, a9, a10, a11, a12, e⟩ := lrule_in h n S hL hKw hK hk src hs r0 r2 r3 r4 r5 d (j + 1) (some (qd f)) (some (.int (pv (itx m) w j))) (some (.lst ((wz w (ob (itx m) w j)).map qd))) (some (.lst ((mx w j (ob (itx m) w j)).map qd))) r12 r13 (by omega)
      rw [stepy] at e
      refine ⟨a6, a9, a10, a11, a12, ?_⟩
      rw [← e]
      have c7 := wire_comp n S w f y (ob (itx m) w j) hlen sy sf so sp r0 (some (.int k)) r2 r3 r4 r5 (some (.lst ((mx w k y).map qd))) (some (.int (pv (itx m) w j))) (some (.lst ((mx w j (ob (itx m) w j)).map qd))) r12 r13
      have c8 := mix_comp n S w k j (by omega) (okR_small (by omega)) (by omega) f y (ob (itx m) w j) hlen sy sf so sp ht r0 r2 r3 r4 r5 (some (.lst ((wz w (less f y (ob (itx m) w j))).map qd))) (some (.int (pv (itx m) w j))) (some (.lst ((wz w (ob (itx m) w j)).map qd))) r12 r13
      have dn : decide (f.num = 0) = false := decide_eq_false hn
      conv => lhs; unfold forF
      simp only [hs, if_true, encL, evT_tup, evTs_cons, evTs_nil, evT_nm, bind_okS, List.set_cons_succ, List.set_cons_zero, lbody, evB_cons, evB_nil, evS_asg, ev_ix, ev_var, ev_int, getR, List.getElem?_cons_succ, List.getElem?_cons_zero, hix, thenB_nx, evS_iff, ev_eq, ixD_qd0, eqD_int, toB_bl, dn, c7, c8]
      rfl
end
end K77
namespace K77
open PySem Pz
def obody : List ISt := [
    .asg (.tup [.nm 7, .nm 8]) (.tup [.comp [12] (.nm 12) (.rng1 (.int 9)) [] (.call i_law_at [.var 3, .var 12]), .cat (.rep (.lst [.tup [.int 0, .int 1]]) (.var 1)) (.lst [.tup [.int 1, .int 1]])]),
    .forr (.tup [.nm 9, .nm 10, .nm 11]) (.seq (.var 2)) lbody,
    .asg (.nm 5) (.comp [12] (.nm 12) (.rng1 (.int 9)) [.eq true (.ix (.ix (.var 7) (.var 12)) (.int 0)) (.int 0)] (.var 12)),
    .iff (.eq false (.var 5) (.lst [])) [
      .ret (.var 8)] [],
    .asg (.nm 6) (.call i_law_per [.tup [.int 1, .int 1], .ix (.var 7) (.ix (.var 5) (.int 0))]),
    .ex (.mth .append (.var 2) [.tup [.ix (.var 5) (.int 0), .comp [13] (.nm 13) (.seq (.var 7)) [] (.call i_law_prod [.var 13, .var 6]), .comp [13] (.nm 13) (.seq (.var 8)) [] (.call i_law_prod [.var 13, .var 6])]]),
    .asg (.nm 3) (.call i_law_half [.call i_law_times [.var 4, .var 3], .int 0])]
def fullL (w : Nat) (y : List Rat) : List Nat := (List.range 9).filter fun p => decide ((wz w y).getD p 0 ≠ 0)
theorem wz_ge {w p : Nat} {y : List Rat} (h : ¬ p < w) : (wz w y).getD p 0 = 0 := by
  by_cases h9 : p < 9
  · refine getD_of ?_
    unfold wz
    rw [List.getElem?_map, List.getElem?_range h9]
    show some (if p < w then y.getD p 0 else 0) = _
    rw [if_neg h]
  · exact getD_big (by rw [wz_len]; omega)
theorem full_none {w : Nat} {y : List Rat} (h7 : w ≤ 7) (h : lead y 0 w = none) : fullL w y = [] := by
  unfold fullL
  rw [List.filter_eq_nil_iff]
  intro p hp
  have hp := List.mem_range.mp hp
  by_cases hw : p < w
  · rw [wz_get hw hp, lead_none h p (by omega) (by omega)]; simp
  · rw [wz_ge hw]; simp
theorem full_some {w p : Nat} {y : List Rat} (h7 : w ≤ 7) (h : lead y 0 w = some p) : (fullL w y).head? = some p := by
  obtain ⟨_, h2, h3, h4⟩ := lead_some h
  have hne : fullL w y ≠ [] := fun e => by
    have := filter_range_nil e p (by omega)
    rw [wz_get (by omega) (by omega)] at this
    exact h3 (by simpa using this)
  cases hh : (fullL w y).head? with
  | none => exact absurd (List.head?_eq_none_iff.mp hh) hne
  | some i =>
    obtain ⟨a1, a2, a3⟩ := filter_range_head hh
    have a2 : (wz w y).getD i 0 ≠ 0 := by simpa using a2
    have hiw : i < w := Decidable.byContradiction fun z => a2 (wz_ge z)
    rw [wz_get hiw a1] at a2
    congr 1
    rcases Nat.lt_trichotomy i p with q | q | q
    · exact absurd (h4 i (by omega) q) a2
    · exact q
    · have := a3 p q
      rw [wz_get (by omega) (by omega)] at this
      exact absurd (by simpa using this) h3
theorem full_comp (n : Nat) (S : Store) (w : Nat) (y : List Rat) (r0 r1 r2 r3 r4 r5 r6 r8 r9 r10 r11 r12 r13 : Option Dt) :
    evE cv (Phi n) (.comp [12] (.nm 12) (.rng1 (.int 9)) [.eq true (.ix (.ix (.var 7) (.var 12)) (.int 0)) (.int 0)] (.var 12)) [r0, r1, r2, r3, r4, r5, r6, some (.lst ((wz w y).map qd)), r8, r9, r10, r11, r12, r13] S = .ok (.lst ((fullL w y).map fun i : Nat => .int (i : Int))) S := by
  rw [ev_comp]
  refine comp_filter (src := []) (fun i : Nat => .int (i : Int)) (fun i : Nat => .int (i : Int)) (fun p => decide ((wz w y).getD p 0 ≠ 0)) (evI_rng1_of (j := 9) (by simp) okR9) (by rw [List.length_range]; omega) rfl fun i hi => ?_
  have hi := List.mem_range.mp hi
  have hx := (isL_lst S _).ix (getD_qd (xs := wz w y) (k := i) (by rw [wz_len]; exact hi))
  by_cases h0 : (wz w y).getD i 0 = 0
  · rw [h0] at hx ⊢
    simp [getR, hx, eqD_int]
  · have hn := num_ne h0
    have hd : decide ((wz w y).getD i 0 ≠ 0) = true := decide_eq_true h0
    rw [hd]
    generalize (wz w y).getD i 0 = v at *
    simp [getR, hx, eqD_int, hn]
theorem scale_comp (n : Nat) (S : Store) (e : IEx) (qs : List Rat) (f : Rat) (hq : AllSm qs) (hf : Sm f) (hl : qs.length ≤ 1000000) (r : Rho) (h6 : ∀ d, getR (r.set 13 d) 6 S = .ok (qd f) S) (hlen : 13 < r.length) (he : evE cv (Phi (n + 3)) e r S = .ok (.lst (qs.map qd)) S) :
    evE cv (Phi (n + 3)) (.comp [13] (.nm 13) (.seq e) [] (.call i_law_prod [.var 13, .var 6])) r S = .ok (.lst ((qs.map (· * f)).map qd)) S := by
  rw [ev_comp, List.map_map]
  refine comp_map (src := []) qd (fun q => qd (q * f)) (by rw [evI_seq, he]; rfl) hl rfl fun q hm => ?_
  have c := callR_pure (run_lprod n q f S (hq q hm) hf) (qd_nl _)
  have g13 : getR (r.set 13 (some (qd q))) 13 S = .ok (qd q) S := by
    unfold getR
    rw [List.getElem?_set_self (by omega)]
  have := h6 (some (qd q))
  simp [g13, this, c]
section
variable {m : Int → Rat} {A : Int → Int} {E w : Nat}
theorem wz_vt (h : Mok m A E 3600 w) (k : Nat) : (List.range 9).map (fun p : Nat => itx m k (p : Int)) = wz w (vt (itx m) w k) := by
  unfold wz
  refine List.map_congr_left fun p hp => ?_
  split
  · rename_i hw; exact (vt_lo hw).symm
  · refine Classical.byContradiction fun z => ?_
    have := itx_in h.supp h.w2 k _ z
    have := h.w2
    unfold hw at *
    omega
theorem mx_vt {x : Nat → Int → Rat} {w k : Nat} (hk : k < w + 1) : List.replicate k (0 : Rat) ++ [1] = mx w k (vt x w k) := by
  unfold mx
  rw [List.range_succ, List.map_append]
  congr 1
  · refine (List.eq_replicate_iff.mpr ⟨by simp, fun b hb => ?_⟩).symm
    obtain ⟨i, hi, rfl⟩ := List.mem_map.mp hb
    have hi := List.mem_range.mp hi
    rw [vt_hi (by omega), if_neg (by omega)]
  · show [(1 : Rat)] = [(vt x w k).getD (w + k) 0]
    rw [vt_hi hk, if_pos rfl]
theorem told_mx {x : Nat → Int → Rat} {w K : Nat} (hK : K ≤ w) : told x w K = mx w K (lf x w K) := by
  refine List.ext_getElem (by rw [told_len hK, mx_len]) fun i h1 h2 => ?_
  rw [told_len hK] at h1
  have a := told_get (x := x) (w := w) (K := K) (i := i) (by omega)
  have b := mx_get (w := w) (k := K) (y := lf x w K) (i := i) (by omega)
  rw [getD_of (List.getElem?_eq_getElem (by rw [told_len hK]; omega))] at a
  rw [getD_of (List.getElem?_eq_getElem (by rw [mx_len]; omega))] at b
  rw [a, b]
theorem ob_wz (k : Nat) (hk : 0 < w) : (wz w (lf (itx m) w k)).map (· * (1 / (lf (itx m) w k).getD (pv (itx m) w k) 0)) = wz w (ob (itx m) w k) := by
  unfold wz
  rw [List.map_map]
  refine List.map_congr_left fun p hp => ?_
  show (if p < w then _ else (0 : Rat)) * _ = _
  split
  · rw [ob_get, Rat.div_def, Rat.div_def, Rat.one_mul]
  · rw [Rat.zero_mul]
theorem ob_mx (k : Nat) : (mx w k (lf (itx m) w k)).map (· * (1 / (lf (itx m) w k).getD (pv (itx m) w k) 0)) = mx w k (ob (itx m) w k) := by
  unfold mx
  rw [List.map_map]
  refine List.map_congr_left fun p hp => ?_
  show (lf (itx m) w k).getD (w + p) 0 * _ = _
  rw [ob_get, Rat.div_def, Rat.div_def, Rat.one_mul]
end
end K77
namespace K77
open PySem Pz
section
variable {M : Int × List Rat} {m : Int → Rat} {A : Int → Int} {E w : Nat}
theorem okR_k {k : Nat} (h : k ≤ 100) : okR ((k : Nat) : Int) = true := okR_small (by omega)
/-- the parts of a lap before its end -/
theorem lap_a (h : Msk M m A E w) (n : Nat) (S S1 : Store) {K k : Nat} (hL : Live (itx m) w K) (hKw : K ≤ w) (hK : K ≤ 6) (hk : k ≤ K) (W : Int × List Rat) (hW : ∀ p, val W p = itx m k p) (hS1 : S1 = S ++ [(List.range k).map (encL (itx m) w)]) (r0 r4 r5 r6 r7 r8 r9 r10 r11 r12 r13 : Option Dt) (ss : List ISt) :
    ∃ r6' r9' r10' r11' r12', evB cv (Phi (n + 5)) ([
      .asg (.tup [.nm 7, .nm 8]) (.tup [.comp [12] (.nm 12) (.rng1 (.int 9)) [] (.call i_law_at [.var 3, .var 12]), .cat (.rep (.lst [.tup [.int 0, .int 1]]) (.var 1)) (.lst [.tup [.int 1, .int 1]])]),
      .forr (.tup [.nm 9, .nm 10, .nm 11]) (.seq (.var 2)) lbody,
      .asg (.nm 5) (.comp [12] (.nm 12) (.rng1 (.int 9)) [.eq true (.ix (.ix (.var 7) (.var 12)) (.int 0)) (.int 0)] (.var 12))] ++ ss)
      [r0, some (.int k), some (.loc S.length), some (rd W), r4, r5, r6, r7, r8, r9, r10, r11, r12, r13] S1
    = evB cv (Phi (n + 5)) ss [r0, some (.int k), some (.loc S.length), some (rd W), r4, some (.lst ((fullL w (lf (itx m) w k)).map fun i : Nat => .int (i : Int))), r6', some (.lst ((wz w (lf (itx m) w k)).map qd)), some (.lst ((mx w k (lf (itx m) w k)).map qd)), r9', r10', r11', r12', r13] S1 := by
  have hloc : IsL S1 (.loc S.length) ((List.range k).map (encL (itx m) w)) := isL_loc (by rw [hS1]; exact get_append)
  have h7 := h.ok.w7
  have c1 : evE cv (Phi (n + 5)) (.comp [12] (.nm 12) (.rng1 (.int 9)) [] (.call i_law_at [.var 3, .var 12])) [r0, some (.int k), some (.loc S.length), some (rd W), r4, r5, r6, r7, r8, r9, r10, r11, r12, r13] S1 = .ok (.lst ((wz w (vt (itx m) w k)).map qd)) S1 := by
    rw [ev_comp, ← wz_vt h.ok, List.map_map]
    refine comp_map (src := []) (fun p : Nat => .int (p : Int)) (fun p : Nat => qd (itx m k (p : Int))) (evI_rng1_of (j := 9) (by simp) okR9) (by rw [List.length_range]; omega) rfl fun p hp => ?_
    have ha := callR_pure (run_lat (n + 4) W p S1) (qd_nl _)
    rw [hW] at ha
    simp [getR, ha]
  have hrep : repK (.lst [.tup [.int 0, .int 1]]) (.int (k : Int)) S1 = .ok (.lst ((List.replicate k (0 : Rat)).map qd)) S1 := by rw [List.map_replicate]; exact rep_zero (qd 0) S1 (by omega)
  have hcat : catK (.lst ((List.replicate k (0 : Rat)).map qd)) (.lst [.tup [.int 1, .int 1]]) S1 = .ok (.lst ((mx w k (vt (itx m) w k)).map qd)) S1 := by
    rw [← mx_vt (by omega), List.map_append]
    exact catK_lst (by rw [List.length_map, List.length_replicate]; simp; omega)
  obtain ⟨a6, a9, a10, a11, a12, e⟩ := lrule_in h.ok (n + 2) S1 hL hKw hK hk (srcOf (.loc S.length) ((List.range k).map (encL (itx m) w))) (still_loc hloc) r0 (some (.loc S.length)) (some (rd W)) r4 r5 k 0 r6 r9 r10 r11 r12 r13 (by omega)
  rw [← List.range_eq_range'] at e
  have e : forF (evT cv (Phi (n + 5)) (.tup [.nm 9, .nm 10, .nm 11])) (evB cv (Phi (n + 5)) lbody) (srcOf (.loc S.length) ((List.range k).map (encL (itx m) w))) ((List.range k).map (encL (itx m) w)) [r0, some (.int k), some (.loc S.length), some (rd W), r4, r5, r6, some (.lst ((wz w (vt (itx m) w k)).map qd)), some (.lst ((mx w k (vt (itx m) w k)).map qd)), r9, r10, r11, r12, r13] S1
        = .ok (.nx [r0, some (.int k), some (.loc S.length), some (rd W), r4, r5, a6, some (.lst ((wz w (lf (itx m) w k)).map qd)), some (.lst ((mx w k (lf (itx m) w k)).map qd)), a9, a10, a11, a12, r13]) S1 := e
  refine ⟨a6, a9, a10, a11, a12, ?_⟩
  have c5 := full_comp (n + 5) S1 w (lf (itx m) w k) r0 (some (.int k)) (some (.loc S.length)) (some (rd W)) r4 r5 a6 (some (.lst ((mx w k (lf (itx m) w k)).map qd))) a9 a10 a11 a12 r13
  rw [List.cons_append, evB_cons, evS_asg, ev_tup, evL_cons, c1, bind_okS]
  simp only [evL_cons, evL_nil, ev_cat, ev_rep, ev_lst, ev_tup, ev_int, bind_okS, tupK2, lstK1, ev_var, getR, List.getElem?_cons_succ, List.getElem?_cons_zero, hrep, hcat, evT_tup, evTs_cons, evTs_nil, evT_nm, List.set_cons_succ, List.set_cons_zero, thenB_nx, List.cons_append, List.nil_append, evB_cons, evS_forr, evI_seq, hloc.seqK, e, evS_asg, c5]
theorem lrule_loop (h : Msk M m A E w) (n : Nat) {K : Nat} (hL : Live (itx m) w K) (hd : lead (lf (itx m) w K) 0 w = none) (hKw : K ≤ w) (hK : K ≤ 6) (S : Store) (Q : Int × List Rat) (hQ : Auto m Q) (r0 : Option Dt) :
    ∀ (d k c : Nat) (W : Int × List Rat) (r1 r5 r6 r7 r8 r9 r10 r11 r12 r13 : Option Dt), k + d = K → d < c → Nf W → (∀ p, val W p = itx m k p) →
      ∃ S', forF (evT cv (Phi (n + 5)) (.nm 1)) (evB cv (Phi (n + 5)) obody) [] (rngL k 1 c) [r0, r1, some (.loc S.length), some (rd W), some (rd Q), r5, r6, r7, r8, r9, r10, r11, r12, r13] (S ++ [(List.range k).map (encL (itx m) w)])
        = .ok (.rt (.lst ((told (itx m) w K).map qd))) (S ++ S') := by
  intro d
  induction d with
  | zero =>
    intro k c W r1 r5 r6 r7 r8 r9 r10 r11 r12 r13 hk hc nW hW
    obtain ⟨c, rfl⟩ : ∃ c', c = c' + 1 := ⟨c - 1, by omega⟩
    obtain rfl : k = K := by omega
    obtain ⟨S1, hS1⟩ : ∃ S1, S1 = S ++ [(List.range k).map (encL (itx m) w)] := ⟨_, rfl⟩
    obtain ⟨a6, a9, a10, a11, a12, e⟩ := lap_a h n S S1 hL hKw hK (Nat.le_refl k) W hW hS1 r0 (some (rd Q)) r5 r6 r7 r8 r9 r10 r11 r12 r13 (obody.drop 3)
    refine ⟨[(List.range k).map (encL (itx m) w)], ?_⟩
    rw [← hS1, rngL_succ]
    unfold forF
    rw [if_pos (still_nil S1), evT_nm, bind_okS]
    have e : evB cv (Phi (n + 5)) obody [r0, some (.int k), some (.loc S.length), some (rd W), some (rd Q), r5, r6, r7, r8, r9, r10, r11, r12, r13] S1 = _ := e
    rw [show ([r0, r1, some (.loc S.length), some (rd W), some (rd Q), r5, r6, r7, r8, r9, r10, r11, r12, r13] : Rho).set 1 (some (.int k)) = [r0, some (.int k), some (.loc S.length), some (rd W), some (rd Q), r5, r6, r7, r8, r9, r10, r11, r12, r13] from rfl, e]
    have hf := full_none h.ok.w7 hd
    have heq := eq_nil_ints S1 (fullL w (lf (itx m) w k))
    rw [decide_eq_true hf] at heq
    rw [told_mx hKw]
    simp only [obody, List.drop, evB_cons, evS_iff, ev_eq, ev_var, ev_lst, evL_nil, bind_okS, lstK0, getR, List.getElem?_cons_succ, List.getElem?_cons_zero, heq, toB_bl, evS_ret, thenB_rt]
    rfl
  | succ d ih =>
    intro k c W r1 r5 r6 r7 r8 r9 r10 r11 r12 r13 hk hc nW hW
    obtain ⟨c, rfl⟩ : ∃ c', c = c' + 1 := ⟨c - 1, by omega⟩
    have h7 := h.ok.w7
    have hw2 := h.ok.w2
    obtain ⟨S1, hS1⟩ : ∃ S1, S1 = S ++ [(List.range k).map (encL (itx m) w)] := ⟨_, rfl⟩
    obtain ⟨S2, hS2⟩ : ∃ S2, S2 = S ++ [(List.range (k + 1)).map (encL (itx m) w)] := ⟨_, rfl⟩
    obtain ⟨a6, a9, a10, a11, a12, e⟩ := lap_a h n S S1 hL hKw hK (show k ≤ K by omega) W hW hS1 r0 (some (rd Q)) r5 r6 r7 r8 r9 r10 r11 r12 r13 (obody.drop 3)
    obtain ⟨hp1, hp2, hp3, _⟩ := live_pv (hL k (by omega))
    have hfh := full_some h7 hp3
    obtain ⟨l, hl⟩ : ∃ l, l = lf (itx m) w k := ⟨_, rfl⟩
    obtain ⟨p, hp⟩ : ∃ p, p = pv (itx m) w k := ⟨_, rfl⟩
    have hsm : AllSm l := hl ▸ (step_sm h.ok hL hK (show k ≤ K by omega) (Nat.le_refl k)).1
    have owz := ob_wz (m := m) (w := w) k (by omega)
    have omx := ob_mx (m := m) (w := w) k
    have hob : encL (itx m) w k = .tup [.int p, .lst ((wz w (ob (itx m) w k)).map qd), .lst ((mx w k (ob (itx m) w k)).map qd)] := by rw [hp]; rfl
    rw [← owz, ← omx] at hob
    rw [← hl, ← hp] at hob hp2 hfh
    rw [← hl] at e
    obtain ⟨f, hf⟩ : ∃ f, f = 1 / l.getD p 0 := ⟨_, rfl⟩
    rw [← hf] at hob
    have sf : Sm f := by rw [hf]; exact inv_sm (at_sm hsm p) hp2
    -- the next rows
    obtain ⟨P, W', t1, t2, t3, t4⟩ := lover_core h (n + 2) (show k ≤ 6 by omega) S2 Q W hQ nW hW
    obtain ⟨S', e'⟩ := ih (k + 1) c W' (some (.int k)) (some (.lst ((fullL w l).map fun i : Nat => .int (i : Int)))) (some (qd f)) (some (.lst ((wz w l).map qd))) (some (.lst ((mx w k l).map qd))) a9 a10 a11 a12 r13 (by omega) (by omega) t3 t4
    refine ⟨S', ?_⟩
    rw [← e', ← hS1, ← hS2, rngL_succ, show ((k + 1 : Nat) : Int) = (k : Int) + 1 from rfl]
    conv => lhs; unfold forF
    rw [if_pos (still_nil S1), evT_nm, bind_okS]
    have e : evB cv (Phi (n + 5)) obody [r0, some (.int k), some (.loc S.length), some (rd W), some (rd Q), r5, r6, r7, r8, r9, r10, r11, r12, r13] S1 = _ := e
    rw [show ([r0, r1, some (.loc S.length), some (rd W), some (rd Q), r5, r6, r7, r8, r9, r10, r11, r12, r13] : Rho).set 1 (some (.int k)) = [r0, some (.int k), some (.loc S.length), some (rd W), some (rd Q), r5, r6, r7, r8, r9, r10, r11, r12, r13] from rfl, e]
    have heq := eq_nil_ints S1 (fullL w l)
    have hne : fullL w l ≠ [] := fun z => by rw [z] at hfh; cases hfh
    rw [decide_eq_false hne] at heq
    have x0 : ixD S1 (.lst ((fullL w l).map fun i : Nat => .int (i : Int))) (.int 0) = .ok (.int p) S1 := ixD_lst (k := 0) (by rw [List.getElem?_map, ← List.head?_eq_getElem?, hfh]; rfl)
    have xw := (isL_lst S1 _).ix (getD_qd (xs := wz w l) (k := p) (by rw [wz_len]; omega))
    rw [wz_get (by omega) (by omega)] at xw
    have one : Sm 1 := by
      have : Fr 1 1 (1 : Rat) := ⟨1, rfl, by decide⟩
      exact this.sm (by omega) ((sz_of (n := 2) (by decide)).mono (by omega)) ((sz_of (n := 2) (by decide)).mono (by omega))
    have cper := callR_pure (run_lper (n + 2) 1 (l.getD p 0) S1 one (at_sm hsm p) hp2) (qd_nl _)
    rw [← hf] at cper
    have h1 : qd 1 = .tup [.int 1, .int 1] := rfl
    rw [h1] at cper
    have cw := scale_comp (n + 2) S1 (.var 7) (wz w l) f (wz_sm hsm) sf (by rw [wz_len]; omega) [r0, some (.int k), some (.loc S.length), some (rd W), some (rd Q), some (.lst ((fullL w l).map fun i : Nat => .int (i : Int))), some (qd f), some (.lst ((wz w l).map qd)), some (.lst ((mx w k l).map qd)), a9, a10, a11, a12, r13] (fun d => rfl) (by simp) (by simp [getR])
    have cm := scale_comp (n + 2) S1 (.var 8) (mx w k l) f (mx_sm hsm) sf (by rw [mx_len]; omega) [r0, some (.int k), some (.loc S.length), some (rd W), some (rd Q), some (.lst ((fullL w l).map fun i : Nat => .int (i : Int))), some (qd f), some (.lst ((wz w l).map qd)), some (.lst ((mx w k l).map qd)), a9, a10, a11, a12, r13] (fun d => rfl) (by simp) (by simp [getR])
    have happ : mthD S1 .append (.loc S.length) [encL (itx m) w k] = .ok .non S2 := by
      have ha := app_loc (S := S) (xs := (List.range k).map (encL (itx m) w)) (d := encL (itx m) w k) (okLen_of (by rw [List.length_map, List.length_range]; omega)) (encL_nl ..)
      rw [hS1, hS2, List.range_succ, List.map_append]
      exact ha
    rw [hob] at happ
    simp only [obody, List.drop, evB_cons, evS_iff, ev_eq, ev_var, ev_lst, evL_nil, bind_okS, lstK0, getR, List.getElem?_cons_succ, List.getElem?_cons_zero, heq, toB_bl, evB_nil, thenB_nx, evS_asg, ev_call, evL_cons, ev_tup, ev_int, tupK2, ev_ix, x0, xw, cper, evT_nm, List.set_cons_succ, List.set_cons_zero, evS_ex, ev_mth, cw, cm, tupK3, happ, t1, t2, bne_self_eq_false, Bool.false_eq_true, if_false]
theorem run_lrule (h : Msk M m A E w) (n : Nat) {K : Nat} (hL : Live (itx m) w K) (hd : lead (lf (itx m) w K) 0 w = none) (hKw : K ≤ w) (hK : K ≤ 6) (S : Store) :
    ∃ S', Phi (n + 6) i_law_rule [rd M] S = .ok (.lst ((told (itx m) w K).map qd)) (S ++ S') := by
  rw [phiR (n + 5) rfl (f := f_law_rule) rfl _ S rfl]
  have hr0 : (List.map some [rd M] ++ List.replicate (f_law_rule.sz - f_law_rule.ar) none) = [some (rd M), none, none, none, none, none, none, none, none, none, none, none, none, none] := rfl
  rw [hr0]
  have hth : thawK (.lst []) S = .ok (.loc S.length) (S ++ [[]]) := rfl
  obtain ⟨Q, q1, hQ⟩ := run_lauto h n (S ++ [[]])
  have c1 := callR_pure q1 (rd_nl _)
  obtain ⟨S', e⟩ := lrule_loop h n hL hd hKw hK S Q hQ (some (rd M)) K 0 12 (-1, [-1, 2, -1]) none none none none none none none none none none (by omega) (by omega) nf_start start_val
  refine ⟨S', ?_⟩
  have e : forF (evT cv (Phi (n + 5)) (.nm 1)) (evB cv (Phi (n + 5)) obody) [] (rngL 0 1 12) [some (rd M), none, some (.loc S.length), some (rd (-1, [-1, 2, -1])), some (rd Q), none, none, none, none, none, none, none, none, none] (S ++ [[]]) = .ok (.rt (.lst ((told (itx m) w K).map qd))) (S ++ S') := e
  have hst : Dt.tup [.int (-1), .tup [.tup [.int (-1), .int 1], .tup [.int 2, .int 1], .tup [.int (-1), .int 1]]] = rd (-1, [-1, 2, -1]) := rfl
  have hI : ∀ r, evI cv (Phi (n + 5)) (.rng1 (.int 12)) r (S ++ [[]]) = .ok ⟨rngL 0 1 12, []⟩ (S ++ [[]]) := fun r => by rw [evI_rng1_of (j := 12) (by simp) (okR_small (by omega)), rngL_map]
  unfold f_law_rule
  simp only [evB_cons, evS_asg, ev_tup, evL_cons, evL_nil, ev_thaw, ev_lst, ev_neg, ev_int, ev_call, ev_var, bind_okS, lstK0, hth, negK_int, tupK2, tupK3, hst, getR, List.getElem?_cons_succ, List.getElem?_cons_zero, c1, evT_tup, evTs_cons, evTs_nil, evT_nm, List.set_cons_succ, List.set_cons_zero, thenB_nx, evS_forr, hI]
  show (((forF (evT cv (Phi (n + 5)) (.nm 1)) (evB cv (Phi (n + 5)) obody) [] (rngL 0 1 12) _ _).bind _).bind _) = _
  rw [e]
  rfl
end
end K77
namespace K77
open PySem Pz
/-! ### draws -/
def spr (a b c : Int) : List Dt := [.int a, .int b, .int c]
def Spr (S : Store) (m N : Nat) : Prop := ∃ a b c : Int, S[m]? = some (spr a b c) ∧ 0 ≤ a ∧ (0 ≤ b ∧ b < 2147483563) ∧ 0 ≤ c ∧ c ≤ N
/-- only the list at m has changed -/
def Up (S S' : Store) (m : Nat) : Prop := S'.length = S.length ∧ ∀ j, j ≠ m → S'[j]? = S[j]?
theorem Up.refl (S : Store) (m : Nat) : Up S S m := ⟨rfl, fun _ _ => rfl⟩
theorem Up.trans {S S' S'' : Store} {m : Nat} (a : Up S S' m) (b : Up S' S'' m) : Up S S'' m := ⟨b.1.trans a.1, fun j hj => (b.2 j hj).trans (a.2 j hj)⟩
theorem Up.set {S : Store} {m : Nat} (xs : List Dt) : Up S (S.set m xs) m := ⟨List.length_set, fun j hj => by rw [List.getElem?_set_ne (fun e => hj e.symm)]⟩
theorem Spr.lt {S : Store} {m N : Nat} (h : Spr S m N) : m < S.length := by
  obtain ⟨a, b, c, h, _⟩ := h
  exact (List.getElem?_eq_some_iff.mp h).1
theorem Spr.mono {S : Store} {m N N' : Nat} (h : Spr S m N) (hN : N ≤ N') : Spr S m N' := by
  obtain ⟨a, b, c, h1, h2, h3, h4, h5⟩ := h
  exact ⟨a, b, c, h1, h2, h3, h4, by omega⟩
theorem get_set {S : Store} {m : Nat} {xs : List Dt} (h : m < S.length) : (S.set m xs)[m]? = some xs := List.getElem?_set_self h
theorem callR_mut {Ph : Nat → List Dt → Mo Dt} {k : Nat} {ds : List Dt} {S S' : Store} {d : Dt} (h : Ph k ds S = .ok d S') (hn : d.nl = true) (hl : S'.length = S.length) : callR Ph k ds S = .ok d S' := by
  unfold callR
  rw [h]
  show Res.ok (resol S.length S' d) (S'.take S.length) = _
  rw [resol_nl d hn, ← hl, List.take_length]
theorem szc {i : Int} (h1 : -1000000000000 ≤ i) (h2 : i ≤ 1000000000000) : Sz 40 i := by show i.natAbs < 2 ^ 40; omega
theorem dmK_ok {i j : Int} {S : Store} (hj : 0 < j) (hd : okDiv i j = true) : dmK (.int i) (.int j) S = .ok (.tup [.int (i / j), .int (i % j)]) S := by
  show (if (decide (0 < j) && okDiv i j) = true then _ else _) = _
  rw [hd, decide_eq_true hj]; rfl
theorem run_sip (n : Nat) (S : Store) (m N t : Nat) (h : Spr S m N) (hN : N < 1000000) (ht : 0 < t) (ht2 : t ≤ 1000000) :
    ∃ (i : Nat) (S' : Store), i < t ∧ Phi (n + 1) i_law_sip [.loc m, .int t] S = .ok (.int i) S' ∧ Up S S' m ∧ Spr S' m (N + 1) := by
  have hm := h.lt
  obtain ⟨a, b, c, h1, h2, ⟨h3, h3'⟩, h4, h5⟩ := h
  have x0 : ixD S (.loc m) (.int 0) = .ok (.int a) S := ixD_loc (k := 0) h1 rfl
  have x1 : ixD S (.loc m) (.int 1) = .ok (.int b) S := ixD_loc (k := 1) h1 rfl
  have x2 : ixD S (.loc m) (.int 2) = .ok (.int c) S := ixD_loc (k := 2) h1 rfl
  have hrun := phiR n (m := n + 1) rfl (k := i_law_sip) (f := f_law_sip) rfl [.loc m, .int t] S rfl
  by_cases ha : 0 < a
  · have hd := dmK_ok (i := a) (j := t) (S := S) (by omega) (okDiv_of (by omega) ((szc (by omega) (by omega)).mono (by omega)))
    have hset : setD S (.loc m) (.int 0) (.int (a / t)) = some (S.set m (spr (a / t) b c)) := setD_loc (k := 0) h1 (by simp [spr]) rfl
    have hm0 : a % (t : Int) = ((a % t).toNat : Int) := by have := Int.emod_nonneg a (show (t : Int) ≠ 0 by omega); omega
    have hlt := Int.emod_lt_of_pos a (show (0 : Int) < t by omega)
    have hge := Int.emod_nonneg a (show (t : Int) ≠ 0 by omega)
    refine ⟨(a % t).toNat, S.set m (spr (a / t) b c), by omega, ?_, Up.set _, ⟨a / t, b, c, get_set hm, Int.ediv_nonneg h2 (by omega), ⟨h3, h3'⟩, h4, by omega⟩⟩
    rw [hrun, ← hm0]
    simp [f_law_sip, getR, x0, ha, hd, hset]
  · have hset2 : setD S (.loc m) (.int 2) (.int (c + 1)) = some (S.set m (spr a b (c + 1))) := setD_loc (k := 2) h1 (by simp [spr]) rfl
    obtain ⟨S2, hS2⟩ : ∃ S2, S2 = S.set m (spr a b (c + 1)) := ⟨_, rfl⟩
    rw [← hS2] at hset2
    have g2 : S2[m]? = some (spr a b (c + 1)) := by rw [hS2]; exact get_set hm
    have y1 : ixD S2 (.loc m) (.int 1) = .ok (.int b) S2 := ixD_loc (k := 1) g2 rfl
    have y2 : ixD S2 (.loc m) (.int 2) = .ok (.int (c + 1)) S2 := ixD_loc (k := 2) g2 rfl
    have m1 := bin_mul 6 (c + 1) S2 (okMul_of ((szc (by omega) (by omega)).mono (by omega)) ((szc (by omega) (by omega)).mono (by omega)))
    have m2 := bin_mul b (30011 + 6 * (c + 1)) S2 (okMul_of ((szc (by omega) (by omega)).mono (by omega)) ((szc (by omega) (by omega)).mono (by omega)))
    have m3 := bin_mul 60013 (c + 1) S2 (okMul_of ((szc (by omega) (by omega)).mono (by omega)) ((szc (by omega) (by omega)).mono (by omega)))
    obtain ⟨b', hb'⟩ : ∃ b', b' = Int.fmod (b * (30011 + 6 * (c + 1)) + 60013 * (c + 1) + 11) 2147483563 := ⟨_, rfl⟩
    have m4 := bin_mod (b * (30011 + 6 * (c + 1)) + 60013 * (c + 1) + 11) 2147483563 S2 (by omega)
    rw [← hb'] at m4
    have hb1 : 0 ≤ b' ∧ b' < 2147483563 := by
      rw [hb', Int.fmod_eq_emod_of_nonneg _ (by omega)]
      exact ⟨Int.emod_nonneg _ (by omega), Int.emod_lt_of_pos _ (by omega)⟩
    have hset3 : setD S2 (.loc m) (.int 1) (.int b') = some (S2.set m (spr a b' (c + 1))) := setD_loc (k := 1) g2 (by simp [spr]) rfl
    have hm2 : m < S2.length := by rw [hS2, List.length_set]; exact hm
    obtain ⟨S3, hS3⟩ : ∃ S3, S3 = S2.set m (spr a b' (c + 1)) := ⟨_, rfl⟩
    rw [← hS3] at hset3
    have g3 : S3[m]? = some (spr a b' (c + 1)) := by rw [hS3]; exact get_set hm2
    have z1 : ixD S3 (.loc m) (.int 1) = .ok (.int b') S3 := ixD_loc (k := 1) g3 rfl
    have d1 := bin_fdiv b' 97 S3 (okDiv_of (by omega) ((szc (by omega) (by omega)).mono (by omega)))
    have d2 := bin_mod (b'.fdiv 97) t S3 (by omega)
    have ef : Int.fmod (b'.fdiv 97) (t : Int) = (((b'.fdiv 97) % t).toNat : Int) := by
      rw [Int.fmod_eq_emod_of_nonneg _ (by omega)]
      have := Int.emod_nonneg (b'.fdiv 97) (show (t : Int) ≠ 0 by omega)
      omega
    rw [ef] at d2
    have hlt := Int.emod_lt_of_pos (b'.fdiv 97) (show (0 : Int) < t by omega)
    have hge := Int.emod_nonneg (b'.fdiv 97) (show (t : Int) ≠ 0 by omega)
    refine ⟨((b'.fdiv 97) % t).toNat, S3, by omega, ?_, ?_, ⟨a, b', c + 1, g3, h2, hb1, by omega, by omega⟩⟩
    · rw [hrun]
      have hna : ¬ 0 < a := ha
      simp only [f_law_sip, List.map_cons, List.map_nil, List.replicate, evB_cons, evB_nil, evS_iff, ev_cmp, ev_ix, ev_var, ev_int, getR, List.cons_append, List.nil_append, List.getElem?_cons_succ, List.getElem?_cons_zero, bind_okS, x0, x2, cmpK_int, cop_gt, toB_bl, decide_eq_false hna, Bool.false_eq_true, if_false, thenB_nx, evS_asg, ev_bin, bin_add, evT_sub, hset2, ev_blt, evL_cons, evL_nil, y1, y2, blt_int, m1, m2, m3, m4, evT_nm, List.set_cons_succ, List.set_cons_zero, hset3, z1, d1, d2, evS_ret, thenB_rt, endF_rt]
    · rw [hS3, hS2]; exact (Up.set _).trans (Up.set _)
theorem run_pick (n : Nat) (S : Store) (m N : Nat) (xs : List Dt) (h : Spr S m N) (hN : N < 1000000) (hx : 0 < xs.length) (hx2 : xs.length ≤ 1000000) :
    ∃ (x : Dt) (S' : Store), x ∈ xs ∧ Phi (n + 2) i_law_pick [.loc m, .lst xs] S = .ok x S' ∧ Up S S' m ∧ Spr S' m (N + 1) := by
  obtain ⟨i, S', hi, e, hu, hs⟩ := run_sip n S m N xs.length h hN hx hx2
  have c := callR_mut e rfl hu.1
  have hxi : ixD S' (.lst xs) (.int i) = .ok xs[i] S' := ixD_lst (List.getElem?_eq_getElem hi)
  refine ⟨xs[i], S', List.getElem_mem hi, ?_, hu, hs⟩
  rw [phiR (n + 1) rfl (f := f_law_pick) rfl _ S rfl]
  simp [f_law_pick, getR, c, hxi]
end K77
namespace K77
open PySem Pz
theorem run_pick_int (n : Nat) (S : Store) (m N : Nat) (vs : List Nat) (h : Spr S m N) (hN : N < 1000000) (hx : 0 < vs.length) (hx2 : vs.length ≤ 1000000) :
    ∃ (v : Nat) (S' : Store), v ∈ vs ∧ callR (Phi (n + 2)) i_law_pick [.loc m, .lst (vs.map fun v : Nat => .int (v : Int))] S = .ok (.int (v : Int)) S' ∧ Up S S' m ∧ Spr S' m (N + 1) := by
  obtain ⟨x, S', hm, e, hu, hs⟩ := run_pick n S m N (vs.map fun v : Nat => .int (v : Int)) h hN (by rw [List.length_map]; exact hx) (by rw [List.length_map]; exact hx2)
  obtain ⟨v, hv, rfl⟩ := List.mem_map.mp hm
  exact ⟨v, S', hv, callR_mut e rfl hu.1, hu, hs⟩
theorem run_pick_q (n : Nat) (S : Store) (m N : Nat) (vs : List Rat) (h : Spr S m N) (hN : N < 1000000) (hx : 0 < vs.length) (hx2 : vs.length ≤ 1000000) :
    ∃ (v : Rat) (S' : Store), v ∈ vs ∧ callR (Phi (n + 2)) i_law_pick [.loc m, .lst (vs.map qd)] S = .ok (qd v) S' ∧ Up S S' m ∧ Spr S' m (N + 1) := by
  obtain ⟨x, S', hm, e, hu, hs⟩ := run_pick n S m N (vs.map qd) h hN (by rw [List.length_map]; exact hx) (by rw [List.length_map]; exact hx2)
  obtain ⟨v, hv, rfl⟩ := List.mem_map.mp hm
  exact ⟨v, S', hv, callR_mut e (qd_nl _) hu.1, hu, hs⟩
theorem fr60 {t : Int} {d : Nat} (ht : t.natAbs ≤ 60) (hd : d ∣ 60) (hd0 : 0 < d) : Fr 3600 60 (Rat.divInt t d) := by
  obtain ⟨c, hc⟩ := hd
  have hcp : 0 < c := Nat.pos_of_ne_zero fun z => by subst z; omega
  refine ⟨t * c, ?_, ?_⟩
  · have : ((60 : Nat) : Int) = (d : Int) * (c : Int) := by rw [hc]; exact Int.natCast_mul ..
    rw [this, Rat.divInt_mul_right (by omega)]
  · rw [Int.natAbs_mul, Int.natAbs_natCast]
    have : c ≤ 60 := Nat.le_of_dvd (by omega) ⟨d, by rw [Nat.mul_comm]; exact hc⟩
    exact Nat.le_trans (Nat.mul_le_mul ht this) (by decide)
theorem dens {d : Nat} (h : d ∈ [1, 1, 1, 2, 2, 3, 4, 15]) : d ∣ 60 ∧ 0 < d ∧ d ≤ 15 := by
  simp only [List.mem_cons, List.not_mem_nil, or_false] at h
  rcases h with rfl | rfl | rfl | rfl | rfl | rfl | rfl | rfl <;> decide
theorem run_any (n : Nat) (S : Store) (m N : Nat) (h : Spr S m N) (hN : N < 999000) :
    ∃ (q : Rat) (S' : Store), Fr 3600 60 q ∧ callR (Phi (n + 3)) i_law_any [.loc m] S = .ok (qd q) S' ∧ Up S S' m ∧ Spr S' m (N + 3) := by
  obtain ⟨v, S1, hv, e1, u1, s1⟩ := run_pick_int n S m N [4, 4, 4, 4, 9, 60] h (by omega) (by decide) (by decide)
  have hv60 : v ≤ 60 := by
    simp only [List.mem_cons, List.not_mem_nil, or_false] at hv
    omega
  obtain ⟨i, S2, hi, e2, u2, s2⟩ := run_sip (n + 1) S1 m (N + 1) (2 * v + 1) s1 (by omega) (by omega) (by omega)
  obtain ⟨d, S3, hd, e3, u3, s3⟩ := run_pick_int n S2 m (N + 2) [1, 1, 1, 2, 2, 3, 4, 15] s2 (by omega) (by decide) (by decide)
  obtain ⟨d1, d2, d3⟩ := dens hd
  have c2 := callR_mut e2 rfl u2.1
  have c4 := callR_pure (run_low n ((i : Int) - (v : Int)) d S3 (by omega) ((szc (by omega) (by omega)).mono (by omega))) (qd_nl _)
  have m2 := bin_mul 2 v S1 (okMul2 (by omega) (by omega))
  refine ⟨Rat.divInt ((i : Int) - (v : Int)) d, S3, fr60 (by omega) d1 d2, ?_, (u1.trans u2).trans u3, s3⟩
  refine callR_mut ?_ (qd_nl _) ((u1.trans u2).trans u3).1
  rw [phiR (n + 2) rfl (f := f_law_any) rfl _ S rfl]
  simp only [List.map_cons, List.map_nil] at e1 e3
  have ei : (2 * (v : Int) + 1) = ((2 * v + 1 : Nat) : Int) := by omega
  have hr0 : (List.map some [Dt.loc m] ++ List.replicate (f_law_any.sz - f_law_any.ar) none) = [some (.loc m), none] := rfl
  rw [hr0]
  have e1' : callR (Phi (n + 2)) i_law_pick [.loc m, .lst [.int 4, .int 4, .int 4, .int 4, .int 9, .int 60]] S = .ok (.int v) S1 := e1
  have e3' : callR (Phi (n + 2)) i_law_pick [.loc m, .lst [.int 1, .int 1, .int 1, .int 2, .int 2, .int 3, .int 4, .int 15]] S2 = .ok (.int d) S3 := e3
  simp only [f_law_any, evB_cons, evS_asg, ev_call, evL_cons, evL_nil, ev_var, ev_lst, ev_int, getR, List.getElem?_cons_zero, List.getElem?_cons_succ, bind_okS, lstK_ok, List.length_cons, List.length_nil, Nat.reduceAdd, Nat.reduceLeDiff, e1', evT_nm, List.set_cons_succ, List.set_cons_zero, thenB_nx, evS_ret, ev_bin, m2, bin_add, ei, c2, bin_sub, e3', c4, thenB_rt, endF_rt]
theorem run_some (n : Nat) (S : Store) (m N : Nat) (h : Spr S m N) (hN : N < 999000) :
    ∃ (q : Rat) (S' : Store), (Fr 3600 60 q ∧ q ≠ 0) ∧ callR (Phi (n + 3)) i_law_some [.loc m] S = .ok (qd q) S' ∧ Up S S' m ∧ Spr S' m (N + 4) := by
  obtain ⟨v, S1, hv, e1, u1, s1⟩ := run_pick_int n S m N [1, 3, 3, 9, 60] h (by omega) (by decide) (by decide)
  have hv60 : v ≤ 60 ∧ 1 ≤ v := by
    simp only [List.mem_cons, List.not_mem_nil, or_false] at hv
    omega
  obtain ⟨i, S2, hi, e2, u2, s2⟩ := run_sip (n + 1) S1 m (N + 1) v s1 (by omega) (by omega) (by omega)
  obtain ⟨j, S3, hj, e3, u3, s3⟩ := run_sip (n + 1) S2 m (N + 2) 2 s2 (by omega) (by omega) (by omega)
  obtain ⟨d, S4, hd, e4, u4, s4⟩ := run_pick_int n S3 m (N + 3) [1, 1, 1, 2, 2, 3, 4, 15] s3 (by omega) (by decide) (by decide)
  obtain ⟨d1, d2, d3⟩ := dens hd
  have c2 := callR_mut e2 rfl u2.1
  have c3 := callR_mut e3 rfl u3.1
  obtain ⟨t, ht⟩ : ∃ t : Int, t = if j = 0 then 1 + (i : Int) else 0 - (1 + (i : Int)) := ⟨_, rfl⟩
  have ht60 : t.natAbs ≤ 60 ∧ t ≠ 0 := by rw [ht]; split <;> omega
  have c4 := callR_pure (run_low n t d S4 (by omega) ((szc (by omega) (by omega)).mono (by omega))) (qd_nl _)
  have uu := ((u1.trans u2).trans u3).trans u4
  refine ⟨Rat.divInt t d, S4, ⟨fr60 ht60.1 d1 d2, fun z => ht60.2 (by rw [Rat.divInt_ofNat, Rat.mkRat_eq_zero (by omega)] at z; exact z)⟩, ?_, uu, s4⟩
  refine callR_mut ?_ (qd_nl _) uu.1
  rw [phiR (n + 2) rfl (f := f_law_some) rfl _ S rfl]
  have hr0 : (List.map some [Dt.loc m] ++ List.replicate (f_law_some.sz - f_law_some.ar) none) = [some (.loc m), none] := rfl
  rw [hr0]
  have e1' : callR (Phi (n + 2)) i_law_pick [.loc m, .lst [.int 1, .int 3, .int 3, .int 9, .int 60]] S = .ok (.int v) S1 := e1
  have e4' : callR (Phi (n + 2)) i_law_pick [.loc m, .lst [.int 1, .int 1, .int 1, .int 2, .int 2, .int 3, .int 4, .int 15]] S3 = .ok (.int d) S4 := e4
  have c3' : callR (Phi (n + 2)) i_law_sip [.loc m, .int 2] S2 = .ok (.int j) S3 := c3
  by_cases hj0 : j = 0
  · subst hj0
    rw [if_pos rfl] at ht
    subst ht
    simp only [f_law_some, evB_cons, evS_asg, ev_call, evL_cons, evL_nil, ev_var, ev_lst, ev_int, getR, List.getElem?_cons_zero, List.getElem?_cons_succ, bind_okS, lstK_ok, List.length_cons, List.length_nil, Nat.reduceAdd, Nat.reduceLeDiff, e1', ev_bin, c2, bin_add, evT_nm, List.set_cons_succ, List.set_cons_zero, thenB_nx, evS_ret, ev_ite, ev_eq, c3', eqD_int, e4', c4, thenB_rt, endF_rt]
    simp [getR, e4', c4]
  · rw [if_neg hj0] at ht
    subst ht
    have hd0 : decide ((j : Int) = 0) = false := decide_eq_false (by omega)
    simp only [f_law_some, evB_cons, evS_asg, ev_call, evL_cons, evL_nil, ev_var, ev_lst, ev_int, getR, List.getElem?_cons_zero, List.getElem?_cons_succ, bind_okS, lstK_ok, List.length_cons, List.length_nil, Nat.reduceAdd, Nat.reduceLeDiff, e1', ev_bin, c2, bin_add, evT_nm, List.set_cons_succ, List.set_cons_zero, thenB_nx, evS_ret, ev_ite, ev_eq, c3', eqD_int, hd0, toB_bl, bne_self_eq_false, Bool.false_eq_true, if_false, bin_sub, e4', c4, thenB_rt, endF_rt]
end K77
namespace K77
open PySem Pz
theorem Spr.app {S : Store} {m N : Nat} (h : Spr S m N) (L : List Dt) : Spr (S ++ [L]) m N := by
  have hm := h.lt
  obtain ⟨a, b, c, h1, h2⟩ := h
  exact ⟨a, b, c, by rw [List.getElem?_append_left hm]; exact h1, h2⟩
theorem Up.unapp {S S2 : Store} {m N : Nat} {L : List Dt} (hm : m < S.length) (h : Up (S ++ [L]) S2 m) (hs : Spr S2 m N) : ∃ S', S2 = S' ++ [L] ∧ Up S S' m ∧ Spr S' m N := by
  have hl : S2.length = S.length + 1 := by rw [h.1, List.length_append]; rfl
  have hlast : S2[S.length]? = some L := by rw [h.2 _ (by omega)]; exact get_append
  have hS2 : S2 = S2.take S.length ++ [L] := by
    refine List.ext_getElem? fun j => ?_
    by_cases hj : j < S.length
    · rw [List.getElem?_append_left (by rw [List.length_take]; omega), List.getElem?_take_of_lt hj]
    · rw [List.getElem?_append_right (by rw [List.length_take]; omega), List.length_take, Nat.min_eq_left (by omega)]
      by_cases e : j = S.length
      · subst e; rw [Nat.sub_self]; exact hlast
      · rw [List.getElem?_eq_none (by omega), List.getElem?_eq_none (by simp; omega)]
  refine ⟨S2.take S.length, hS2, ⟨by rw [List.length_take]; omega, fun j hj => ?_⟩, ?_⟩
  · by_cases hjl : j < S.length
    · rw [List.getElem?_take_of_lt hjl, h.2 j hj, List.getElem?_append_left hjl]
    · rw [List.getElem?_eq_none (by rw [List.length_take]; omega), List.getElem?_eq_none (by omega)]
  · obtain ⟨a, b, c, h1, h2⟩ := hs
    exact ⟨a, b, c, by rw [List.getElem?_take_of_lt hm]; exact h1, h2⟩
theorem catK_loc {S : Store} {n : Nat} {a b : List Dt} (h : S[n]? = some a) (hl : a.length + b.length ≤ 1000000) : catK (.loc n) (.lst b) S = .ok (.lst (a ++ b)) S := by
  unfold catK catD
  have h1 : asOwn S (.loc n) = some a := h
  have h2 : asOwn S (.lst b) = some b := rfl
  rw [h1, h2]
  show (match (if okLen (a.length + b.length) then some (a ++ b) else none) with | some xs => Res.ok (Dt.lst xs) S | none => .bad) = _
  rw [if_pos (okLen_of hl)]
theorem app_q {S : Store} {qs : List Rat} (q : Rat) (h : qs.length ≤ 1000) : mthD (S ++ [qs.map qd]) .append (.loc S.length) [qd q] = .ok .non (S ++ [(qs ++ [q]).map qd]) := by
  rw [app_loc (okLen_of (by rw [List.length_map]; omega)) (qd_nl q), List.map_append]
  rfl
theorem sieve_loop (n : Nat) (m : Nat) (r1 : Option Dt) : ∀ (c i : Nat) (S : Store) (qs : List Rat) (N : Nat) (r3 : Option Dt), Spr S m N → N + 3 * c < 999000 → qs.length + c ≤ 1000 → (∀ q ∈ qs, Fr 3600 60 q) →
    ∃ (S' : Store) (ps : List Rat) (r3' : Option Dt), forF (evT cv (Phi (n + 3)) (.nm 3)) (evB cv (Phi (n + 3)) [.ex (.mth .append (.var 2) [.call i_law_any [.var 0]])]) [] (rngL i 1 c) [some (.loc m), r1, some (.loc S.length), r3] (S ++ [qs.map qd])
      = .ok (.nx [some (.loc m), r1, some (.loc S.length), r3']) (S' ++ [(qs ++ ps).map qd]) ∧ ps.length = c ∧ Up S S' m ∧ Spr S' m (N + 3 * c) ∧ ∀ q ∈ ps, Fr 3600 60 q
  | 0, i, S, qs, N, r3, h, hN, hl, hq => ⟨S, [], r3, by rw [List.append_nil]; rfl, rfl, Up.refl S m, h, fun q hq => by cases hq⟩
  | c + 1, i, S, qs, N, r3, h, hN, hl, hq => by
    obtain ⟨q, S2, fq, e1, u1, s1⟩ := run_any n (S ++ [qs.map qd]) m N (h.app _) (by omega)
    obtain ⟨S3, rfl, u3, s3⟩ := u1.unapp h.lt s1
    have happ := app_q (S := S3) (qs := qs) q (by omega)
    rw [u3.1] at happ
    obtain ⟨S', ps, r3', e, hp, u, s, f⟩ := sieve_loop n m r1 c (i + 1) S3 (qs ++ [q]) (N + 3) (some (.int i)) s3 (by omega) (by rw [List.length_append, List.length_singleton]; omega) (fun p hp => by
      rcases List.mem_append.mp hp with hp | hp
      · exact hq p hp
      · rw [List.mem_singleton] at hp; rw [hp]; exact fq)
    refine ⟨S', q :: ps, r3', ?_, by rw [List.length_cons, hp], u3.trans u, s.mono (by omega), fun p hp => ?_⟩
    · rw [u3.1, show (qs ++ [q]) ++ ps = qs ++ q :: ps by simp] at e
      rw [rngL_succ, ← e, show ((i + 1 : Nat) : Int) = (i : Int) + 1 from rfl]
      conv => lhs; unfold forF
      simp only [still_nil, if_true, evT_nm, bind_okS, List.set_cons_succ, List.set_cons_zero, evB_cons, evB_nil, evS_ex, ev_mth, ev_var, ev_call, evL_cons, evL_nil, getR, List.getElem?_cons_succ, List.getElem?_cons_zero, e1, happ, thenB_nx]
    · rcases List.mem_cons.mp hp with rfl | hp
      · exact fq
      · exact f p hp
/-- a mask told by the law -/
structure Mrow (P : Int × List Rat) (E most : Nat) : Prop where
  nf : Nf P
  z : P.1 = 0
  l2 : 2 ≤ P.2.length
  lm : P.2.length ≤ most
  fr : ∀ q ∈ P.2, Fr 3600 E q
  E0 : 0 < E
  E1 : E ≤ 240
theorem run_sieve (n : Nat) (S : Store) (m N most : Nat) (h : Spr S m N) (hN : N < 900000) (h2 : 2 ≤ most) (h7 : most ≤ 7) :
    ∃ (P : Int × List Rat) (S' : Store), Mrow P 60 most ∧ callR (Phi (n + 4)) i_law_sieve [.loc m, .int most] S = .ok (rd P) S' ∧ Up S S' m ∧ Spr S' m (N + 100) := by
  obtain ⟨q0, S1, ⟨f0, n0⟩, e1, u1, s1⟩ := run_some n S m N h (by omega)
  have hm1 := s1.lt
  have hth : thawK (.lst [qd q0]) S1 = .ok (.loc S1.length) (S1 ++ [[q0].map qd]) := rfl
  obtain ⟨i, S2, hi, e2, u2, s2⟩ := run_sip (n + 2) (S1 ++ [[q0].map qd]) m (N + 4) (most - 1) (s1.app _) (by omega) (by omega) (by omega)
  have c2 := callR_mut e2 rfl u2.1
  obtain ⟨S3, rfl, u3, s3⟩ := u2.unapp hm1 s2
  obtain ⟨S4, ps, r3', e4, hp, u4, s4, f4⟩ := sieve_loop n m (some (.int most)) i 0 S3 [q0] (N + 5) none s3 (by omega) (by simp; omega) (fun q hq => by rw [List.mem_singleton] at hq; rw [hq]; exact f0)
  obtain ⟨q1, S5, ⟨f1, n1⟩, e5, u5, s5⟩ := run_some n (S4 ++ [([q0] ++ ps).map qd]) m (N + 5 + 3 * i) (s4.app _) (by omega)
  obtain ⟨S6, rfl, u6, s6⟩ := u5.unapp s4.lt s5
  have u14 := (u1.trans u3).trans u4
  have u16 := u14.trans u6
  have lS1 : S1.length = S.length := u1.1
  have lS3 : S3.length = S.length := (u1.trans u3).1
  have lS4 : S4.length = S.length := u14.1
  have lS6 : S6.length = S.length := u16.1
  refine ⟨(0, [q0] ++ ps ++ [q1]), S6, ⟨⟨fun e => by simp at e, fun q hq => ?_, fun q hq => ?_⟩, rfl, ?_, ?_, fun q hq => ?_, by omega, by omega⟩, ?_, u16, s6.mono (by omega)⟩
  · have : q0 = q := Option.some.inj hq
    rw [← this]; exact n0
  · rw [List.getLast?_append] at hq
    have : q1 = q := Option.some.inj hq
    rw [← this]; exact n1
  · simp
  · simp [hp]; omega
  · rcases List.mem_append.mp hq with hq | hq
    · rcases List.mem_append.mp hq with hq | hq
      · rw [List.mem_singleton] at hq; rw [hq]; exact f0
      · exact f4 q hq
    · rw [List.mem_singleton] at hq; rw [hq]; exact f1
  · have hcat := catK_loc (S := S6 ++ [([q0] ++ ps).map qd]) (n := S.length) (b := [qd q1]) (by rw [← lS6]; exact get_append) (by rw [List.length_map, List.length_append, hp]; simp; omega)
    have hrd : rd (0, [q0] ++ ps ++ [q1]) = .tup [.int 0, .tup (([q0] ++ ps).map qd ++ [qd q1])] := by unfold rd; rw [List.map_append]; rfl
    have main : Phi (n + 4) i_law_sieve [.loc m, .int most] S = .ok (rd (0, [q0] ++ ps ++ [q1])) (S6 ++ [([q0] ++ ps).map qd]) := by
      rw [phiR (n + 3) rfl (f := f_law_sieve) rfl _ S rfl]
      have hr0 : (List.map some [Dt.loc m, .int most] ++ List.replicate (f_law_sieve.sz - f_law_sieve.ar) none) = [some (.loc m), some (.int most), none, none] := rfl
      rw [hr0, hrd]
      have hI : evI cv (Phi (n + 3)) (.rng1 (.call i_law_sip [.var 0, .bin .sub (.var 1) (.int 1)])) [some (.loc m), some (.int most), some (.loc S.length), none] (S1 ++ [[q0].map qd]) = .ok ⟨rngL 0 1 i, []⟩ (S3 ++ [[q0].map qd]) := by
        have em : ((most : Int) - 1) = ((most - 1 : Nat) : Int) := by omega
        have hc : evE cv (Phi (n + 3)) (.call i_law_sip [.var 0, .bin .sub (.var 1) (.int 1)]) [some (.loc m), some (.int most), some (.loc S.length), none] (S1 ++ [[q0].map qd]) = .ok (.int i) (S3 ++ [[q0].map qd]) := by
          simp only [ev_call, evL_cons, evL_nil, ev_var, ev_bin, ev_int, getR, List.getElem?_cons_succ, List.getElem?_cons_zero, bind_okS, bin_sub, em, c2]
        rw [evI_rng1, hc, bind_okS, rng1_ok (okR_small (by omega))]
      rw [lS3] at e4
      rw [lS1] at hth
      rw [show ((0 : Nat) : Int) = 0 from rfl] at e4
      simp only [f_law_sieve, evB_cons, evS_asg, ev_thaw, ev_lst, evL_cons, evL_nil, ev_call, ev_var, getR, List.getElem?_cons_succ, List.getElem?_cons_zero, bind_okS, e1, lstK1, hth, evT_nm, List.set_cons_succ, List.set_cons_zero, thenB_nx, evS_forr, hI, e4, evS_ret, ev_tup, ev_int, ev_blt, ev_cat, e5, hcat, blt_tuple_lst, tupK2, thenB_rt, endF_rt]
    unfold callR
    rw [main]
    show Res.ok (resol S.length _ (rd (0, [q0] ++ ps ++ [q1]))) ((S6 ++ [([q0] ++ ps).map qd]).take S.length) = _
    rw [resol_nl _ (rd_nl _), ← lS6, List.take_left]
end K77
namespace K77
open PySem Pz
def sumL : Rat → List Rat → Rat
  | s, [] => s
  | s, q :: qs => sumL (s + q) qs
theorem sm120 {a : Nat} {q : Rat} (h : Fr a 120 q) (ha : a < 2 ^ 40) : Sm q := h.sm (by omega) ((sz_of ha).mono (by omega)) ((sz_of (n := 7) (by decide)).mono (by omega))
theorem all_loop (n : Nat) (S : Store) (r0 : Option Dt) (src : List (Nat × List Dt)) (hs : still S src = true) : ∀ (qs : List Rat) (s : Rat) (a : Nat) (r2 : Option Dt), (∀ q ∈ qs, Fr 240 120 q) → Fr a 120 s → a + 240 * qs.length < 2 ^ 40 →
    ∃ r2', forF (evT cv (Phi (n + 3)) (.nm 2)) (evB cv (Phi (n + 3)) [.asg (.nm 1) (.call i_law_plus [.var 1, .var 2])]) src (qs.map qd) [r0, some (qd s), r2] S = .ok (.nx [r0, some (qd (sumL s qs)), r2']) S ∧ Fr (a + 240 * qs.length) 120 (sumL s qs)
  | [], s, a, r2, _, fs, _ => ⟨r2, by rw [List.map_nil]; unfold forF; rw [if_pos hs]; rfl, fs⟩
  | q :: qs, s, a, r2, hq, fs, ha => by
    rw [List.length_cons] at ha
    have fq := hq q List.mem_cons_self
    have f2 := fs.add fq (by omega)
    obtain ⟨r2', e, f⟩ := all_loop n S r0 src hs qs (s + q) (a + 240) (some (qd q)) (fun p hp => hq p (List.mem_cons_of_mem _ hp)) f2 (by omega)
    have c := callR_pure (run_lplus n s q S (sm120 fs (by omega)) (sm120 fq (by decide))) (qd_nl _)
    refine ⟨r2', ?_, f.mono (by rw [List.length_cons]; omega)⟩
    have hse : sumL s (q :: qs) = sumL (s + q) qs := rfl
    rw [hse, ← e, List.map_cons]
    conv => lhs; unfold forF
    simp only [hs, if_true, evT_nm, bind_okS, List.set_cons_succ, List.set_cons_zero, evB_cons, evB_nil, evS_asg, ev_call, evL_cons, evL_nil, ev_var, getR, List.getElem?_cons_succ, List.getElem?_cons_zero, c, thenB_nx]
theorem run_lall (n : Nat) (S : Store) (d : Dt) (qs : List Rat) (hd : IsL S d (qs.map qd)) (hq : ∀ q ∈ qs, Fr 240 120 q) (hl : qs.length ≤ 1000) :
    Phi (n + 4) i_law_all [d] S = .ok (qd (sumL 0 qs)) S ∧ Fr (240 * qs.length) 120 (sumL 0 qs) := by
  obtain ⟨r2', e, f⟩ := all_loop n S (some d) (srcOf d (qs.map qd)) (still_loc hd) qs 0 0 none hq .zero (by omega)
  refine ⟨?_, f.mono (by omega)⟩
  rw [phiR (n + 3) rfl (f := f_law_all) rfl _ S rfl]
  have hz : Dt.tup [.int 0, .int 1] = qd 0 := rfl
  have hr0 : (List.map some [d] ++ List.replicate (f_law_all.sz - f_law_all.ar) none) = [some d, none, none] := rfl
  rw [hr0]
  simp only [f_law_all, evB_cons, evS_asg, ev_tup, evL_cons, evL_nil, ev_int, bind_okS, tupK2, hz, evT_nm, List.set_cons_succ, List.set_cons_zero, thenB_nx, evS_forr, evI_seq, ev_var, getR, List.getElem?_cons_succ, List.getElem?_cons_zero, hd.seqK, e, evS_ret, thenB_rt, endF_rt]
def firsts : List Rat := [1, Rat.divInt 1 2, 2, Rat.divInt 1 4, Rat.divInt (-1) 2, Rat.divInt 3 4, Rat.divInt 1 3, Rat.divInt (-1) 4, Rat.divInt 6 5]
def nexts : List Rat := [Rat.divInt 1 2, 0, Rat.divInt 1 4, Rat.divInt (-1) 4, Rat.divInt 1 3, Rat.divInt (-1) 8, 1, Rat.divInt 2 5, Rat.divInt (-1) 2]
theorem frn120 (t : Int) (d c : Nat) (h : 120 = d * c) (hc : 0 < c) (hn : (t * c).natAbs ≤ 120) : Fr 120 120 (Rat.divInt t d) := by
  refine ⟨t * c, ?_, hn⟩
  have : ((120 : Nat) : Int) = (d : Int) * (c : Int) := by rw [h]; exact Int.natCast_mul ..
  rw [this, Rat.divInt_mul_right (by omega)]
theorem sumL_fr : ∀ (ps : List Rat) (s : Rat) (a : Nat), Fr a 120 s → (∀ q ∈ ps, Fr 120 120 q) → Fr (a + 120 * ps.length) 120 (sumL s ps)
  | [], s, a, h, _ => h
  | q :: ps, s, a, h, hq => by
    have := sumL_fr ps (s + q) (a + 120) (h.add (hq q List.mem_cons_self) (by omega)) fun p hp => hq p (List.mem_cons_of_mem _ hp)
    exact this.mono (by rw [List.length_cons]; omega)
theorem fr120 (t : Int) (d c : Nat) (h : 120 = d * c) (hc : 0 < c) (hn : (t * c).natAbs ≤ 240) : Fr 240 120 (Rat.divInt t d) := by
  refine ⟨t * c, ?_, hn⟩
  have : ((120 : Nat) : Int) = (d : Int) * (c : Int) := by rw [h]; exact Int.natCast_mul ..
  rw [this, Rat.divInt_mul_right (by omega)]
theorem firsts_fr : ∀ q ∈ firsts, Fr 240 120 q ∧ q ≠ 0 := by
  intro q hq
  unfold firsts at hq
  simp only [List.mem_cons, List.not_mem_nil, or_false] at hq
  rcases hq with rfl | rfl | rfl | rfl | rfl | rfl | rfl | rfl | rfl
  · exact ⟨fr120 1 1 120 rfl (by omega) (by decide), by decide⟩
  · exact ⟨fr120 1 2 60 rfl (by omega) (by decide), by decide⟩
  · exact ⟨fr120 2 1 120 rfl (by omega) (by decide), by decide⟩
  · exact ⟨fr120 1 4 30 rfl (by omega) (by decide), by decide⟩
  · exact ⟨fr120 (-1) 2 60 rfl (by omega) (by decide), by decide⟩
  · exact ⟨fr120 3 4 30 rfl (by omega) (by decide), by decide⟩
  · exact ⟨fr120 1 3 40 rfl (by omega) (by decide), by decide⟩
  · exact ⟨fr120 (-1) 4 30 rfl (by omega) (by decide), by decide⟩
  · exact ⟨fr120 6 5 24 rfl (by omega) (by decide), by decide⟩
theorem nexts_fr : ∀ q ∈ nexts, Fr 120 120 q := by
  intro q hq
  unfold nexts at hq
  simp only [List.mem_cons, List.not_mem_nil, or_false] at hq
  rcases hq with rfl | rfl | rfl | rfl | rfl | rfl | rfl | rfl | rfl
  · exact frn120 1 2 60 rfl (by omega) (by decide)
  · exact .zero
  · exact frn120 1 4 30 rfl (by omega) (by decide)
  · exact frn120 (-1) 4 30 rfl (by omega) (by decide)
  · exact frn120 1 3 40 rfl (by omega) (by decide)
  · exact frn120 (-1) 8 15 rfl (by omega) (by decide)
  · exact frn120 1 1 120 rfl (by omega) (by decide)
  · exact frn120 2 5 24 rfl (by omega) (by decide)
  · exact frn120 (-1) 2 60 rfl (by omega) (by decide)
def firstsE : IEx := .lst [.tup [.int 1, .int 1], .tup [.int 1, .int 2], .tup [.int 2, .int 1], .tup [.int 1, .int 4], .tup [.neg (.int 1), .int 2], .tup [.int 3, .int 4], .tup [.int 1, .int 3], .tup [.neg (.int 1), .int 4], .tup [.int 6, .int 5]]
def nextsE : IEx := .lst [.tup [.int 1, .int 2], .tup [.int 0, .int 1], .tup [.int 1, .int 4], .tup [.neg (.int 1), .int 4], .tup [.int 1, .int 3], .tup [.neg (.int 1), .int 8], .tup [.int 1, .int 1], .tup [.int 2, .int 5], .tup [.neg (.int 1), .int 2]]
theorem ev_firsts (Ph : Nat → List Dt → Mo Dt) (r : Rho) (S : Store) : evE cv Ph firstsE r S = .ok (.lst (firsts.map qd)) S := by
  have e : firsts.map qd = [.tup [.int 1, .int 1], .tup [.int 1, .int 2], .tup [.int 2, .int 1], .tup [.int 1, .int 4], .tup [.int (-1), .int 2], .tup [.int 3, .int 4], .tup [.int 1, .int 3], .tup [.int (-1), .int 4], .tup [.int 6, .int 5]] := sameAll_eq _ _ (by decide +kernel)
  rw [e]
  simp [firstsE, lstK_ok]
theorem ev_nexts (Ph : Nat → List Dt → Mo Dt) (r : Rho) (S : Store) : evE cv Ph nextsE r S = .ok (.lst (nexts.map qd)) S := by
  have e : nexts.map qd = [.tup [.int 1, .int 2], .tup [.int 0, .int 1], .tup [.int 1, .int 4], .tup [.int (-1), .int 4], .tup [.int 1, .int 3], .tup [.int (-1), .int 8], .tup [.int 1, .int 1], .tup [.int 2, .int 5], .tup [.int (-1), .int 2]] := sameAll_eq _ _ (by decide +kernel)
  rw [e]
  simp [nextsE, lstK_ok]
end K77
namespace K77
open PySem Pz
theorem esieve_loop (n : Nat) (m : Nat) (r1 r4 : Option Dt) : ∀ (c i : Nat) (S : Store) (qs : List Rat) (N : Nat) (r3 : Option Dt), Spr S m N → N + c < 999000 → qs.length + c ≤ 1000 → (∀ q ∈ qs, Fr 240 120 q) →
    ∃ (S' : Store) (ps : List Rat) (r3' : Option Dt), forF (evT cv (Phi (n + 2)) (.nm 3)) (evB cv (Phi (n + 2)) [.ex (.mth .append (.var 2) [.call i_law_pick [.var 0, nextsE]])]) [] (rngL i 1 c) [some (.loc m), r1, some (.loc S.length), r3, r4] (S ++ [qs.map qd])
      = .ok (.nx [some (.loc m), r1, some (.loc S.length), r3', r4]) (S' ++ [(qs ++ ps).map qd]) ∧ ps.length = c ∧ Up S S' m ∧ Spr S' m (N + c) ∧ ∀ q ∈ ps, Fr 120 120 q
  | 0, i, S, qs, N, r3, h, hN, hl, hq => ⟨S, [], r3, by rw [List.append_nil]; rfl, rfl, Up.refl S m, h, fun q hq => by cases hq⟩
  | c + 1, i, S, qs, N, r3, h, hN, hl, hq => by
    obtain ⟨q, S2, mq, e1, u1, s1⟩ := run_pick_q n (S ++ [qs.map qd]) m N nexts (h.app _) (by omega) (by decide) (by decide)
    have fq := nexts_fr q mq
    obtain ⟨S3, rfl, u3, s3⟩ := u1.unapp h.lt s1
    have happ := app_q (S := S3) (qs := qs) q (by omega)
    rw [u3.1] at happ
    obtain ⟨S', ps, r3', e, hp, u, s, f⟩ := esieve_loop n m r1 r4 c (i + 1) S3 (qs ++ [q]) (N + 1) (some (.int i)) s3 (by omega) (by rw [List.length_append, List.length_singleton]; omega) (fun p hp => by
      rcases List.mem_append.mp hp with hp | hp
      · exact hq p hp
      · rw [List.mem_singleton] at hp; rw [hp]; exact fq.mono (by omega))
    refine ⟨S', q :: ps, r3', ?_, by rw [List.length_cons, hp], u3.trans u, s.mono (by omega), fun p hp => ?_⟩
    · rw [u3.1, show (qs ++ [q]) ++ ps = qs ++ q :: ps by simp] at e
      rw [rngL_succ, ← e, show ((i + 1 : Nat) : Int) = (i : Int) + 1 from rfl]
      conv => lhs; unfold forF
      simp only [still_nil, if_true, evT_nm, bind_okS, List.set_cons_succ, List.set_cons_zero, evB_cons, evB_nil, evS_ex, ev_mth, ev_var, ev_call, evL_cons, evL_nil, ev_nexts, getR, List.getElem?_cons_succ, List.getElem?_cons_zero, e1, happ, thenB_nx]
    · rcases List.mem_cons.mp hp with rfl | hp
      · exact fq
      · exact f p hp
/-- a row times 1 + z -/
theorem onez (n : Nat) (S : Store) (qs : List Rat) (hq : ∀ q ∈ qs, Fr 720 120 q) (hne : qs ≠ []) (h0 : ∀ q, qs.head? = some q → q ≠ 0) (hl : ∀ q, qs.getLast? = some q → q ≠ 0) (h7 : qs.length ≤ 100) :
    ∃ P, callR (Phi (n + 3)) i_law_times [.tup [.int 0, .tup [.tup [.int 1, .int 1], .tup [.int 1, .int 1]]], .tup [.int 0, .tup (qs.map qd)]] S = .ok (rd P) S ∧ Nf P ∧ P.1 = 0 ∧ P.2.length = qs.length + 1 ∧ ∀ q ∈ P.2, Fr 1440 120 q := by
  have e1 : Dt.tup [.int 0, .tup [.tup [.int 1, .int 1], .tup [.int 1, .int 1]]] = rd (0, [1, 1]) := rfl
  have e2 : Dt.tup [.int 0, .tup (qs.map qd)] = rd (0, qs) := rfl
  have n1 : Nf ((0, [1, 1]) : Int × List Rat) := by
    refine ⟨fun e => absurd e (by simp), fun q hq => ?_, fun q hq => ?_⟩
    · have : (1 : Rat) = q := Option.some.inj hq
      rw [← this]; decide
    · have : (1 : Rat) = q := Option.some.inj hq
      rw [← this]; decide
  have n2 : Nf ((0, qs) : Int × List Rat) := ⟨fun e => absurd e hne, h0, hl⟩
  have f1 : ∀ a ∈ ((0, [1, 1]) : Int × List Rat).2, Fr 1 1 a := fun a ha => by
    have : a = 1 := by
      have ha : a ∈ [(1 : Rat), 1] := ha
      simpa using ha
    rw [this]; exact ⟨1, rfl, by decide⟩
  obtain ⟨P, g1, g2, g3⟩ := run_ltimes n (0, [1, 1]) (0, qs) S n1 n2 (by omega : 0 < 1) (by omega : 0 < 120) f1 hq ((sz_of (n := 1) (by decide)).mono (by omega)) ((sz_of (n := 11) (by decide)).mono (by omega)) ((sz_of (n := 1) (by decide)).mono (by omega)) ((sz_of (n := 7) (by decide)).mono (by omega)) (by simp) (by show qs.length < 1000; omega)
  have hv : ∀ k, val P k = val (0, qs) k + val (0, qs) (k - 1) := fun k => by
    rw [g3]
    show ((0 : Rat) + (1 : Rat) * val (0, qs) (k - 0 - ((0 : Nat) : Int))) + (1 : Rat) * val (0, qs) (k - 0 - ((1 : Nat) : Int)) = _
    rw [Rat.zero_add, Rat.one_mul, Rat.one_mul, show k - 0 - ((0 : Nat) : Int) = k by omega, show k - 0 - ((1 : Nat) : Int) = k - 1 by omega]
  have pl : 0 < qs.length := List.length_pos_iff.mpr hne
  have v0 : val P 0 ≠ 0 := by
    rw [hv, val_out (R := (0, qs)) (k := 0 - 1) (fun z => by have := z.1; dsimp only at this; omega), Rat.add_zero]
    exact nf_val0 n2 hne
  have vl : val P (qs.length : Int) ≠ 0 := by
    rw [hv, val_out (R := (0, qs)) (k := (qs.length : Int)) (fun z => by have := z.2; dsimp only at this; omega), Rat.zero_add, val_in (by show (0 : Int) ≤ _; omega)]
    rw [show ((qs.length : Int) - 1 - ((0, qs) : Int × List Rat).1).toNat = qs.length - 1 by show ((qs.length : Int) - 1 - 0).toNat = _; omega, getD_of (List.getElem?_eq_getElem (show qs.length - 1 < qs.length by omega))]
    exact hl _ (by rw [List.getLast?_eq_getElem?, List.getElem?_eq_getElem (show qs.length - 1 < qs.length by omega)])
  have hin : In 0 (qs.length + 1) P := fun k hk => by
    refine Decidable.byContradiction fun z => hk ?_
    rw [hv, val_out (R := (0, qs)) (k := k) (fun y => z (by have := y.1; have := y.2; dsimp only at *; omega)), val_out (R := (0, qs)) (k := k - 1) (fun y => z (by have := y.1; have := y.2; dsimp only at *; omega)), Rat.add_zero]
  have hs := in_self P 0 v0
  have hs2 := in_self P _ vl
  have hst := (hin.start g2).resolve_left fun e => v0 (by rw [e]; rfl)
  refine ⟨P, by rw [e1, e2]; exact g1, g2, by omega, by omega, fun q hq' => ?_⟩
  obtain ⟨k, rfl⟩ := mem_val hq'
  rw [g3]
  exact conv_fr (R1 := (0, [1, 1])) (R2 := (0, qs)) (by omega : 0 < 1) (by omega : 0 < 120) f1 hq k
theorem run_esieve (n : Nat) (S : Store) (m N most : Nat) (h : Spr S m N) (hN : N < 900000) (h2 : 3 ≤ most) (h7 : most ≤ 6) :
    ∃ (P : Int × List Rat) (S' : Store), (Mrow P 120 most ∧ ∀ q ∈ P.2, Fr 1440 120 q) ∧ callR (Phi (n + 5)) i_law_even_sieve [.loc m, .int most] S = .ok (rd P) S' ∧ Up S S' m ∧ Spr S' m (N + 100) := by
  obtain ⟨q0, S1, mq0, e1, u1, s1⟩ := run_pick_q (n + 2) S m N firsts h (by omega) (by decide) (by decide)
  obtain ⟨f0, n0⟩ := firsts_fr q0 mq0
  have hm1 := s1.lt
  have hth : thawK (.lst [qd q0]) S1 = .ok (.loc S1.length) (S1 ++ [[q0].map qd]) := rfl
  obtain ⟨i, S2, hi, e2, u2, s2⟩ := run_sip (n + 3) (S1 ++ [[q0].map qd]) m (N + 1) (most - 2) (s1.app _) (by omega) (by omega) (by omega)
  have c2 := callR_mut e2 rfl u2.1
  obtain ⟨S3, rfl, u3, s3⟩ := u2.unapp hm1 s2
  obtain ⟨S4, ps, r3', e4, hp, u4, s4, f4⟩ := esieve_loop (n + 2) m (some (.int most)) none i 0 S3 [q0] (N + 2) none s3 (by omega) (by simp; omega) (fun q hq => by rw [List.mem_singleton] at hq; rw [hq]; exact f0)
  have u14 := (u1.trans u3).trans u4
  have lS1 : S1.length = S.length := u1.1
  have lS3 : S3.length = S.length := (u1.trans u3).1
  have lS4 : S4.length = S.length := u14.1
  obtain ⟨qs, hqs⟩ : ∃ qs, qs = [q0] ++ ps := ⟨_, rfl⟩
  rw [← hqs] at e4
  have qf : ∀ q ∈ qs, Fr 240 120 q := fun q hq => by
    rw [hqs] at hq
    rcases List.mem_append.mp hq with hq | hq
    · rw [List.mem_singleton] at hq; rw [hq]; exact f0
    · exact (f4 q hq).mono (by omega)
  have ql : qs.length = i + 1 := by rw [hqs, List.length_append, hp, List.length_singleton]; omega
  have qne : qs ≠ [] := fun e => by rw [e] at ql; simp at ql
  have qhd : qs.head? = some q0 := by rw [hqs]; rfl
  obtain ⟨S5, hS5⟩ : ∃ S5, S5 = S4 ++ [qs.map qd] := ⟨_, rfl⟩
  have hloc : IsL S5 (.loc S.length) (qs.map qd) := isL_loc (by rw [hS5, ← lS4]; exact get_append)
  obtain ⟨ea, fa⟩ := run_lall n S5 (.loc S.length) qs hloc qf (by omega)
  have ca := callR_pure ea (qd_nl _)
  have one120 : Fr 120 120 (1 : Rat) := ⟨120, rfl, by decide⟩
  obtain ⟨lf, hlf⟩ : ∃ lf, lf = 1 - sumL 0 qs := ⟨_, rfl⟩
  have ff : Fr 720 120 lf := by
    rw [hlf]
    have e : sumL 0 qs = sumL (0 + q0) ps := by rw [hqs]; rfl
    have := sumL_fr ps (0 + q0) 240 (by rw [Rat.zero_add]; exact f0) f4
    rw [e]
    exact (one120.sub this (by omega)).mono (by omega)
  have cm := callR_pure (run_lminus (n + 1) 1 (sumL 0 qs) S5 (sm120 one120 (by decide)) (sm120 fa (by omega))) (qd_nl _)
  rw [← hlf] at cm
  have h1 : Dt.tup [.int 1, .int 1] = qd 1 := rfl
  -- the list at the end, its place in the store
  have fin : ∃ (S6 : Store) (d : Dt) (rs : List Rat) (L : List Dt), S6 = S4 ++ [L] ∧
      (∀ ss r3, (evS cv (Phi (n + 4)) (.iff (.eq true (.ix (.var 4) (.int 0)) (.int 0)) [.ex (.mth .append (.var 2) [.var 4])] []) [some (.loc m), some (.int most), some (.loc S.length), r3, some (qd lf)] S5).bind (thenB cv (Phi (n + 4)) (.asg (.nm 2) (.ite (.eq true (.ix (.ix (.var 2) (.neg (.int 1))) (.int 0)) (.int 0)) (.var 2) (.cat (.sl (.var 2) .absent (.neg (.int 1))) (.lst [.tup [.int 1, .int 3], .tup [.neg (.int 1), .int 3]]))) :: ss)) = evB cv (Phi (n + 4)) ss [some (.loc m), some (.int most), some d, r3, some (qd lf)] S6) ∧
      bltD S6 .tuple [d] = .ok (.tup (rs.map qd)) S6 ∧ rs ≠ [] ∧ rs.length ≤ most - 1 ∧ (∀ q, rs.head? = some q → q ≠ 0) ∧ (∀ q, rs.getLast? = some q → q ≠ 0) ∧ ∀ q ∈ rs, Fr 720 120 q := by
    have ixl : ∀ (S' : Store) (ts : List Rat) (q : Rat), S'[S.length]? = some (ts.map qd) → ts.getLast? = some q → ixD S' (.loc S.length) (.int (-1)) = .ok (qd q) S' := fun S' ts q h1 h2 => by
      have := atI_last (xs := ts.map qd) (a := qd q) (by rw [List.getLast?_map, h2]; rfl)
      have h2 := (isL_loc h1).seq
      unfold ixD
      simp only [h2, this]
    by_cases hz : lf = 0
    · -- nothing is left
      obtain ⟨ql', hql⟩ : ∃ q, qs.getLast? = some q := ⟨qs.getLast qne, List.getLast?_eq_some_getLast qne⟩
      have x1 := ixl S5 qs ql' hloc.2 hql
      have s1e : ∀ r3, evS cv (Phi (n + 4)) (.iff (.eq true (.ix (.var 4) (.int 0)) (.int 0)) [.ex (.mth .append (.var 2) [.var 4])] []) [some (.loc m), some (.int most), some (.loc S.length), r3, some (qd lf)] S5 = .ok (.nx [some (.loc m), some (.int most), some (.loc S.length), r3, some (qd lf)]) S5 := fun r3 => by
        rw [hz]; simp [getR, eqD_int]
      by_cases hl0 : ql' = 0
      · -- the last one is 0
        have hcut : slK (.loc S.length) none (some (-1)) S5 = .ok (.lst (qs.dropLast.map qd)) S5 := by
          rw [hloc.sl]
          congr 2
          unfold cutD
          have a1 : HT.sIx (qs.map qd).length 0 none = 0 := rfl
          have a2 : HT.sIx (qs.map qd).length (qs.map qd).length (some (-1)) = qs.length - 1 := by
            rw [List.length_map]
            unfold HT.sIx
            simp
            omega
          rw [a1, a2, List.drop_zero, Nat.sub_zero, ← List.map_take, List.dropLast_eq_take]
        have hthird : Fr 720 120 (Rat.divInt 1 3) := (fr120 1 3 40 rfl (by omega) (by decide)).mono (by omega)
        have hthird2 : Fr 720 120 (Rat.divInt (-1) 3) := (fr120 (-1) 3 40 rfl (by omega) (by decide)).mono (by omega)
        have t1 : Dt.tup [.int 1, .int 3] = qd (Rat.divInt 1 3) := rfl
        have t2 : Dt.tup [.int (-1), .int 3] = qd (Rat.divInt (-1) 3) := rfl
        have hcat := catK_lst (S := S5) (a := qs.dropLast.map qd) (b := [qd (Rat.divInt 1 3), qd (Rat.divInt (-1) 3)]) (by rw [List.length_map, List.length_dropLast]; simp; omega)
        refine ⟨S5, .lst ((qs.dropLast ++ [Rat.divInt 1 3, Rat.divInt (-1) 3]).map qd), qs.dropLast ++ [Rat.divInt 1 3, Rat.divInt (-1) 3], _, hS5, fun ss r3 => ?_, rfl, by simp, by simp [List.length_dropLast]; omega, fun q hq => ?_, fun q hq => ?_, fun q hq => ?_⟩
        · rw [s1e, bind_okS, thenB_nx]
          rw [hl0] at x1
          rw [List.map_append]
          have e0 : eqD S5 true (.int (0 : Rat).num) (.int 0) = .ok (.bl false) S5 := by rw [eqD_int]; rfl
          simp only [evB_cons, evS_asg, ev_ite, ev_eq, ev_ix, ev_var, ev_neg, ev_int, getR, List.getElem?_cons_succ, List.getElem?_cons_zero, bind_okS, negK_int, x1, ixD_qd0, e0, toB_bl, Bool.false_eq_true, if_false, ev_cat, ev_sl, IEx.isAbs, if_true, partK, hcut, ev_lst, ev_tup, evL_cons, evL_nil, tupK2, t1, t2, lstK2, hcat, evT_nm, List.set_cons_succ, List.set_cons_zero, thenB_nx]
          rfl
        · have hi0 : 0 < i := by
            refine Nat.pos_of_ne_zero fun z => ?_
            subst z
            have : qs = [q0] := by
              have : ps = [] := List.length_eq_zero_iff.mp hp
              rw [hqs, this]; rfl
            rw [this] at hql
            have : q0 = ql' := Option.some.inj hql
            exact n0 (this.trans hl0)
          have : (qs.dropLast ++ [Rat.divInt 1 3, Rat.divInt (-1) 3]).head? = some q0 := by
            rw [List.head?_append, Option.or_of_isSome]
            · rw [List.head?_eq_getElem?, List.getElem?_dropLast, if_pos (by omega), ← List.head?_eq_getElem?]; exact qhd
            · rw [List.head?_eq_getElem?, List.getElem?_dropLast, if_pos (by omega), ← List.head?_eq_getElem?, qhd]; rfl
          rw [this] at hq
          rw [← Option.some.inj hq]; exact n0
        · rw [List.getLast?_append] at hq
          have : Rat.divInt (-1) 3 = q := Option.some.inj hq
          rw [← this]; decide
        · rcases List.mem_append.mp hq with hq | hq
          · exact (qf q (List.dropLast_subset _ hq)).mono (by omega)
          · simp only [List.mem_cons, List.not_mem_nil, or_false] at hq
            rcases hq with rfl | rfl
            · exact hthird
            · exact hthird2
      · refine ⟨S5, .loc S.length, qs, _, hS5, fun ss r3 => ?_, ?_, qne, by omega, fun q hq => ?_, fun q hq => ?_, fun q hq => (qf q hq).mono (by omega)⟩
        · rw [s1e, bind_okS, thenB_nx]
          have e0 : eqD S5 true (.int ql'.num) (.int 0) = .ok (.bl true) S5 := by rw [eqD_int, decide_eq_false (num_ne hl0)]; rfl
          simp only [evB_cons, evS_asg, ev_ite, ev_eq, ev_ix, ev_var, ev_neg, ev_int, getR, List.getElem?_cons_succ, List.getElem?_cons_zero, bind_okS, negK_int, x1, ixD_qd0, e0, toB_bl, if_true, evT_nm, List.set_cons_succ, List.set_cons_zero, thenB_nx]
        · show optK (asSeq S5 (.loc S.length)) _ = _
          rw [hloc.seq]; rfl
        · rw [qhd] at hq
          rw [← Option.some.inj hq]; exact n0
        · rw [hql] at hq
          rw [← Option.some.inj hq]; exact hl0
    · -- what is left is put at the end
      obtain ⟨S6, hS6⟩ : ∃ S6, S6 = S4 ++ [(qs ++ [lf]).map qd] := ⟨_, rfl⟩
      have happ := app_q (S := S4) (qs := qs) lf (by omega)
      rw [lS4, ← hS5, ← hS6] at happ
      have g6 : S6[S.length]? = some ((qs ++ [lf]).map qd) := by rw [hS6, ← lS4]; exact get_append
      have x1 := ixl S6 (qs ++ [lf]) lf g6 (by simp)
      have hn := num_ne hz
      refine ⟨S6, .loc S.length, qs ++ [lf], _, hS6, fun ss r3 => ?_, ?_, by simp, by simp; omega, fun q hq => ?_, fun q hq => ?_, fun q hq => ?_⟩
      · have e0 : eqD S5 true (.int lf.num) (.int 0) = .ok (.bl true) S5 := by rw [eqD_int, decide_eq_false hn]; rfl
        have e1 : eqD S6 true (.int lf.num) (.int 0) = .ok (.bl true) S6 := by rw [eqD_int, decide_eq_false hn]; rfl
        simp only [evS_iff, ev_eq, ev_ix, ev_var, ev_int, getR, List.getElem?_cons_succ, List.getElem?_cons_zero, bind_okS, ixD_qd0, e0, toB_bl, if_true, evB_cons, evS_ex, ev_mth, evL_cons, evL_nil, happ, thenB_nx, evB_nil, evS_asg, ev_ite, ev_neg, negK_int, x1, e1, evT_nm, List.set_cons_succ, List.set_cons_zero]
      · show optK (asSeq S6 (.loc S.length)) _ = _
        rw [(isL_loc g6).seq]; rfl
      · have : (qs ++ [lf]).head? = some q0 := by rw [List.head?_append, qhd]; rfl
        rw [this] at hq
        rw [← Option.some.inj hq]; exact n0
      · rw [List.getLast?_append] at hq
        have : lf = q := Option.some.inj hq
        rw [← this]; exact hz
      · rcases List.mem_append.mp hq with hq | hq
        · exact (qf q hq).mono (by omega)
        · rw [List.mem_singleton] at hq; rw [hq]; exact ff
  obtain ⟨S6, d, rs, L, hS6, hev, htup, hrne, hrl, hrh, hrt, hrf⟩ := fin
  obtain ⟨P, p1, p2, p3, p4, p5⟩ := onez (n + 1) S6 rs hrf hrne hrh hrt (by omega)
  have rpos : 0 < rs.length := List.length_pos_iff.mpr hrne
  refine ⟨P, S4, ⟨⟨p2, p3, by omega, by omega, fun q hq => (p5 q hq).mono (by omega), by omega, by omega⟩, p5⟩, ?_, u14, s4.mono (by omega)⟩
  have main : Phi (n + 5) i_law_even_sieve [.loc m, .int most] S = .ok (rd P) S6 := by
    rw [phiR (n + 4) rfl (f := f_law_even_sieve) rfl _ S rfl]
    have hr0 : (List.map some [Dt.loc m, .int most] ++ List.replicate (f_law_even_sieve.sz - f_law_even_sieve.ar) none) = [some (.loc m), some (.int most), none, none, none] := rfl
    rw [hr0]
    have hI : evI cv (Phi (n + 4)) (.rng1 (.call i_law_sip [.var 0, .bin .sub (.var 1) (.int 2)])) [some (.loc m), some (.int most), some (.loc S.length), none, none] (S1 ++ [[q0].map qd]) = .ok ⟨rngL 0 1 i, []⟩ (S3 ++ [[q0].map qd]) := by
      have em : ((most : Int) - 2) = ((most - 2 : Nat) : Int) := by omega
      have hc : evE cv (Phi (n + 4)) (.call i_law_sip [.var 0, .bin .sub (.var 1) (.int 2)]) [some (.loc m), some (.int most), some (.loc S.length), none, none] (S1 ++ [[q0].map qd]) = .ok (.int i) (S3 ++ [[q0].map qd]) := by
        simp only [ev_call, evL_cons, evL_nil, ev_var, ev_bin, ev_int, getR, List.getElem?_cons_succ, List.getElem?_cons_zero, bind_okS, bin_sub, em, c2]
      rw [evI_rng1, hc, bind_okS, rng1_ok (okR_small (by omega))]
    rw [lS3] at e4
    rw [lS1] at hth
    rw [show ((0 : Nat) : Int) = 0 from rfl, ← hS5] at e4
    have hfe : f_law_even_sieve.body = [.asg (.nm 2) (.thaw (.lst [.call i_law_pick [.var 0, firstsE]])),
      .forr (.nm 3) (.rng1 (.call i_law_sip [.var 0, .bin .sub (.var 1) (.int 2)])) [.ex (.mth .append (.var 2) [.call i_law_pick [.var 0, nextsE]])],
      .asg (.nm 4) (.call i_law_minus [.tup [.int 1, .int 1], .call i_law_all [.var 2]]),
      .iff (.eq true (.ix (.var 4) (.int 0)) (.int 0)) [.ex (.mth .append (.var 2) [.var 4])] [],
      .asg (.nm 2) (.ite (.eq true (.ix (.ix (.var 2) (.neg (.int 1))) (.int 0)) (.int 0)) (.var 2) (.cat (.sl (.var 2) .absent (.neg (.int 1))) (.lst [.tup [.int 1, .int 3], .tup [.neg (.int 1), .int 3]]))),
      .ret (.call i_law_times [.tup [.int 0, .tup [.tup [.int 1, .int 1], .tup [.int 1, .int 1]]], .tup [.int 0, .blt .tuple [.var 2]]])] := rfl
    have A1 : evS cv (Phi (n + 4)) (.asg (.nm 2) (.thaw (.lst [.call i_law_pick [.var 0, firstsE]]))) [some (.loc m), some (.int most), none, none, none] S = .ok (.nx [some (.loc m), some (.int most), some (.loc S.length), none, none]) (S1 ++ [[q0].map qd]) := by
      simp only [evS_asg, ev_thaw, ev_lst, evL_cons, evL_nil, ev_call, ev_var, ev_firsts, getR, List.getElem?_cons_succ, List.getElem?_cons_zero, bind_okS, e1, lstK1, hth, evT_nm, List.set_cons_succ, List.set_cons_zero]
    have A2 : evS cv (Phi (n + 4)) (.forr (.nm 3) (.rng1 (.call i_law_sip [.var 0, .bin .sub (.var 1) (.int 2)])) [.ex (.mth .append (.var 2) [.call i_law_pick [.var 0, nextsE]])]) [some (.loc m), some (.int most), some (.loc S.length), none, none] (S1 ++ [[q0].map qd]) = .ok (.nx [some (.loc m), some (.int most), some (.loc S.length), r3', none]) S5 := by
      rw [evS_forr, hI, bind_okS]; exact e4
    have A3 : evS cv (Phi (n + 4)) (.asg (.nm 4) (.call i_law_minus [.tup [.int 1, .int 1], .call i_law_all [.var 2]])) [some (.loc m), some (.int most), some (.loc S.length), r3', none] S5 = .ok (.nx [some (.loc m), some (.int most), some (.loc S.length), r3', some (qd lf)]) S5 := by
      simp only [evS_asg, ev_call, evL_cons, evL_nil, ev_tup, ev_int, bind_okS, tupK2, ev_var, getR, List.getElem?_cons_succ, List.getElem?_cons_zero, ca, h1, cm, evT_nm, List.set_cons_succ, List.set_cons_zero]
    rw [hfe, evB_cons, A1, bind_okS, thenB_nx, evB_cons, A2, bind_okS, thenB_nx, evB_cons, A3, bind_okS, thenB_nx, evB_cons, hev]
    simp only [evB_cons, evS_ret, ev_call, evL_cons, evL_nil, ev_tup, ev_int, bind_okS, tupK2, ev_blt, ev_var, getR, List.getElem?_cons_succ, List.getElem?_cons_zero, htup, p1, thenB_rt, endF_rt]
  unfold callR
  rw [main]
  show Res.ok (resol S.length _ (rd P)) (S6.take S.length) = _
  rw [resol_nl _ (rd_nl _), hS6, ← lS4, List.take_left]
end K77
namespace K77
open PySem Pz
/-! ### masks from rows -/
noncomputable def numF {N D : Nat} {m : Int → Rat} (h : ∀ k, Fr N D (m k)) (k : Int) : Int := open Classical in if m k = 0 then 0 else (h k).choose
theorem mk_msk {P : Int × List Rat} {E most : Nat} (h : Mrow P E most) (h7 : most ≤ 7) : ∃ A, Msk P (val P) A E P.2.length := by
  have hfr : ∀ k, Fr 3600 E (val P k) := fun k => Fr.at h.fr k
  have hA : ∀ k, val P k = Rat.divInt (numF hfr k) E ∧ (numF hfr k).natAbs ≤ 3600 ∧ (val P k = 0 → numF hfr k = 0) := fun k => by
    unfold numF
    split
    · rename_i e; exact ⟨by rw [e, Rat.zero_divInt], by decide, fun _ => rfl⟩
    · rename_i e; exact ⟨(hfr k).choose_spec.1, (hfr k).choose_spec.2, fun z => absurd z e⟩
  have hlm := h.lm
  have supp : Mk (val P) P.2.length := fun k hk => by
    have := in_self P k hk
    rw [h.z] at this
    omega
  refine ⟨numF hfr, ⟨⟨fun i hi => (hA i).2.2 (Classical.byContradiction fun z => by have := supp i z; omega), fun i => (hA i).2.1⟩, fun i => (hA i).1, h.E0, supp, h.l2, by omega, ?_⟩, h.nf, fun k => rfl, h.z, rfl, h.E1⟩
  have := Nat.mul_le_mul h.E1 h.E1
  omega
theorem itx_congr {m m' : Int → Rat} (h : ∀ k, qv m k = qv m' k) : itx m = itx m' := by
  have hs : stepx m = stepx m' := by
    funext y p
    unfold stepx
    congr 1
    exact sm_congr fun t _ => by rw [h]
  funext k
  induction k with
  | zero => rfl
  | succ k ih =>
    show stepx m (itx m k) = stepx m' (itx m' k)
    rw [hs, ih]
/-- the mask turned back to front -/
theorem rev_val (P : Int × List Rat) (hz : P.1 = 0) (k : Int) : val (0, P.2.reverse) k = val P (P.2.length - 1 - k) := by
  unfold val
  rw [hz]
  dsimp only
  by_cases h1 : 0 ≤ k
  · rw [if_pos h1]
    by_cases h2 : k < P.2.length
    · rw [if_pos (by omega), List.getD_eq_getElem?_getD, List.getElem?_reverse (by omega), ← List.getD_eq_getElem?_getD]
      congr 1; omega
    · rw [if_neg (by omega), getD_big (by rw [List.length_reverse]; omega)]
  · rw [if_neg h1]
    split
    · rw [getD_big (by omega)]
    · rfl
theorem rev_mrow {P : Int × List Rat} {E most : Nat} (h : Mrow P E most) : Mrow (0, P.2.reverse) E most := by
  refine ⟨⟨fun _ => rfl, fun q hq => ?_, fun q hq => ?_⟩, rfl, by show 2 ≤ P.2.reverse.length; rw [List.length_reverse]; exact h.l2, by show P.2.reverse.length ≤ most; rw [List.length_reverse]; exact h.lm, fun q hq => h.fr q (List.mem_reverse.mp hq), h.E0, h.E1⟩
  · have hq : P.2.reverse.head? = some q := hq
    rw [List.head?_reverse] at hq
    exact h.nf.last q hq
  · have hq : P.2.reverse.getLast? = some q := hq
    rw [List.getLast?_reverse] at hq
    exact h.nf.hd q hq
theorem rev_qv {P : Int × List Rat} {E most : Nat} (h : Mrow P E most) (h7 : most ≤ 7) (k : Int) : qv (val (0, P.2.reverse)) k = qv (val P) k := by
  obtain ⟨A, hM⟩ := mk_msk h h7
  have hlm := h.lm
  have hl2 := h.l2
  have supp := hM.ok.supp
  rw [← qv_sym supp (by omega)]
  unfold qv
  -- both over w places, the one turned round
  have e1 : sm 7 (fun i => val (0, P.2.reverse) (i : Int) * val (0, P.2.reverse) ((i : Int) - k)) = sm P.2.length fun i => val P ((P.2.length - 1 - i : Nat) : Int) * val P (((P.2.length - 1 - i : Nat) : Int) - -k) := by
    rw [sm_win (a := 0) (b := P.2.length) (n := 7) (by omega) (fun j hj => by omega) fun j h1 h2 => by
      rw [rev_val P h.z]
      have : val P (P.2.length - 1 - (j : Int)) = 0 := Classical.byContradiction fun z => by have := supp _ z; omega
      rw [this, Rat.zero_mul]]
    refine sm_congr fun i hi => ?_
    rw [rev_val P h.z, rev_val P h.z]
    congr 2 <;> omega
  have e2 : sm 7 (fun i => val P (i : Int) * val P ((i : Int) - -k)) = sm P.2.length fun i => val P (i : Int) * val P ((i : Int) - -k) := by
    rw [sm_win (a := 0) (b := P.2.length) (n := 7) (by omega) (fun j hj => by omega) fun j h1 h2 => by
      have : val P (j : Int) = 0 := Classical.byContradiction fun z => by have := supp _ z; omega
      rw [this, Rat.zero_mul]]
    exact sm_congr fun i hi => by rw [Nat.zero_add]
  rw [e1, e2]
  exact (sm_rev (f := fun i => val P (i : Int) * val P ((i : Int) - -k)) P.2.length).symm
/-- with all signs changed -/
theorem neg_mrow {P R : Int × List Rat} {E most : Nat} (h : Mrow P E most) (nR : Nf R) (hR : ∀ k, val R k = val P k * (-1)) : Mrow R E most ∧ R.2.length = P.2.length := by
  have hne : P.2 ≠ [] := fun e => by have := h.l2; rw [e] at this; simp at this
  have ne1 : ∀ k, val R k ≠ 0 ↔ val P k ≠ 0 := fun k => by
    rw [hR]
    constructor
    · intro z e; exact z (by rw [e, Rat.zero_mul])
    · intro z e
      rcases Rat.mul_eq_zero.mp e with q | q
      · exact z q
      · exact absurd q (by decide)
  have i1 : In P.1 (P.1 + P.2.length) R := fun k hk => in_self P k ((ne1 k).mp hk)
  have i2 : In R.1 (R.1 + R.2.length) P := fun k hk => in_self R k ((ne1 k).mpr hk)
  have a2 := (i2.start h.nf).resolve_left fun z => hne (by rw [z])
  have hRne : R.2 ≠ [] := fun e => by
    have hl : P.2.length ≠ 0 := fun z => hne (List.length_eq_zero_iff.mp z)
    rw [e] at a2
    simp at a2; omega
  have a1 := (i1.start nR).resolve_left fun z => hRne (by rw [z])
  have hz := h.z
  have hl2 := h.l2
  have hlm := h.lm
  refine ⟨⟨nR, by omega, by omega, by omega, fun q hq => ?_, h.E0, h.E1⟩, by omega⟩
  obtain ⟨k, rfl⟩ := mem_val hq
  rw [hR, Rat.mul_comm, show (-1 : Rat) * val P k = - val P k by grind]
  exact (Fr.at h.fr k).neg
theorem neg_qv {m m' : Int → Rat} (h : ∀ k, m' k = m k * (-1)) (k : Int) : qv m' k = qv m k := by
  unfold qv
  exact sm_congr fun i _ => by rw [h, h]; grind
/-! ### texts -/
theorem sh_shw {q : Rat} (h : Sh q) : (qd q).shw = true := by
  have l : ∀ {i : Int}, Sz 1920 i → decide (i.natAbs.log2 < 1920) = true := fun {i} h => decide_eq_true (log2_lt' h (by omega))
  show (decide (q.num.natAbs.log2 < 1920) && (decide ((q.den : Int).natAbs.log2 < 1920) && true)) = true
  rw [l h.1, l h.2]; rfl
theorem qds_shw : ∀ {qs : List Rat}, (∀ q ∈ qs, Sh q) → shwAll (qs.map qd) = true
  | [], _ => rfl
  | q :: qs, h => by
    show ((qd q).shw && shwAll (qs.map qd)) = true
    rw [sh_shw (h q List.mem_cons_self), qds_shw fun p hp => h p (List.mem_cons_of_mem _ hp)]; rfl
theorem qds_nds : ∀ qs : List Rat, ndsAll (qs.map qd) = 3 * qs.length
  | [] => rfl
  | q :: qs => by
    show 3 + ndsAll (qs.map qd) = 3 * (qs.length + 1)
    rw [qds_nds qs]; omega
theorem repr_rd {R : Int × List Rat} (h : ∀ q ∈ R.2, Sh q) (h1 : -1000 ≤ R.1) (h2 : R.1 ≤ 1000) (hl : R.2.length ≤ 100) : ∃ s, PyData.strOk s = true ∧ ∀ S, bltD S .repr [rd R] = .ok (.str s) S := by
  refine repr_pl ?_ ?_ ?_
  · show (decide (R.1.natAbs.log2 < 1920) && (shwAll (R.2.map qd) && true)) = true
    rw [qds_shw h, decide_eq_true (log2_lt' (n := 1920) (show R.1.natAbs < 2 ^ 1920 from Nat.lt_of_lt_of_le (show R.1.natAbs < 2 ^ 10 by omega) (Nat.pow_le_pow_right (by omega) (by omega))) (by omega))]; rfl
  · show 1 + ((ndsAll (R.2.map qd) + 1) + 0) + 1 ≤ 8000
    rw [qds_nds]; omega
  · show max 0 (max (dpAll (R.2.map qd) + 1) 0) + 1 ≤ 60
    have := dp_qds R.2
    omega
theorem repr_tup {qs : List Rat} (h : ∀ q ∈ qs, Sh q) (hl : qs.length ≤ 100) : ∃ s, PyData.strOk s = true ∧ ∀ S, bltD S .repr [.tup (qs.map qd)] = .ok (.str s) S := by
  refine repr_pl ?_ ?_ ?_
  · show shwAll (qs.map qd) = true
    exact qds_shw h
  · show ndsAll (qs.map qd) + 1 ≤ 8000
    rw [qds_nds]; omega
  · show dpAll (qs.map qd) + 1 ≤ 60
    have := dp_qds qs
    omega
theorem repr_two {qs : List Rat} (h : ∀ q ∈ qs, Sh q) (hl : qs.length ≤ 100) : ∃ s, PyData.strOk s = true ∧ ∀ S, bltD S .repr [.lst [.tup (qs.map qd), .tup (qs.map qd)]] = .ok (.str s) S := by
  refine repr_pl ?_ ?_ ?_
  · show (shwAll (qs.map qd) && (shwAll (qs.map qd) && true)) = true
    rw [qds_shw h]; rfl
  · show (ndsAll (qs.map qd) + 1 + (ndsAll (qs.map qd) + 1 + 0)) + 1 ≤ 8000
    rw [qds_nds]; omega
  · show max (dpAll (qs.map qd) + 1) (max (dpAll (qs.map qd) + 1) 0) + 1 ≤ 60
    have := dp_qds qs
    omega
end K77
namespace K77
open PySem Pz
/-! ### greater fractions -/
theorem okDiv_big {i j : Int} (h : j ≠ 0) (hi : Sz 13530 i) : okDiv i j = true := by
  unfold okDiv
  rw [Bool.and_eq_true]
  refine ⟨decide_eq_true h, ?_⟩
  have hl : i.natAbs.log2 < 13530 := log2_lt' hi (by omega)
  unfold Builtin.divisionGoesByPylong
  have e : (j == 0) = false := by simpa using h
  simp only [e]
  by_cases hi0 : (i == 0) = true
  · simp [hi0]
  · simp only [hi0]
    have : ¬ (300 < j.natAbs.log2 / 30 + 1 ∧ j.natAbs.log2 / 30 + 1 + 150 < i.natAbs.log2 / 30 + 1) := by omega
    simp only [Bool.false_eq_true, if_false, Bool.not_eq_true', Bool.and_eq_false_imp, decide_eq_true_eq, decide_eq_false_iff_not, gt_iff_lt]
    intro h1
    omega
theorem run_ratio_big (n : Nat) (t l : Int) (S : Store) (hl : l ≠ 0) (ht : Sz 13530 t) (hs : Sz 13530 l) : Phi (n + 2) i_ratio [.int t, .int l] S = .ok (qd (Rat.divInt t l)) S := by
  rw [phiR (n + 1) rfl (f := f_ratio) rfl _ S rfl]
  have hd := callR_pure (run_divisor2 n t l S) rfl
  have hgp : 0 < Int.gcd t l := by
    rw [Int.gcd_pos_iff]; exact .inr hl
  obtain ⟨e1, e2⟩ := ratio_eq (t := t) hl _ rfl
  by_cases hp : 0 < l
  · rw [if_pos hp] at e1 e2
    have k1 : okDiv t (Int.gcd t l : Int) = true := okDiv_big (by omega) ht
    have k2 : okDiv l (Int.gcd t l : Int) = true := okDiv_big (by omega) hs
    simp [f_ratio, getR, hp, hd, bin_fdiv _ _ _ k1, bin_fdiv _ _ _ k2, e1, e2, qd]
  · rw [if_neg hp] at e1 e2
    have k1 : okDiv t (-(Int.gcd t l : Int)) = true := okDiv_big (by omega) ht
    have k2 : okDiv l (-(Int.gcd t l : Int)) = true := okDiv_big (by omega) hs
    simp [f_ratio, getR, hp, hd, bin_fdiv _ _ _ k1, bin_fdiv _ _ _ k2, e1, e2, qd]
theorem Fr.le {N D : Nat} {q : Rat} (h : Fr N D q) (hD : 0 < D) : q.num.natAbs ≤ N ∧ q.den ≤ D := by
  obtain ⟨h1, h2⟩ := h.den hD
  refine ⟨Nat.le_trans (Nat.le_mul_of_pos_right _ (Nat.div_pos (Nat.le_of_dvd hD h1) q.den_pos)) h2, Nat.le_of_dvd hD h1⟩
theorem run_minus_big (n : Nat) (a b : Rat) (S : Store) {N D : Nat} (ha : Fr N D a) (hb : Fr N D b) (hD : 0 < D) (h1 : 2 * (N * D) < 2 ^ 13530) (h2 : D * D < 2 ^ 13530) : Phi (n + 3) i_minus [qd a, qd b] S = .ok (qd (a - b)) S := by
  rw [phiR (n + 2) rfl (f := f_minus) rfl _ S rfl]
  obtain ⟨a1, a2⟩ := ha.le hD
  obtain ⟨b1, b2⟩ := hb.le hD
  have big : ∀ {m : Nat}, m < 2 ^ 13530 → m < 2 ^ 400000 := fun h => Nat.lt_of_lt_of_le h (Nat.pow_le_pow_right (by omega) (by omega))
  have sN : ∀ {x : Int}, x.natAbs ≤ N → Sz 400000 x := fun {x} h => Nat.lt_of_le_of_lt h (big (Nat.lt_of_le_of_lt (by have := Nat.le_mul_of_pos_right N hD; omega) h1))
  have sD : ∀ {x : Nat}, x ≤ D → Sz 400000 (x : Int) := fun {x} h => by
    show (x : Int).natAbs < _
    rw [Int.natAbs_natCast]
    exact Nat.lt_of_le_of_lt h (big (Nat.lt_of_le_of_lt (Nat.le_mul_of_pos_left _ hD) h2))
  have m1 : okMul a.num b.den = true := okMul_of (sN a1) (sD b2)
  have m2 : okMul b.num a.den = true := okMul_of (sN b1) (sD a2)
  have m3 : okMul a.den b.den = true := okMul_of (sD a2) (sD b2)
  have hne : (a.den : Int) * b.den ≠ 0 := Int.mul_ne_zero (den_ne a) (den_ne b)
  have t1 : Sz 13530 (a.num * b.den - b.num * a.den) := by
    show Int.natAbs _ < _
    refine Nat.lt_of_le_of_lt (Int.natAbs_sub_le _ _) (Nat.lt_of_le_of_lt ?_ h1)
    rw [Int.natAbs_mul, Int.natAbs_mul, Int.natAbs_natCast, Int.natAbs_natCast]
    have p1 := Nat.mul_le_mul a1 b2
    have p2 := Nat.mul_le_mul b1 a2
    omega
  have t2 : Sz 13530 ((a.den : Int) * b.den) := by
    show Int.natAbs _ < _
    rw [Int.natAbs_mul, Int.natAbs_natCast, Int.natAbs_natCast]
    exact Nat.lt_of_le_of_lt (Nat.mul_le_mul a2 b2) h2
  have hr := callR_pure (run_ratio_big n (a.num * b.den - b.num * a.den) (a.den * b.den) S hne t1 t2) (qd_nl _)
  rw [sub_eq'] at hr
  simp [f_minus, getR, qd, bin_mul _ _ _ m1, bin_mul _ _ _ m2, bin_mul _ _ _ m3, hr]
/-! ### the program's test -/
theorem pickD_rev (xs : List Dt) : pickD xs none none (-1) = xs.reverse := by
  unfold pickD
  have e : sliceBounds none none (some (-1)) xs.length = ((xs.length : Int) - 1, -1, -1) := rfl
  rw [e]
  unfold sliceRange
  dsimp only
  rw [if_neg (by omega)]
  have ec : (if (xs.length : Int) - 1 > -1 then ((xs.length : Int) - 1 - -1 - -1 - 1) / (- -1) else 0).toNat = xs.length := by
    rw [show (- -1 : Int) = 1 from rfl, Int.ediv_one]
    split <;> omega
  rw [ec, List.filterMap_map]
  have ef : (List.range xs.length).filterMap ((fun x => xs[x]?) ∘ fun (k : Nat) => ((xs.length : Int) - 1 + -1 * (k : Int)).toNat) = (List.range xs.length).filterMap fun m => xs[xs.length - 1 - m]? := by
    refine fmap_congr fun m hm => ?_
    have hm := List.mem_range.mp hm
    show xs[((xs.length : Int) - 1 + -1 * (m : Int)).toNat]? = _
    rw [show ((xs.length : Int) - 1 + -1 * (m : Int)).toNat = xs.length - 1 - m by omega]
  rw [ef, fmap_rev xs xs.length (Nat.le_refl _), List.take_length]
/-- a tuple or a list of fractions -/
def IsQ (d : Dt) (l : List Rat) : Prop := d = .tup (l.map qd) ∨ d = .lst (l.map qd)
theorem IsQ.len {d : Dt} {l : List Rat} (h : IsQ d l) (S : Store) : bltD S .len [d] = .ok (.int l.length) S := by
  rcases h with rfl | rfl
  · rw [blt_len_tup, List.length_map]
  · rw [blt_len_lst, List.length_map]
theorem IsQ.ix {d : Dt} {l : List Rat} (h : IsQ d l) (S : Store) {k : Nat} (hk : k < l.length) : ixD S d (.int k) = .ok (qd (l.getD k 0)) S := by
  rcases h with rfl | rfl
  · exact ixD_tup (getD_qd hk)
  · exact ixD_lst (getD_qd hk)
theorem IsQ.last {d : Dt} {l : List Rat} (h : IsQ d l) (S : Store) (hk : 0 < l.length) : ixD S d (.int (-1)) = .ok (qd (l.getD (l.length - 1) 0)) S := by
  have e : (l.map qd).getLast? = some (qd (l.getD (l.length - 1) 0)) := by rw [List.getLast?_eq_getElem?, List.length_map, getD_qd (by omega)]
  rcases h with rfl | rfl
  · exact ixD_last e
  · have := atI_last e
    unfold ixD asSeq asTup asLst
    simp only [this]
theorem IsQ.rev {d : Dt} {l : List Rat} (h : IsQ d l) (S : Store) (hl : l.length ≤ 1000) : ∃ d', slkK (-1) d none none S = .ok d' S ∧ zipK d d' S = .ok ⟨(l.zip l.reverse).map fun p => .tup [qd p.1, qd p.2], []⟩ S := by
  rcases h with rfl | rfl
  · refine ⟨.tup (l.map qd).reverse, slk_rev (by rw [List.length_map]; omega), ?_⟩
    show Res.ok (⟨zipL (l.map qd) (l.map qd).reverse, []⟩ : Walk) S = _
    rw [← List.map_reverse, zipL_map]
  · refine ⟨.lst (l.map qd).reverse, ?_, ?_⟩
    · unfold slkK
      have h1 : decide ((-1 : Int) ≠ 0 ∧ (-1 : Int) ≠ 1) = true := by decide
      rw [if_pos h1]
      show Res.ok (Dt.lst (pickD (l.map qd) none none (-1))) S = _
      rw [pickD_rev]
    · rw [zipK_lst, ← List.map_reverse, zipL_map]
/-- the next polynomial -/
def jst (l : List Rat) : List Rat := ((l.zip l.reverse).map fun p => l.getD (l.length - 1) 0 * p.1 - l.getD 0 0 * p.2).drop 1
theorem jst_len (l : List Rat) : (jst l).length = l.length - 1 := by
  unfold jst
  rw [List.length_drop, List.length_map, List.length_zip, List.length_reverse, Nat.min_self]
theorem jst_get {l : List Rat} {k : Nat} (h : k + 1 < l.length) : (jst l).getD k 0 = l.getD (l.length - 1) 0 * l.getD (k + 1) 0 - l.getD 0 0 * l.getD (l.length - 2 - k) 0 := by
  unfold jst
  rw [getD_drop]
  refine getD_of ?_
  rw [List.getElem?_map, List.getElem?_eq_getElem (by rw [List.length_zip, List.length_reverse]; omega), List.getElem_zip, List.getElem_reverse]
  simp only [Option.map_some]
  congr 3
  · rw [getD_of (List.getElem?_eq_getElem (show k + 1 < l.length from h))]
    congr 1; omega
  · rw [getD_of (List.getElem?_eq_getElem (show l.length - 2 - k < l.length by omega))]
    congr 1; omega
def cnd (lo hi : Rat) : Bool := decide (hi.num * hi.num * lo.den * lo.den ≤ lo.num * lo.num * hi.den * hi.den)
def jR : Nat → List Rat → Bool
  | 0, _ => true
  | n + 1, l => if l.length ≤ 1 then true else if cnd (l.getD 0 0) (l.getD (l.length - 1) 0) = true then false else jR n (jst l)
/-- small enough for so many steps -/
def SzJ : Nat → Nat → Nat → Bool
  | 0, _, _ => true
  | n + 1, N, D => decide (N < 2 ^ 4000) && decide (D < 2 ^ 4000) && decide (2 * (N * N * (D * D)) < 2 ^ 13530) && decide (D * D * (D * D) < 2 ^ 13530) && SzJ n (2 * (N * N)) (D * D)
theorem szJ_succ {n N D : Nat} (h : SzJ (n + 1) N D = true) : N < 2 ^ 4000 ∧ D < 2 ^ 4000 ∧ 2 * (N * N * (D * D)) < 2 ^ 13530 ∧ D * D * (D * D) < 2 ^ 13530 ∧ SzJ n (2 * (N * N)) (D * D) = true := by
  have h : (decide (N < 2 ^ 4000) && decide (D < 2 ^ 4000) && decide (2 * (N * N * (D * D)) < 2 ^ 13530) && decide (D * D * (D * D) < 2 ^ 13530) && SzJ n (2 * (N * N)) (D * D)) = true := h
  simp only [Bool.and_eq_true] at h
  obtain ⟨⟨⟨⟨h1, h2⟩, h3⟩, h4⟩, h5⟩ := h
  exact ⟨of_decide_eq_true h1, of_decide_eq_true h2, of_decide_eq_true h3, of_decide_eq_true h4, h5⟩
theorem jst_fr {N D : Nat} {l : List Rat} (h : FrA N D l) (hD : 0 < D) : FrA (2 * (N * N)) (D * D) (jst l) := by
  intro q hq
  unfold jst at hq
  obtain ⟨p, hp, rfl⟩ := List.mem_map.mp (List.mem_of_mem_drop hq)
  have h1 := h _ (List.of_mem_zip hp).1
  have h2 := h _ (List.mem_reverse.mp (List.of_mem_zip hp).2)
  exact (((h.get _).mul h1).sub ((h.get _).mul h2) (Nat.mul_pos hD hD)).mono (by omega)
def wbody : List ISt := [
    .asg (.tup [.nm 2, .nm 3]) (.tup [.ix (.var 0) (.int 0), .ix (.var 0) (.neg (.int 1))]),
    .iff (.cmp .ge (.bin .mul (.bin .mul (.bin .mul (.ix (.var 2) (.int 0)) (.ix (.var 2) (.int 0))) (.ix (.var 3) (.int 1))) (.ix (.var 3) (.int 1))) (.bin .mul (.bin .mul (.bin .mul (.ix (.var 3) (.int 0)) (.ix (.var 3) (.int 0))) (.ix (.var 2) (.int 1))) (.ix (.var 2) (.int 1)))) [
      .ret (.bl false)] [],
    .asg (.nm 1) (.slk (.var 0) .absent .absent (-1)),
    .asg (.nm 0) (.sl (.comp [4, 5] (.tup [.nm 4, .nm 5]) (.zip (.var 0) (.var 1)) [] (.call i_minus [.call i_times [.var 3, .var 4], .call i_times [.var 2, .var 5]])) (.int 1) .absent)]
theorem within_loop (n : Nat) (S : Store) : ∀ (c fuel : Nat) (l : List Rat) (d : Dt) (N D : Nat) (r1 r2 r3 r4 r5 : Option Dt), l.length ≤ c + 1 → c < fuel → IsQ d l → FrA N D l → 0 < D → SzJ c N D = true → c ≤ 900 →
    ∃ o, whileF (evE cv (Phi (n + 3)) (.cmp .gt (.blt .len [.var 0]) (.int 1))) (evB cv (Phi (n + 3)) wbody) fuel [some d, r1, r2, r3, r4, r5] S = .ok o S ∧ ((jR c l = false ∧ o = .rt (.bl false)) ∨ (jR c l = true ∧ ∃ r, o = .nx r))
  | c, fuel, l, d, N, D, r1, r2, r3, r4, r5, hl, hf, hd, hfr, hD, hs, hc => by
    obtain ⟨fuel, rfl⟩ : ∃ f, fuel = f + 1 := ⟨fuel - 1, by omega⟩
    have hlen := hd.len S
    by_cases h1 : l.length ≤ 1
    · refine ⟨.nx [some d, r1, r2, r3, r4, r5], ?_, .inr ⟨?_, _, rfl⟩⟩
      · unfold whileF
        have v : COp.gt.ev (l.length : Int) 1 = false := decide_eq_false (by omega)
        simp only [ev_cmp, ev_blt, evL_cons, evL_nil, ev_var, ev_int, getR, List.getElem?_cons_zero, bind_okS, hlen, cmpK_int, v, toB_bl, Bool.false_eq_true, if_false]
      · cases c with
        | zero => rfl
        | succ c => unfold jR; rw [if_pos h1]
    · obtain ⟨c, rfl⟩ : ∃ c', c = c' + 1 := ⟨c - 1, by omega⟩
      obtain ⟨s1, s2, s3, s4, s5⟩ := szJ_succ hs
      have v : COp.gt.ev (l.length : Int) 1 = true := decide_eq_true (by omega)
      obtain ⟨lo, hlo⟩ : ∃ lo, lo = l.getD 0 0 := ⟨_, rfl⟩
      obtain ⟨hi, hhi⟩ : ∃ hi, hi = l.getD (l.length - 1) 0 := ⟨_, rfl⟩
      have x0 : ixD S d (.int 0) = .ok (qd (l.getD 0 0)) S := hd.ix S (k := 0) (by omega)
      have xl := hd.last S (by omega)
      rw [← hlo] at x0
      rw [← hhi] at xl
      have sm : ∀ {q : Rat}, Fr N D q → Sm q := fun {q} h => h.sm hD (sz_of s1) (sz_of s2)
      have flo : Fr N D lo := hlo ▸ hfr.get 0
      have fhi : Fr N D hi := hhi ▸ hfr.get _
      have slo := sm flo
      have shi := sm fhi
      have m1 := bin_mul lo.num lo.num S (okMul_of (slo.1.mono (by omega)) (slo.1.mono (by omega)))
      have m2 := bin_mul (lo.num * lo.num) hi.den S (okMul_of ((slo.1.mul slo.1).mono (by omega)) (shi.2.mono (by omega)))
      have m3 := bin_mul (lo.num * lo.num * hi.den) hi.den S (okMul_of (((slo.1.mul slo.1).mul shi.2).mono (by omega)) (shi.2.mono (by omega)))
      have m4 := bin_mul hi.num hi.num S (okMul_of (shi.1.mono (by omega)) (shi.1.mono (by omega)))
      have m5 := bin_mul (hi.num * hi.num) lo.den S (okMul_of ((shi.1.mul shi.1).mono (by omega)) (slo.2.mono (by omega)))
      have m6 := bin_mul (hi.num * hi.num * lo.den) lo.den S (okMul_of (((shi.1.mul shi.1).mul slo.2).mono (by omega)) (slo.2.mono (by omega)))
      have hj : jR (c + 1) l = if cnd lo hi = true then false else jR c (jst l) := by
        rw [hlo, hhi]
        conv => lhs; unfold jR
        rw [if_neg h1]
      have hge : COp.ge.ev (lo.num * lo.num * hi.den * hi.den) (hi.num * hi.num * lo.den * lo.den) = cnd lo hi := rfl
      cases hcnd : cnd lo hi with
      | true =>
        rw [hcnd, if_pos rfl] at hj
        refine ⟨.rt (.bl false), ?_, .inl ⟨hj, rfl⟩⟩
        unfold whileF
        simp only [ev_cmp, ev_blt, evL_cons, evL_nil, ev_var, ev_int, getR, List.getElem?_cons_succ, List.getElem?_cons_zero, bind_okS, hlen, cmpK_int, v, toB_bl, if_true, wbody, evB_cons, evS_asg, ev_tup, ev_ix, x0, ev_neg, negK_int, xl, tupK2, evT_tup, evTs_cons, evTs_nil, evT_nm, List.set_cons_succ, List.set_cons_zero, thenB_nx, evS_iff, ev_bin, ixD_qd0, ixD_qd1, m1, m2, m3, m4, m5, m6, hge, hcnd, evS_ret, ev_bl, thenB_rt]
      | false =>
        rw [hcnd, if_neg (by decide)] at hj
        obtain ⟨d', hrev, hzip⟩ := hd.rev S (by omega)
        have hcomp : compK [4, 5] (evI cv (Phi (n + 3)) (.zip (.var 0) (.var 1))) (evT cv (Phi (n + 3)) (.tup [.nm 4, .nm 5])) (evC cv (Phi (n + 3)) []) (evE cv (Phi (n + 3)) (.call i_minus [.call i_times [.var 3, .var 4], .call i_times [.var 2, .var 5]])) [some d, some d', some (qd lo), some (qd hi), r4, r5] S
            = .ok (.lst (((l.zip l.reverse).map fun p => hi * p.1 - lo * p.2).map qd)) S := by
          rw [List.map_map]
          refine comp_map (src := []) (fun p : Rat × Rat => .tup [qd p.1, qd p.2]) _ ?_ (by rw [List.length_zip]; omega) rfl fun p hp => ?_
          · simp only [evI_zip, ev_var, getR, List.getElem?_cons_succ, List.getElem?_cons_zero, bind_okS, hzip]
          · have f1 := hfr _ (List.of_mem_zip hp).1
            have f2 := hfr _ (List.mem_reverse.mp (List.of_mem_zip hp).2)
            have c1 := callR_pure (run_times n hi p.1 S shi (sm f1)) (qd_nl _)
            have c2 := callR_pure (run_times n lo p.2 S slo (sm f2)) (qd_nl _)
            have c3 := callR_pure (run_minus_big n (hi * p.1) (lo * p.2) S (fhi.mul f1) (flo.mul f2) (Nat.mul_pos hD hD) s3 s4) (qd_nl _)
            simp [getR, c1, c2, c3]
        have hcut : slK (.lst (((l.zip l.reverse).map fun p => hi * p.1 - lo * p.2).map qd)) (some 1) none S = .ok (.lst ((jst l).map qd)) S := by
          rw [(isL_lst S _).sl]
          congr 2
          unfold cutD
          have a1 : HT.sIx (((l.zip l.reverse).map fun p => hi * p.1 - lo * p.2).map qd).length 0 (some 1) = 1 := by
            rw [List.length_map, List.length_map, List.length_zip, List.length_reverse, Nat.min_self]
            unfold HT.sIx
            simp
            omega
          have a2 : HT.sIx (((l.zip l.reverse).map fun p => hi * p.1 - lo * p.2).map qd).length (((l.zip l.reverse).map fun p => hi * p.1 - lo * p.2).map qd).length none = (((l.zip l.reverse).map fun p => hi * p.1 - lo * p.2).map qd).length := rfl
          rw [a1, a2]
          unfold jst
          rw [← hlo, ← hhi, List.map_drop]
          rw [List.take_of_length_le (by rw [List.length_drop]; exact Nat.le_refl _)]
        obtain ⟨o, e, ho⟩ := within_loop n S c fuel (jst l) (.lst ((jst l).map qd)) (2 * (N * N)) (D * D) (some d') (some (qd lo)) (some (qd hi)) r4 r5 (by rw [jst_len]; omega) (by omega) (.inr rfl) (jst_fr hfr hD) (Nat.mul_pos hD hD) s5 (by omega)
        refine ⟨o, ?_, by rw [hj]; exact ho⟩
        rw [← e]
        have yabs : IEx.absent.isAbs = true := rfl
        have nabs : (IEx.int 1).isAbs = false := rfl
        conv => lhs; unfold whileF
        simp only [ev_cmp, ev_blt, evL_cons, evL_nil, ev_var, ev_int, getR, List.getElem?_cons_succ, List.getElem?_cons_zero, bind_okS, hlen, cmpK_int, v, toB_bl, if_true, wbody, evB_cons, evB_nil, evS_asg, ev_tup, ev_ix, x0, ev_neg, negK_int, xl, tupK2, evT_tup, evTs_cons, evTs_nil, evT_nm, List.set_cons_succ, List.set_cons_zero, thenB_nx, evS_iff, ev_bin, ixD_qd0, ixD_qd1, m1, m2, m3, m4, m5, m6, hge, hcnd, Bool.false_eq_true, if_false, ev_slk, yabs, nabs, hrev, ev_sl, ev_comp, hcomp, partK, hcut]
theorem run_within (n : Nat) (S : Store) (c : Nat) (l : List Rat) (d : Dt) {N D : Nat} (hl : l.length ≤ c + 1) (hd : IsQ d l) (hfr : FrA N D l) (hD : 0 < D) (hs : SzJ c N D = true) (hc : c ≤ 900) : Phi (n + 4) i_is_within [d] S = .ok (.bl (jR c l)) S := by
  rw [phiR (n + 3) rfl (f := f_is_within) rfl _ S rfl]
  obtain ⟨o, e, ho⟩ := within_loop n S c bigFuel l d N D none none none none none hl (by unfold bigFuel; omega) hd hfr hD hs hc
  have hr0 : (List.map some [d] ++ List.replicate (f_is_within.sz - f_is_within.ar) none) = [some d, none, none, none, none, none] := rfl
  have hfb : f_is_within.body = [.whil (.cmp .gt (.blt .len [.var 0]) (.int 1)) wbody, .ret (.bl true)] := rfl
  rw [hr0, hfb, evB_cons, evS_whil, e, bind_okS]
  rcases ho with ⟨h1, rfl⟩ | ⟨h1, r, rfl⟩
  · rw [h1, thenB_rt, bind_okS, endF_rt]
  · rw [h1, thenB_nx, evB_cons, evS_ret, ev_bl, bind_okS, bind_okS, thenB_rt, bind_okS, endF_rt]
end K77
namespace K77
open PySem Pz
/-! ### the law's test, in whole numbers -/
def gL : Nat → List Int → Nat
  | g, [] => g
  | g, z :: zs => gL (Int.gcd g z) zs
theorem gL_dvd : ∀ {zs : List Int} {g : Nat}, gL g zs ∣ g ∧ ∀ z ∈ zs, (gL g zs : Int) ∣ z
  | [], g => ⟨Nat.dvd_refl _, fun z hz => by cases hz⟩
  | y :: zs, g => by
    obtain ⟨h1, h2⟩ := gL_dvd (zs := zs) (g := Int.gcd g y)
    have d1 : Int.gcd g y ∣ g := by have := Int.gcd_dvd_left (g : Int) y; exact_mod_cast this
    refine ⟨Nat.dvd_trans h1 d1, fun z hz => ?_⟩
    rcases List.mem_cons.mp hz with rfl | hz
    · exact Int.dvd_trans (Int.natCast_dvd_natCast.mpr h1) (Int.gcd_dvd_right ..)
    · exact h2 z hz
def zraw (z : List Int) : List Int := (List.range (z.length - 1)).map fun k => z.getD (z.length - 1) 0 * z.getD (k + 1) 0 - z.getD 0 0 * z.getD (z.length - 2 - k) 0
def zst (z : List Int) : List Int := (zraw z).map fun y => y.fdiv (gL 0 (zraw z) : Nat)
theorem zraw_len (z : List Int) : (zraw z).length = z.length - 1 := by unfold zraw; simp
theorem zst_len (z : List Int) : (zst z).length = z.length - 1 := by unfold zst; rw [List.length_map, zraw_len]
theorem zraw_get {z : List Int} {k : Nat} (h : k + 1 < z.length) : (zraw z).getD k 0 = z.getD (z.length - 1) 0 * z.getD (k + 1) 0 - z.getD 0 0 * z.getD (z.length - 2 - k) 0 := by
  refine getD_of ?_
  unfold zraw
  rw [List.getElem?_map, List.getElem?_range (by omega)]; rfl
theorem getD_bigI {xs : List Int} {m : Nat} (h : xs.length ≤ m) : xs.getD m 0 = 0 := by
  rw [List.getD_eq_getElem?_getD, List.getElem?_eq_none h]; rfl
theorem zst_mul (z : List Int) (k : Nat) (hg : gL 0 (zraw z) ≠ 0) : ((gL 0 (zraw z) : Nat) : Int) * (zst z).getD k 0 = (zraw z).getD k 0 := by
  by_cases hk : k < (zraw z).length
  · have e : (zst z).getD k 0 = ((zraw z).getD k 0).fdiv (gL 0 (zraw z) : Nat) := by
      refine getD_of ?_
      unfold zst
      rw [List.getElem?_map, List.getElem?_eq_getElem hk, getD_of (List.getElem?_eq_getElem hk)]; rfl
    rw [e, Int.fdiv_eq_ediv_of_nonneg _ (by omega)]
    exact Int.mul_ediv_cancel' ((gL_dvd (zs := zraw z) (g := 0)).2 _ (getD_mem hk))
  · rw [getD_bigI (xs := zst z) (by rw [zst_len, ← zraw_len]; omega), getD_bigI (xs := zraw z) (by omega), Int.mul_zero]
def jI : Nat → List Int → Bool
  | 0, _ => true
  | n + 1, z => if z.length = 1 then true else if (z.getD (z.length - 1) 0).natAbs ≤ (z.getD 0 0).natAbs then false else jI n (zst z)
/-- the fractions are the whole numbers times one number -/
def Rl (r : Rat) (l : List Rat) (z : List Int) : Prop := l.length = z.length ∧ ∀ i, l.getD i 0 = r * (z.getD i 0 : Rat)
theorem raw_lead {z : List Int} (h : 1 < z.length) (hc : ¬ (z.getD (z.length - 1) 0).natAbs ≤ (z.getD 0 0).natAbs) : (zraw z).getD (z.length - 2) 0 ≠ 0 := by
  rw [zraw_get (by omega), show z.length - 2 + 1 = z.length - 1 by omega, show z.length - 2 - (z.length - 2) = 0 by omega]
  intro e
  have e : z.getD (z.length - 1) 0 * z.getD (z.length - 1) 0 = z.getD 0 0 * z.getD 0 0 := by omega
  generalize z.getD (z.length - 1) 0 = a at *
  generalize z.getD 0 0 = b at *
  apply hc
  have e2 : a.natAbs * a.natAbs = b.natAbs * b.natAbs := by
    have h1 := Int.natAbs_mul_self (a := a)
    have h2 := Int.natAbs_mul_self (a := b)
    omega
  have := Nat.mul_self_le_mul_self_iff.mp (Nat.le_of_eq e2)
  exact this
theorem g_ne {z : List Int} (h : 1 < z.length) (hc : ¬ (z.getD (z.length - 1) 0).natAbs ≤ (z.getD 0 0).natAbs) : gL 0 (zraw z) ≠ 0 := fun e => by
  have hm : (zraw z).getD (z.length - 2) 0 ∈ zraw z := getD_mem (by rw [zraw_len]; omega)
  have := (gL_dvd (zs := zraw z) (g := 0)).2 _ hm
  rw [e] at this
  exact raw_lead h hc (Int.zero_dvd.mp this)
theorem zst_lead {z : List Int} (h : 1 < z.length) (hc : ¬ (z.getD (z.length - 1) 0).natAbs ≤ (z.getD 0 0).natAbs) : (zst z).getD ((zst z).length - 1) 0 ≠ 0 := fun e => by
  have := zst_mul z (z.length - 2) (g_ne h hc)
  rw [zst_len, show z.length - 1 - 1 = z.length - 2 by omega] at e
  rw [e, Int.mul_zero] at this
  exact raw_lead h hc this.symm
theorem Rl.step {r : Rat} {l : List Rat} {z : List Int} (h : Rl r l z) (h1 : 1 < z.length) (hc : ¬ (z.getD (z.length - 1) 0).natAbs ≤ (z.getD 0 0).natAbs) : Rl (r * r * ((gL 0 (zraw z) : Nat) : Int)) (jst l) (zst z) := by
  obtain ⟨hl, hv⟩ := h
  refine ⟨by rw [jst_len, zst_len, hl], fun k => ?_⟩
  by_cases hk : k + 1 < z.length
  · have e := zst_mul z k (g_ne h1 hc)
    rw [zraw_get hk] at e
    rw [jst_get (by omega), hv, hv, hv, hv, hl]
    have e' : (((gL 0 (zraw z) : Nat) : Int) : Rat) * ((zst z).getD k 0 : Rat) = (z.getD (z.length - 1) 0 : Rat) * (z.getD (k + 1) 0 : Rat) - (z.getD 0 0 : Rat) * (z.getD (z.length - 2 - k) 0 : Rat) := by exact_mod_cast e
    rw [Rat.mul_assoc (r * r), e']
    grind
  · rw [getD_big (by rw [jst_len]; omega), getD_bigI (by rw [zst_len]; omega)]
    show (0 : Rat) = _ * (0 : Rat)
    rw [Rat.mul_zero]
theorem mul_den (q : Rat) : q * (q.den : Rat) = q.num := by
  have h : ((q.den : Int) : Rat) ≠ 0 := fun e => den_ne q (by exact_mod_cast e)
  have e : q = (q.num : Rat) / ((q.den : Int) : Rat) := by rw [← Rat.divInt_eq_div, Rat.num_divInt_den]
  have e2 : q * ((q.den : Int) : Rat) = q.num := by
    conv => lhs; lhs; rw [e]
    exact Rat.div_mul_cancel h
  exact e2
theorem cnd_eq {r lo hi : Rat} {a b : Int} (hr : r ≠ 0) (hb : b ≠ 0) (h1 : lo = r * a) (h2 : hi = r * b) : cnd lo hi = decide (b.natAbs ≤ a.natAbs) := by
  have hbr : (b : Rat) ≠ 0 := fun e => hb (by exact_mod_cast e)
  have hhi : hi ≠ 0 := fun e => by
    rw [e] at h2
    rcases Rat.mul_eq_zero.mp h2.symm with q | q
    · exact hr q
    · exact hbr q
  have hn := num_ne hhi
  -- X b = Y a
  have e : lo.num * (hi.den : Int) * b = hi.num * (lo.den : Int) * a := by
    have d1 : lo * (lo.den : Rat) = lo.num := mul_den lo
    have d2 : hi * (hi.den : Rat) = hi.num := mul_den hi
    have : (lo.num : Rat) * (hi.den : Rat) * (b : Rat) = (hi.num : Rat) * (lo.den : Rat) * (a : Rat) := by
      rw [← d1, ← d2]
      have : lo * b = hi * a := by rw [h1, h2]; grind
      grind
    exact_mod_cast this
  have hY : hi.num * (lo.den : Int) ≠ 0 := Int.mul_ne_zero hn (den_ne lo)
  have hcn : (hi.num * hi.num * lo.den * lo.den ≤ lo.num * lo.num * hi.den * hi.den) ↔ (hi.num * (lo.den : Int)).natAbs ≤ (lo.num * (hi.den : Int)).natAbs := by
    have r1 : hi.num * hi.num * lo.den * lo.den = (hi.num * (lo.den : Int)) * (hi.num * (lo.den : Int)) := by grind
    have r2 : lo.num * lo.num * hi.den * hi.den = (lo.num * (hi.den : Int)) * (lo.num * (hi.den : Int)) := by grind
    rw [r1, r2, ← Int.natAbs_mul_self, ← Int.natAbs_mul_self (a := lo.num * (hi.den : Int))]
    rw [Int.ofNat_le]
    exact Nat.mul_self_le_mul_self_iff
  unfold cnd
  congr 1
  rw [hcn]
  have e2 := congrArg Int.natAbs e
  rw [Int.natAbs_mul, Int.natAbs_mul (hi.num * (lo.den : Int))] at e2
  generalize (lo.num * (hi.den : Int)).natAbs = X at *
  have hYp : 0 < (hi.num * (lo.den : Int)).natAbs := Int.natAbs_pos.mpr hY
  generalize (hi.num * (lo.den : Int)).natAbs = Y at *
  have hbp : 0 < b.natAbs := Int.natAbs_pos.mpr hb
  generalize b.natAbs = B at *
  generalize a.natAbs = A at *
  refine propext ⟨fun h => ?_, fun h => ?_⟩
  · refine Nat.le_of_not_lt fun q => ?_
    have : Y * A < Y * B := Nat.mul_lt_mul_of_pos_left q hYp
    have h3 : Y * B ≤ X * B := Nat.mul_le_mul_right _ h
    omega
  · refine Nat.le_of_not_lt fun q => ?_
    have : X * B < Y * B := Nat.mul_lt_mul_of_pos_right q hbp
    have h3 : Y * B ≤ Y * A := Nat.mul_le_mul_left _ h
    omega
/-- both tests tell the same -/
theorem jeq : ∀ (c : Nat) (l : List Rat) (z : List Int) (r : Rat), r ≠ 0 → Rl r l z → 0 < z.length → z.length ≤ c + 1 → z.getD (z.length - 1) 0 ≠ 0 → jR c l = jI (c + 1) z
  | 0, l, z, r, _, _, h1, h2, _ => by
    unfold jR jI
    rw [if_pos (by omega)]
  | c + 1, l, z, r, hr, h, h1, h2, h3 => by
    have hl := h.1
    unfold jR
    conv => rhs; unfold jI
    by_cases e : z.length = 1
    · rw [if_pos (by omega), if_pos e]
    · rw [if_neg (by omega), if_neg e]
      have hcnd : cnd (l.getD 0 0) (l.getD (l.length - 1) 0) = decide ((z.getD (z.length - 1) 0).natAbs ≤ (z.getD 0 0).natAbs) := cnd_eq hr h3 (h.2 0) (by rw [hl]; exact h.2 _)
      by_cases hc : (z.getD (z.length - 1) 0).natAbs ≤ (z.getD 0 0).natAbs
      · rw [decide_eq_true hc] at hcnd
        rw [if_pos hc]
        rw [if_pos]
        exact hcnd
      · rw [decide_eq_false hc] at hcnd
        rw [if_neg hc, if_neg (by rw [hcnd]; decide)]
        have hg := g_ne (show 1 < z.length by omega) hc
        have hg2 : (((gL 0 (zraw z) : Nat) : Int) : Rat) ≠ 0 := fun q => hg (by have : ((gL 0 (zraw z) : Nat) : Int) = 0 := by exact_mod_cast q
                                                                                omega)
        exact jeq c (jst l) (zst z) _ (fun q => by
          rcases Rat.mul_eq_zero.mp q with q | q
          · rcases Rat.mul_eq_zero.mp q with q | q <;> exact hr q
          · exact hg2 q) (h.step (by omega) hc) (by rw [zst_len]; omega) (by rw [zst_len]; omega) (zst_lead (by omega) hc)
end K77
namespace K77
open PySem Pz
/-! ### the walk of the law's test -/
def SzI : Nat → Nat → Bool
  | 0, _ => true
  | n + 1, N => decide (2 * (N * N) < 2 ^ 13530) && SzI n (2 * (N * N))
theorem szI_succ {n N : Nat} (h : SzI (n + 1) N = true) : 2 * (N * N) < 2 ^ 13530 ∧ SzI n (2 * (N * N)) = true := by
  have h : (decide (2 * (N * N) < 2 ^ 13530) && SzI n (2 * (N * N))) = true := h
  simp only [Bool.and_eq_true] at h
  exact ⟨of_decide_eq_true h.1, h.2⟩
def AllN (N : Nat) (z : List Int) : Prop := ∀ y ∈ z, y.natAbs ≤ N
theorem AllN.get {N : Nat} {z : List Int} (h : AllN N z) (k : Nat) : (z.getD k 0).natAbs ≤ N := by
  by_cases hk : k < z.length
  · exact h _ (getD_mem hk)
  · rw [getD_bigI (by omega)]; exact Nat.zero_le _
theorem zraw_le {N : Nat} {z : List Int} (h : AllN N z) : AllN (2 * (N * N)) (zraw z) := by
  intro y hy
  unfold zraw at hy
  obtain ⟨k, _, rfl⟩ := List.mem_map.mp hy
  refine Nat.le_trans (Int.natAbs_sub_le _ _) ?_
  rw [Int.natAbs_mul, Int.natAbs_mul]
  have h1 := Nat.mul_le_mul (h.get (z.length - 1)) (h.get (k + 1))
  have h2 := Nat.mul_le_mul (h.get 0) (h.get (z.length - 2 - k))
  omega
theorem zst_le {M : Nat} {z : List Int} (h : AllN M (zraw z)) (hg : gL 0 (zraw z) ≠ 0) : AllN M (zst z) := by
  intro y hy
  obtain ⟨i, hi, rfl⟩ := List.getElem_of_mem hy
  have e := zst_mul z i hg
  rw [getD_of (List.getElem?_eq_getElem hi)] at e
  have h2 := h.get i
  rw [← e, Int.natAbs_mul, Int.natAbs_natCast] at h2
  exact Nat.le_trans (Nat.le_mul_of_pos_left _ (Nat.pos_of_ne_zero hg)) h2
theorem ix_numI {S : Store} {z : List Int} {k : Nat} (h : k < z.length) : ixD S (.lst (z.map .int)) (.int k) = .ok (.int (z.getD k 0)) S := (isL_lst S _).ix (getI h)
theorem ix_lastI {S : Store} {z : List Int} (h : 0 < z.length) : ixD S (.lst (z.map .int)) (.int (-1)) = .ok (.int (z.getD (z.length - 1) 0)) S := by
  have e : (z.map Dt.int).getLast? = some (.int (z.getD (z.length - 1) 0)) := by rw [List.getLast?_eq_getElem?, List.length_map, getI (by omega)]
  have := atI_last e
  unfold ixD asSeq asTup asLst
  simp only [this]
def ibody : List ISt := [
    .iff (.eq false (.blt .len [.var 1]) (.int 1)) [
      .ret (.bl true)] [],
    .iff (.cmp .ge (.blt .abs [.ix (.var 1) (.int 0)]) (.blt .abs [.ix (.var 1) (.neg (.int 1))])) [
      .ret (.bl false)] [],
    .asg (.nm 1) (.comp [5] (.nm 5) (.rng1 (.bin .sub (.blt .len [.var 1]) (.int 1))) [] (.bin .sub (.bin .mul (.ix (.var 1) (.neg (.int 1))) (.ix (.var 1) (.bin .add (.var 5) (.int 1)))) (.bin .mul (.ix (.var 1) (.int 0)) (.ix (.var 1) (.bin .sub (.bin .sub (.blt .len [.var 1]) (.int 2)) (.var 5)))))),
    .asg (.nm 3) (.int 0),
    .forr (.nm 4) (.seq (.var 1)) [
      .asg (.nm 3) (.call i_law_deep [.var 3, .var 4])],
    .asg (.nm 1) (.comp [4] (.nm 4) (.seq (.var 1)) [] (.bin .fdiv (.var 4) (.var 3)))]
theorem deep_loop3 (n : Nat) (S : Store) (r0 r1 r2 r5 : Option Dt) : ∀ (zs : List Int) (g : Nat) (r4 : Option Dt), (∀ z ∈ zs, Sz 400000 z) →
    ∃ r4', forF (evT cv (Phi (n + 1)) (.nm 4)) (evB cv (Phi (n + 1)) [.asg (.nm 3) (.call i_law_deep [.var 3, .var 4])]) [] (zs.map .int) [r0, r1, r2, some (.int g), r4, r5] S = .ok (.nx [r0, r1, r2, some (.int (gL g zs)), r4', r5]) S
  | [], g, r4, _ => ⟨r4, rfl⟩
  | z :: zs, g, r4, h => by
    obtain ⟨r4', e⟩ := deep_loop3 n S r0 r1 r2 r5 zs (Int.gcd g z) (some (.int z)) fun y hy => h y (List.mem_cons_of_mem _ hy)
    refine ⟨r4', ?_⟩
    have hg : gL g (z :: zs) = gL (Int.gcd g z) zs := rfl
    rw [hg, ← e, List.map_cons]
    have c := callR_pure (run_deep n g z S (h z List.mem_cons_self)) rfl
    conv => lhs; unfold forF
    simp only [still_nil, if_true, evT_nm, bind_okS, List.set_cons_succ, List.set_cons_zero, evB_cons, evB_nil, evS_asg, ev_call, evL_cons, evL_nil, ev_var, getR, List.getElem?_cons_succ, List.getElem?_cons_zero, c, thenB_nx]
theorem abs_if (i : Int) : (if i < 0 then -i else i) = (i.natAbs : Int) := by split <;> omega
theorem inside_loop (n : Nat) (S : Store) (r0 : Option Dt) : ∀ (c i : Nat) (z : List Int) (N : Nat) (r2 r3 r4 r5 : Option Dt), 0 < z.length → z.length ≤ 900 → AllN N z → SzI (z.length - 1) N = true →
    ∃ o, forF (evT cv (Phi (n + 1)) (.nm 2)) (evB cv (Phi (n + 1)) ibody) [] (rngL i 1 c) [r0, some (.lst (z.map .int)), r2, r3, r4, r5] S = .ok o S ∧ ((jI c z = false ∧ o = .rt (.bl false)) ∨ (jI c z = true ∧ (o = .rt (.bl true) ∨ ∃ r, o = .nx r)))
  | 0, i, z, N, r2, r3, r4, r5, _, _, _, _ => ⟨.nx [r0, some (.lst (z.map .int)), r2, r3, r4, r5], rfl, .inr ⟨rfl, .inr ⟨_, rfl⟩⟩⟩
  | c + 1, i, z, N, r2, r3, r4, r5, hz, hz9, hN, hs => by
    have hlen : bltD S .len [.lst (z.map Dt.int)] = .ok (.int z.length) S := by rw [blt_len_lst, List.length_map]
    have env : ([r0, some (.lst (z.map Dt.int)), r2, r3, r4, r5] : Rho).set 2 (some (.int i)) = [r0, some (.lst (z.map Dt.int)), some (.int i), r3, r4, r5] := rfl
    rw [rngL_succ]
    by_cases h1 : z.length = 1
    · refine ⟨.rt (.bl true), ?_, .inr ⟨by unfold jI; rw [if_pos h1], .inl rfl⟩⟩
      have e1 : eqD S false (.int (z.length : Int)) (.int 1) = .ok (.bl true) S := by rw [eqD_int, h1]; rfl
      unfold forF
      rw [if_pos (still_nil S), evT_nm, bind_okS, env]
      simp only [ibody, evB_cons, evS_iff, ev_eq, ev_blt, evL_cons, evL_nil, ev_var, ev_int, getR, List.getElem?_cons_succ, List.getElem?_cons_zero, bind_okS, hlen, e1, toB_bl, if_true, evS_ret, ev_bl, thenB_rt]
    · have e1 : eqD S false (.int (z.length : Int)) (.int 1) = .ok (.bl false) S := by rw [eqD_int, decide_eq_false (by omega)]; rfl
      obtain ⟨a, ha⟩ : ∃ a, a = z.getD 0 0 := ⟨_, rfl⟩
      obtain ⟨b, hb⟩ : ∃ b, b = z.getD (z.length - 1) 0 := ⟨_, rfl⟩
      have x0 : ixD S (.lst (z.map Dt.int)) (.int 0) = .ok (.int a) S := by rw [ha]; exact ix_numI (k := 0) hz
      have xl : ixD S (.lst (z.map Dt.int)) (.int (-1)) = .ok (.int b) S := by rw [hb]; exact ix_lastI hz
      have hj : jI (c + 1) z = if b.natAbs ≤ a.natAbs then false else jI c (zst z) := by
        rw [ha, hb]
        conv => lhs; unfold jI
        rw [if_neg h1]
      by_cases hc : b.natAbs ≤ a.natAbs
      · rw [if_pos hc] at hj
        refine ⟨.rt (.bl false), ?_, .inl ⟨hj, rfl⟩⟩
        have v : COp.ge.ev (a.natAbs : Int) (b.natAbs : Int) = true := decide_eq_true (by omega)
        unfold forF
        rw [if_pos (still_nil S), evT_nm, bind_okS, env]
        simp only [ibody, evB_cons, evB_nil, evS_iff, ev_eq, ev_blt, evL_cons, evL_nil, ev_var, ev_int, getR, List.getElem?_cons_succ, List.getElem?_cons_zero, bind_okS, hlen, e1, toB_bl, Bool.false_eq_true, if_false, thenB_nx, ev_cmp, ev_ix, x0, blt_abs, abs_if, ev_neg, negK_int, xl, cmpK_int, v, if_true, evS_ret, ev_bl, thenB_rt]
      · rw [if_neg hc] at hj
        have hc' : ¬ (z.getD (z.length - 1) 0).natAbs ≤ (z.getD 0 0).natAbs := by rw [← ha, ← hb]; exact hc
        have hg := g_ne (show 1 < z.length by omega) hc'
        rw [show z.length - 1 = (z.length - 2) + 1 by omega] at hs
        obtain ⟨s1, s2⟩ := szI_succ hs
        have hraw := zraw_le hN
        have v : COp.ge.ev (a.natAbs : Int) (b.natAbs : Int) = false := decide_eq_false (by omega)
        have big : ∀ {m : Nat}, m < 2 ^ 13530 → m < 2 ^ 400000 := fun h => Nat.lt_of_lt_of_le h (Nat.pow_le_pow_right (by omega) (by omega))
        have hNN : N < 2 ^ 13530 := Nat.lt_of_le_of_lt (by
          by_cases h0 : N = 0
          · omega
          · have := Nat.le_mul_of_pos_left N (Nat.pos_of_ne_zero h0); omega) s1
        have sN : ∀ {x : Int}, x.natAbs ≤ N → Sz 400000 x := fun {x} h => Nat.lt_of_le_of_lt h (big hNN)
        have sR : ∀ y ∈ zraw z, Sz 13530 y := fun y hy => Nat.lt_of_le_of_lt (hraw y hy) s1
        have hcomp : evE cv (Phi (n + 1)) (.comp [5] (.nm 5) (.rng1 (.bin .sub (.blt .len [.var 1]) (.int 1))) [] (.bin .sub (.bin .mul (.ix (.var 1) (.neg (.int 1))) (.ix (.var 1) (.bin .add (.var 5) (.int 1)))) (.bin .mul (.ix (.var 1) (.int 0)) (.ix (.var 1) (.bin .sub (.bin .sub (.blt .len [.var 1]) (.int 2)) (.var 5)))))) [r0, some (.lst (z.map .int)), some (.int i), r3, r4, r5] S
            = .ok (.lst ((zraw z).map .int)) S := by
          rw [ev_comp]
          unfold zraw
          rw [List.map_map]
          refine comp_map (src := []) (fun p : Nat => .int (p : Int)) (fun k : Nat => .int (z.getD (z.length - 1) 0 * z.getD (k + 1) 0 - z.getD 0 0 * z.getD (z.length - 2 - k) 0)) (evI_rng1_of (j := z.length - 1) ?_ (okR_small (by omega))) (by rw [List.length_range]; omega) rfl fun k hk => ?_
          · have en : ((z.length : Int) - 1) = ((z.length - 1 : Nat) : Int) := by omega
            simp only [ev_bin, ev_blt, evL_cons, evL_nil, ev_var, ev_int, getR, List.getElem?_cons_succ, List.getElem?_cons_zero, bind_okS, hlen, bin_sub, en]
          · have hk := List.mem_range.mp hk
            have x1 : ixD S (.lst (z.map Dt.int)) (.int ((k : Int) + 1)) = .ok (.int (z.getD (k + 1) 0)) S := ix_numI (k := k + 1) (by omega)
            have x2 : ixD S (.lst (z.map Dt.int)) (.int ((z.length : Int) - 2 - (k : Int))) = .ok (.int (z.getD (z.length - 2 - k) 0)) S := by
              rw [show (z.length : Int) - 2 - (k : Int) = ((z.length - 2 - k : Nat) : Int) by omega]
              exact ix_numI (by omega)
            rw [← ha, ← hb]
            have m1 := bin_mul b (z.getD (k + 1) 0) S (okMul_of (sN (by rw [hb]; exact hN.get _)) (sN (hN.get _)))
            have m2 := bin_mul a (z.getD (z.length - 2 - k) 0) S (okMul_of (sN (by rw [ha]; exact hN.get _)) (sN (hN.get _)))
            generalize z.getD (k + 1) 0 = y1 at *
            generalize z.getD (z.length - 2 - k) 0 = y2 at *
            simp only [wipeR_cons, wipeR_nil, List.set_cons_succ, List.set_cons_zero, evT_nm, bind_okS, evC_nil, toB_bl, if_true, ev_bin, ev_ix, ev_var, ev_neg, ev_int, negK_int, getR, List.getElem?_cons_succ, List.getElem?_cons_zero, xl, x0, bin_add, x1, m1, ev_blt, evL_cons, evL_nil, hlen, bin_sub, x2, m2]
        obtain ⟨r4', hdeep⟩ := deep_loop3 n S r0 (some (.lst ((zraw z).map .int))) (some (.int i)) r5 (zraw z) 0 r4 fun y hy => Nat.lt_of_lt_of_le (sR y hy) (Nat.pow_le_pow_right (by omega) (by omega))
        rw [show ((0 : Nat) : Int) = 0 from rfl] at hdeep
        have hgi : ((gL 0 (zraw z) : Nat) : Int) ≠ 0 := by omega
        have hcomp2 : evE cv (Phi (n + 1)) (.comp [4] (.nm 4) (.seq (.var 1)) [] (.bin .fdiv (.var 4) (.var 3))) [r0, some (.lst ((zraw z).map .int)), some (.int i), some (.int (gL 0 (zraw z))), r4', r5] S = .ok (.lst ((zst z).map .int)) S := by
          rw [ev_comp]
          unfold zst
          rw [List.map_map]
          refine comp_map (src := []) Dt.int (fun y => .int (y.fdiv (gL 0 (zraw z) : Nat))) (by simp [getR]) (by rw [zraw_len]; omega) rfl fun y hy => ?_
          have c := bin_fdiv y _ S (okDiv_big hgi (sR y hy))
          simp [getR, c]
        obtain ⟨o, e, ho⟩ := inside_loop n S r0 c (i + 1) (zst z) (2 * (N * N)) (some (.int i)) (some (.int (gL 0 (zraw z)))) r4' r5 (by rw [zst_len]; omega) (by rw [zst_len]; omega) (zst_le hraw hg) (by rw [zst_len, show z.length - 1 - 1 = z.length - 2 by omega]; exact s2)
        refine ⟨o, ?_, by rw [hj]; exact ho⟩
        rw [← e, show ((i + 1 : Nat) : Int) = (i : Int) + 1 from rfl]
        conv => lhs; unfold forF
        rw [if_pos (still_nil S), evT_nm, bind_okS, env]
        simp only [ibody, evB_cons, evB_nil, evS_iff, ev_eq, ev_blt, evL_cons, evL_nil, ev_var, ev_int, getR, List.getElem?_cons_succ, List.getElem?_cons_zero, bind_okS, hlen, e1, toB_bl, Bool.false_eq_true, if_false, thenB_nx, ev_cmp, ev_ix, x0, blt_abs, abs_if, ev_neg, negK_int, xl, cmpK_int, v, evS_asg, hcomp, evT_nm, List.set_cons_succ, List.set_cons_zero, evS_forr, evI_seq, seqK_lst, hdeep, hcomp2]
theorem run_inside (n : Nat) (S : Store) (d : Dt) (l : List Rat) (hd : IsQ d l) {N D : Nat} (hfr : FrA N D l) (hD : 0 < D) (hN : N < 2 ^ 4000) (hD2 : D < 2 ^ 4000) (hl : 0 < l.length) (hl9 : l.length ≤ 900) (hs : SzI (l.length - 1) N = true) :
    Phi (n + 3) i_law_inside [d] S = .ok (.bl (jI l.length (l.map (over_ (lcmL 1 l))))) S := by
  rw [phiR (n + 2) rfl (f := f_law_inside) rfl _ S rfl]
  have hseq : seqK d S = .ok ⟨l.map qd, []⟩ S := by rcases hd with rfl | rfl <;> rfl
  have hdv : ∀ q ∈ l, q.den ∣ D := fun q hq => ((hfr q hq).den hD).1
  have sD : Sz 4000 (D : Nat) := sz_of hD2
  have ci := run_lints n d l S D hD sD hseq hdv (fun q hq => ((hfr q hq).sz hD (sz_of hN) sD).1) (by omega)
  have nl_ints : ∀ l : List Int, nlAll (l.map Dt.int) = true := fun l => by
    induction l with
    | nil => rfl
    | cons a l ih => show (true && nlAll (l.map Dt.int)) = true; rw [ih]; rfl
  have nlT : (Dt.tup [.lst ((l.map (over_ (lcmL 1 l))).map .int), .int (lcmL 1 l)]).nl = true := by
    show ((nlAll ((l.map (over_ (lcmL 1 l))).map Dt.int)) && (true && true)) = true
    rw [nl_ints]; rfl
  have cc := callR_pure ci nlT
  have hu : lcmL 1 l ∣ D := lcmL_least (Nat.one_dvd _) hdv
  have hz : AllN N (l.map (over_ (lcmL 1 l))) := fun y hy => by
    obtain ⟨q, hq, rfl⟩ := List.mem_map.mp hy
    exact over_le (hfr q hq) hD hu
  obtain ⟨o, e, ho⟩ := inside_loop (n + 1) S (some d) l.length 0 (l.map (over_ (lcmL 1 l))) N none none none none (by rw [List.length_map]; exact hl) (by rw [List.length_map]; exact hl9) hz (by rw [List.length_map]; exact hs)
  have hr0 : (List.map some [d] ++ List.replicate (f_law_inside.sz - f_law_inside.ar) none) = [some d, none, none, none, none, none] := rfl
  have hfb : f_law_inside.body = [.asg (.nm 1) (.ix (.call i_law_ints [.var 0]) (.int 0)), .forr (.nm 2) (.rng1 (.blt .len [.var 0])) ibody, .ret (.bl true)] := rfl
  have hlen := hd.len S
  have hI : evI cv (Phi (n + 2)) (.rng1 (.blt .len [.var 0])) [some d, some (.lst ((l.map (over_ (lcmL 1 l))).map .int)), none, none, none, none] S = .ok ⟨rngL 0 1 l.length, []⟩ S := by
    rw [evI_rng1_of (j := l.length) (by simp only [ev_blt, evL_cons, evL_nil, ev_var, getR, List.getElem?_cons_zero, bind_okS, hlen]) (okR_small (by omega)), rngL_map]
  have A1 : evS cv (Phi (n + 2)) (.asg (.nm 1) (.ix (.call i_law_ints [.var 0]) (.int 0))) [some d, none, none, none, none, none] S = .ok (.nx [some d, some (.lst ((l.map (over_ (lcmL 1 l))).map .int)), none, none, none, none]) S := by
    simp only [evS_asg, ev_ix, ev_call, evL_cons, evL_nil, ev_var, getR, List.getElem?_cons_zero, bind_okS, cc, ev_int, ixD_t0, evT_nm, List.set_cons_succ, List.set_cons_zero]
  rw [show ((0 : Nat) : Int) = 0 from rfl] at e
  rw [hr0, hfb, evB_cons, A1, bind_okS, thenB_nx, evB_cons, evS_forr, hI, bind_okS, e, bind_okS]
  rcases ho with ⟨h1, rfl⟩ | ⟨h1, rfl | ⟨r, rfl⟩⟩
  · rw [h1, thenB_rt, bind_okS, endF_rt]
  · rw [h1, thenB_rt, bind_okS, endF_rt]
  · rw [h1, thenB_nx, evB_cons, evS_ret, ev_bl, bind_okS, bind_okS, thenB_rt, bind_okS, endF_rt]
end K77
namespace K77
open PySem Pz
/-! ### sums -/
theorem sumL_sm : ∀ (l : List Rat) (s : Rat), sumL s l = s + sm l.length fun j => l.getD j 0
  | [], s => by show s = s + 0; rw [Rat.add_zero]
  | q :: l, s => by
    show sumL (s + q) l = s + sm (l.length + 1) fun j => (q :: l).getD j 0
    have e := sm_split (fun j => (q :: l).getD j 0) 1 l.length
    rw [Nat.add_comm 1] at e
    rw [e, sumL_sm l (s + q)]
    show (s + q) + _ = s + (((0 : Rat) + q) + sm l.length fun j => (q :: l).getD (1 + j) 0)
    have e2 : sm l.length (fun j => (q :: l).getD (1 + j) 0) = sm l.length fun j => l.getD j 0 := sm_congr fun j _ => by rw [Nat.add_comm 1]; rfl
    rw [e2]
    grind
theorem list_sum {l : List Rat} {n : Nat} (h : l.length ≤ n) : sumL 0 l = sm n fun j => l.getD j 0 := by
  rw [sumL_sm, Rat.zero_add, sm_win (a := 0) (b := l.length) (n := n) (by omega) (fun j hj => by omega) fun j h1 h2 => getD_big (by omega)]
  exact sm_congr fun j _ => by rw [Nat.zero_add]
theorem row_sum {R : Int × List Rat} {a : Int} {n : Nat} (nR : Nf R) (hin : In a (a + n) R) : sumL 0 R.2 = sm n fun j => val R (a + (j : Int)) := by
  rcases hin.start nR with e | e
  · rw [e]
    show (0 : Rat) = _
    refine (sm_zero fun j _ => ?_).symm
    unfold val; split <;> rfl
  · rw [sumL_sm, Rat.zero_add]
    obtain ⟨d, hd⟩ : ∃ d : Nat, R.1 = a + (d : Int) := ⟨(R.1 - a).toNat, by omega⟩
    rw [sm_win (f := fun j : Nat => val R (a + (j : Int))) (a := d) (b := R.2.length) (n := n) (by omega) (fun j hj => val_out (by omega)) fun j h1 h2 => val_out (by omega)]
    refine sm_congr fun j hj => ?_
    rw [val_in (by omega), show (a + ((d + j : Nat) : Int) - R.1).toNat = j by omega]
/-- the sum of each second number -/
def parS (m : Int → Rat) (p : Int) : Rat := sm 4 fun j => m (2 * (j : Int) + p)
def hs (m : Int → Rat) : Bool := decide (parS m 0 = 1) && decide (parS m 1 = 1)
theorem pickT_two0 (qs : List Rat) : pickT (qs.map qd) none none 2 = (ev2 0 qs).map qd := by
  unfold pickT ev2 Builtin.Slice.sliceAdjust Builtin.Slice.slicePlaces
  have h1 : ¬ ((2 : Int) < 0) := by omega
  have h2 : (2 : Int) > 0 := by omega
  simp only [if_neg h1, if_pos h2, List.length_map]
  rw [List.map_map]
  have e : (if (0 : Int) < (qs.length : Int) then ((qs.length : Int) - 0 - 1) / 2 + 1 else 0).toNat = (qs.length - 0 + 1) / 2 := by
    split <;> omega
  rw [e]
  refine fmap_all fun m hm => ?_
  have hm := List.mem_range.mp hm
  rw [show (0 + (m : Int) * 2).toNat = 0 + 2 * m by omega]
  exact getD_qd (by omega)
theorem slk_two0 {S : Store} (qs : List Rat) (hl : qs.length ≤ 1000000) : slkK 2 (.tup (qs.map qd)) none none S = .ok (.tup ((ev2 0 qs).map qd)) S := by
  unfold slkK
  have h1 : decide ((2 : Int) ≠ 0 ∧ (2 : Int) ≠ 1) = true := by decide
  have h2 : okLen (pickT (qs.map qd) none none 2).length = true := by
    rw [pickT_two0, List.length_map]; unfold ev2; rw [List.length_map, List.length_range]; exact okLen_of (by omega)
  rw [if_pos h1]
  show (if okLen (pickT (qs.map qd) none none 2).length = true then Res.ok (Dt.tup (pickT (qs.map qd) none none 2)) S else .bad) = _
  rw [if_pos h2, pickT_two0]
theorem ev2_len (s : Nat) (qs : List Rat) : (ev2 s qs).length = (qs.length - s + 1) / 2 := by unfold ev2; rw [List.length_map, List.length_range]
theorem ev2_sum (P : Int × List Rat) (hz : P.1 = 0) (h7 : P.2.length ≤ 7) (p : Nat) (hp : p ≤ 1) : sumL 0 (ev2 p P.2) = parS (val P) p := by
  rw [list_sum (n := 4) (by rw [ev2_len]; omega)]
  unfold parS
  refine sm_congr fun j hj => ?_
  have hf : (p : Int) = 0 + (0 + (p : Int)) % 2 := by omega
  have e := ev2_val P.2 0 p j p hf
  rw [show ((p : Int) - (p : Int)) / 2 = 0 by omega, show ((p : Int) - 0).toNat = p by omega] at e
  rw [show P = (0, P.2) from Prod.ext hz rfl, ← e, val_in (by show (0 : Int) ≤ _; omega)]
  rw [show ((j : Int) - ((0, ev2 p (0, P.2).2) : Int × List Rat).1).toNat = j by show ((j : Int) - 0).toNat = j; omega]
theorem tot_loop (n : Nat) (S : Store) (r0 : Option Dt) {N D : Nat} (hD : 0 < D) (sD : Sz 4000 (D : Nat)) : ∀ (qs : List Rat) (s : Rat) (a : Nat) (r2 : Option Dt), (∀ q ∈ qs, Fr N D q) → Fr a D s → a + N * qs.length < 2 ^ 4000 →
    ∃ r2', forF (evT cv (Phi (n + 3)) (.nm 2)) (evB cv (Phi (n + 3)) [.asg (.nm 1) (.call i_plus [.var 1, .var 2])]) [] (qs.map qd) [r0, some (qd s), r2] S = .ok (.nx [r0, some (qd (sumL s qs)), r2']) S
  | [], s, a, r2, _, fs, _ => ⟨r2, rfl⟩
  | q :: qs, s, a, r2, hq, fs, ha => by
    rw [List.length_cons, Nat.mul_add] at ha
    have fq := hq q List.mem_cons_self
    obtain ⟨r2', e⟩ := tot_loop n S r0 hD sD qs (s + q) (a + N) (some (qd q)) (fun p hp => hq p (List.mem_cons_of_mem _ hp)) (fs.add fq hD) (by omega)
    have c := callR_pure (run_plus n s q S (fs.sm hD (sz_of (by omega)) sD) (fq.sm hD (sz_of (by omega)) sD)) (qd_nl _)
    refine ⟨r2', ?_⟩
    have hse : sumL s (q :: qs) = sumL (s + q) qs := rfl
    rw [hse, ← e, List.map_cons]
    conv => lhs; unfold forF
    simp only [still_nil, if_true, evT_nm, bind_okS, List.set_cons_succ, List.set_cons_zero, evB_cons, evB_nil, evS_asg, ev_call, evL_cons, evL_nil, ev_var, getR, List.getElem?_cons_succ, List.getElem?_cons_zero, c, thenB_nx]
theorem run_total (n : Nat) (S : Store) {N D : Nat} (hD : 0 < D) (sD : Sz 4000 (D : Nat)) (qs : List Rat) (hq : ∀ q ∈ qs, Fr N D q) (ha : N * qs.length < 2 ^ 4000) : Phi (n + 4) i_total [.tup (qs.map qd)] S = .ok (qd (sumL 0 qs)) S := by
  obtain ⟨r2', e⟩ := tot_loop n S (some (.tup (qs.map qd))) hD sD qs 0 0 none hq .zero (by omega)
  rw [phiR (n + 3) rfl (f := f_total) rfl _ S rfl]
  have hr0 : (List.map some [Dt.tup (qs.map qd)] ++ List.replicate (f_total.sz - f_total.ar) none) = [some (.tup (qs.map qd)), none, none] := rfl
  rw [hr0]
  simp only [f_total, evB_cons, evS_asg, ev_cst, cv_ZERO, bind_okS, evT_nm, List.set_cons_succ, List.set_cons_zero, thenB_nx, evS_forr, evI_seq, ev_var, getR, List.getElem?_cons_succ, List.getElem?_cons_zero, seqK_tup, e, evS_ret, thenB_rt, endF_rt]
theorem lall_loop (n : Nat) (S : Store) (r0 : Option Dt) {N D : Nat} (hD : 0 < D) (sD : Sz 4000 (D : Nat)) : ∀ (qs : List Rat) (s : Rat) (a : Nat) (r2 : Option Dt), (∀ q ∈ qs, Fr N D q) → Fr a D s → a + N * qs.length < 2 ^ 4000 →
    ∃ r2', forF (evT cv (Phi (n + 3)) (.nm 2)) (evB cv (Phi (n + 3)) [.asg (.nm 1) (.call i_law_plus [.var 1, .var 2])]) [] (qs.map qd) [r0, some (qd s), r2] S = .ok (.nx [r0, some (qd (sumL s qs)), r2']) S
  | [], s, a, r2, _, fs, _ => ⟨r2, rfl⟩
  | q :: qs, s, a, r2, hq, fs, ha => by
    rw [List.length_cons, Nat.mul_add] at ha
    have fq := hq q List.mem_cons_self
    obtain ⟨r2', e⟩ := lall_loop n S r0 hD sD qs (s + q) (a + N) (some (qd q)) (fun p hp => hq p (List.mem_cons_of_mem _ hp)) (fs.add fq hD) (by omega)
    have c := callR_pure (run_lplus n s q S (fs.sm hD (sz_of (by omega)) sD) (fq.sm hD (sz_of (by omega)) sD)) (qd_nl _)
    refine ⟨r2', ?_⟩
    have hse : sumL s (q :: qs) = sumL (s + q) qs := rfl
    rw [hse, ← e, List.map_cons]
    conv => lhs; unfold forF
    simp only [still_nil, if_true, evT_nm, bind_okS, List.set_cons_succ, List.set_cons_zero, evB_cons, evB_nil, evS_asg, ev_call, evL_cons, evL_nil, ev_var, getR, List.getElem?_cons_succ, List.getElem?_cons_zero, c, thenB_nx]
theorem run_lall2 (n : Nat) (S : Store) {N D : Nat} (hD : 0 < D) (sD : Sz 4000 (D : Nat)) (qs : List Rat) (hq : ∀ q ∈ qs, Fr N D q) (ha : N * qs.length < 2 ^ 4000) : Phi (n + 4) i_law_all [.tup (qs.map qd)] S = .ok (qd (sumL 0 qs)) S := by
  obtain ⟨r2', e⟩ := lall_loop n S (some (.tup (qs.map qd))) hD sD qs 0 0 none hq .zero (by omega)
  rw [phiR (n + 3) rfl (f := f_law_all) rfl _ S rfl]
  have hz : Dt.tup [.int 0, .int 1] = qd 0 := rfl
  have hr0 : (List.map some [Dt.tup (qs.map qd)] ++ List.replicate (f_law_all.sz - f_law_all.ar) none) = [some (.tup (qs.map qd)), none, none] := rfl
  rw [hr0]
  simp only [f_law_all, evB_cons, evS_asg, ev_tup, evL_cons, evL_nil, ev_int, bind_okS, tupK2, hz, evT_nm, List.set_cons_succ, List.set_cons_zero, thenB_nx, evS_forr, evI_seq, ev_var, getR, List.getElem?_cons_succ, List.getElem?_cons_zero, seqK_tup, e, evS_ret, thenB_rt, endF_rt]
section
variable {P : Int × List Rat} {E most : Nat}
theorem mrow_sD (h : Mrow P E most) : Sz 4000 (E : Nat) := by
  have := h.E1
  exact (sz_of (n := 8) (by omega)).mono (by omega)
theorem len_small {n : Nat} (h : n ≤ 7) : 3600 * n < 2 ^ 4000 := Nat.lt_of_lt_of_le (show 3600 * n < 2 ^ 15 by omega) (Nat.pow_le_pow_right (by omega) (by omega))
theorem run_have_sums (h : Mrow P E most) (h7 : most ≤ 7) (n : Nat) (S : Store) : Phi (n + 5) i_have_sums [rd P] S = .ok (.bl (hs (val P))) S := by
  have hlm := h.lm
  have fr : ∀ (s : Nat), ∀ q ∈ ev2 s P.2, Fr 3600 E q := fun s q hq => by
    rcases ev2_mem hq with e | e
    · rw [e]; exact .zero
    · exact h.fr q e
  have c0 := callR_pure (run_total n S h.E0 (mrow_sD h) (ev2 0 P.2) (fr 0) (len_small (by rw [ev2_len]; omega))) (qd_nl _)
  have c1 := callR_pure (run_total n S h.E0 (mrow_sD h) (ev2 1 P.2) (fr 1) (len_small (by rw [ev2_len]; omega))) (qd_nl _)
  rw [ev2_sum P h.z (by omega) 0 (by omega)] at c0
  rw [ev2_sum P h.z (by omega) 1 (by omega)] at c1
  rw [phiR (n + 4) rfl (f := f_have_sums) rfl _ S rfl]
  have k0 := slk_two0 (S := S) P.2 (by omega)
  have k1 := slk_two (S := S) 1 (by omega) P.2 (by omega)
  have k1 : slkK 2 (.tup (P.2.map qd)) (some 1) none S = .ok (.tup ((ev2 1 P.2).map qd)) S := k1
  have yabs : IEx.absent.isAbs = true := rfl
  have nabs : (IEx.int 1).isAbs = false := rfl
  have hr0 : (List.map some [rd P] ++ List.replicate (f_have_sums.sz - f_have_sums.ar) none) = [some (rd P)] := rfl
  rw [hr0]
  have q0 : eqD S false (qd (parS (val P) ((0 : Nat) : Int))) (qd 1) = .ok (.bl (decide (parS (val P) 0 = 1))) S := by rw [eq_qd, Bool.false_bne]; rfl
  have q1 : eqD S false (qd (parS (val P) ((1 : Nat) : Int))) (qd 1) = .ok (.bl (decide (parS (val P) 1 = 1))) S := by rw [eq_qd, Bool.false_bne]; rfl
  simp only [f_have_sums, evB_cons, evS_ret, ev_and, ev_eq, ev_call, evL_cons, evL_nil, ev_slk, ev_ix, ev_var, ev_int, ev_cst, getR, List.getElem?_cons_zero, bind_okS, ixD_rd1, yabs, nabs, if_true, Bool.false_eq_true, if_false, partK, k0, k1, c0, c1, cv_ONE, q0, q1, toB_bl]
  unfold hs
  cases decide (parS (val P) 0 = 1) <;> rfl
theorem run_has_sums (h : Mrow P E most) (h7 : most ≤ 7) (n : Nat) (S : Store) : Phi (n + 5) i_law_has_sums [rd P] S = .ok (.bl (hs (val P))) S := by
  have hlm := h.lm
  have part : ∀ p : Nat, p ≤ 1 → ∃ R, callR (Phi (n + 4)) i_law_half [rd P, .int p] S = .ok (rd R) S ∧ callR (Phi (n + 4)) i_law_all [.tup (R.2.map qd)] S = .ok (qd (parS (val P) p)) S := fun p hp => by
    obtain ⟨R, e1, e2, e3, e4⟩ := run_lhalf (n + 2) P p S (by omega)
    have fr : ∀ q ∈ R.2, Fr 3600 E q := fun q hq => by
      rcases e4 q hq with e | e
      · exact h.fr q e
      · rw [e]; exact .zero
    have hin : In 0 (0 + (4 : Nat)) R := fun k hk => by
      rw [e3] at hk
      have := in_self P _ hk
      rw [h.z] at this
      omega
    have hl : R.2.length ≤ 7 := by
      rcases hin.start e2 with e | e
      · rw [e]; simp
      · omega
    have c := callR_pure (run_lall2 n S h.E0 (mrow_sD h) R.2 fr (len_small hl)) (qd_nl _)
    have es : (sm 4 fun j : Nat => val R (0 + (j : Int))) = parS (val P) p := by
      unfold parS
      exact sm_congr fun j _ => by rw [e3, Int.zero_add]
    rw [row_sum e2 hin, es] at c
    exact ⟨R, callR_pure e1 (rd_nl _), c⟩
  obtain ⟨R0, a1, a2⟩ := part 0 (by omega)
  obtain ⟨R1, b1, b2⟩ := part 1 (by omega)
  have a1 : callR (Phi (n + 4)) i_law_half [rd P, .int 0] S = .ok (rd R0) S := a1
  have b1 : callR (Phi (n + 4)) i_law_half [rd P, .int 1] S = .ok (rd R1) S := b1
  rw [phiR (n + 4) rfl (f := f_law_has_sums) rfl _ S rfl]
  have hr0 : (List.map some [rd P] ++ List.replicate (f_law_has_sums.sz - f_law_has_sums.ar) none) = [some (rd P)] := rfl
  rw [hr0]
  have h1 : Dt.tup [.int 1, .int 1] = qd 1 := rfl
  have q0 : eqD S false (qd (parS (val P) ((0 : Nat) : Int))) (qd 1) = .ok (.bl (decide (parS (val P) 0 = 1))) S := by rw [eq_qd, Bool.false_bne]; rfl
  have q1 : eqD S false (qd (parS (val P) ((1 : Nat) : Int))) (qd 1) = .ok (.bl (decide (parS (val P) 1 = 1))) S := by rw [eq_qd, Bool.false_bne]; rfl
  simp only [f_law_has_sums, evB_cons, evS_ret, ev_and, ev_eq, ev_call, evL_cons, evL_nil, ev_ix, ev_var, ev_int, ev_tup, getR, List.getElem?_cons_zero, bind_okS, a1, b1, ixD_rd1, a2, b2, tupK2, h1, q0, q1, toB_bl]
  unfold hs
  cases decide (parS (val P) 0 = 1) <;> rfl
/-- the mask back to front has the same sums -/
theorem parS_rev (hz : P.1 = 0) (h7 : P.2.length ≤ 7) (hp : 0 < P.2.length) (p : Int) (hp1 : p = 0 ∨ p = 1) : parS (val (0, P.2.reverse)) p = parS (val P) ((P.2.length - 1 - p) % 2) := by
  unfold parS
  have supp : ∀ k : Int, ¬ (0 ≤ k ∧ k < P.2.length) → val P k = 0 := fun k hk => val_out (by rw [hz]; omega)
  obtain ⟨b, r, hb, hr⟩ : ∃ (b : Nat) (r : Int), (P.2.length : Int) - 1 - p = 2 * (b : Int) + r - (if (P.2.length : Int) - 1 - p < 0 then 2 else 0) ∧ r = ((P.2.length : Int) - 1 - p) % 2 := by
    refine ⟨((P.2.length : Int) - 1 - p + (if (P.2.length : Int) - 1 - p < 0 then 2 else 0)).toNat / 2, _, ?_, rfl⟩
    split <;> omega
  rw [← hr]
  by_cases hneg : (P.2.length : Int) - 1 - p < 0
  · -- one number, the odd part
    rw [sm_zero, sm_zero]
    · intro j _
      refine supp _ ?_
      omega
    · intro j _
      rw [rev_val P hz]
      refine supp _ ?_
      omega
  · rw [if_neg hneg] at hb
    rw [sm_win (f := fun j : Nat => val (0, P.2.reverse) (2 * (j : Int) + p)) (a := 0) (b := b + 1) (n := 4) (by omega) (fun j hj => by omega) (fun j h1 h2 => by
      rw [rev_val P hz]; refine supp _ ?_; omega)]
    rw [sm_win (f := fun j : Nat => val P (2 * (j : Int) + r)) (a := 0) (b := b + 1) (n := 4) (by omega) (fun j hj => by omega) (fun j h1 h2 => by refine supp _ ?_; omega)]
    rw [sm_rev]
    refine sm_congr fun j hj => ?_
    rw [rev_val P hz]
    congr 1
    omega
theorem hs_rev (h : Mrow P E most) (h7 : most ≤ 7) : hs (val (0, P.2.reverse)) = hs (val P) := by
  have hlm := h.lm
  have hl2 := h.l2
  unfold hs
  rw [parS_rev h.z (by omega) (by omega) 0 (.inl rfl), parS_rev h.z (by omega) (by omega) 1 (.inr rfl)]
  have hc : (P.2.length : Int) % 2 = 0 ∨ (P.2.length : Int) % 2 = 1 := by omega
  rcases hc with hc | hc
  · rw [show ((P.2.length : Int) - 1 - 0) % 2 = 1 by omega, show ((P.2.length : Int) - 1 - 1) % 2 = 0 by omega, Bool.and_comm]
  · rw [show ((P.2.length : Int) - 1 - 0) % 2 = 0 by omega, show ((P.2.length : Int) - 1 - 1) % 2 = 1 by omega]
end
end K77
namespace K77
open PySem Pz
/-! ### with both sums 1 the rows sum to nought -/
section
variable {m : Int → Rat} {w : Nat}
theorem par_win (hm : Mk m w) (h7 : w ≤ 7) (a : Nat) (h1 : 7 ≤ a) (h2 : a ≤ 23) : sm 13 (fun s => m ((a : Int) - 2 * (s : Int))) = parS m ((a % 2 : Nat) : Int) := by
  obtain ⟨b, r, rfl, hr⟩ : ∃ b r, a = 2 * b + r ∧ r < 2 := ⟨a / 2, a % 2, by omega, by omega⟩
  have supp : ∀ k : Int, ¬ (0 ≤ k ∧ k < 7) → m k = 0 := fun k hk => Classical.byContradiction fun z => by have := hm k z; omega
  rw [show (2 * b + r) % 2 = r by omega]
  rw [sm_win (a := b - 3) (b := 4) (n := 13) (by omega) (fun j hj => by refine supp _ ?_; omega) (fun j h3 h4 => by refine supp _ ?_; omega)]
  rw [sm_rev]
  unfold parS
  refine sm_congr fun j hj => ?_
  congr 1
  omega
theorem sum_par (hm : Mk m w) (h7 : w ≤ 7) : sm 7 (fun i => m (i : Int)) = parS m 0 + parS m 1 := by
  have e0 : parS m 0 = ((((0 : Rat) + m 0) + m 2) + m 4) + m 6 := rfl
  have e1 : parS m 1 = ((((0 : Rat) + m 1) + m 3) + m 5) + m 7 := rfl
  have e2 : sm 7 (fun i => m (i : Int)) = (((((((0 : Rat) + m 0) + m 1) + m 2) + m 3) + m 4) + m 5) + m 6 := rfl
  have z : m 7 = 0 := Classical.byContradiction fun q => by have := hm 7 q; omega
  rw [e0, e1, e2, z]
  grind
theorem qv_col (hm : Mk m w) (h7 : w ≤ 7) (h0 : parS m 0 = 1) (h1 : parS m 1 = 1) (t : Nat) (t1 : 1 ≤ t) (t2 : t ≤ 11) : sm 13 (fun s => qv m (2 * ((s : Int) - 6) + 6 - (t : Int))) = 2 := by
  unfold qv
  rw [sm_swap]
  have inner : ∀ i : Nat, i < 7 → sm 13 (fun s => m (i : Int) * m ((i : Int) - (2 * ((s : Int) - 6) + 6 - (t : Int)))) = m (i : Int) := fun i hi => by
    rw [sm_mull]
    have e : sm 13 (fun s => m ((i : Int) - (2 * ((s : Int) - 6) + 6 - (t : Int)))) = sm 13 fun s => m (((i + t + 6 : Nat) : Int) - 2 * (s : Int)) := sm_congr fun s _ => by congr 1; omega
    rw [e, par_win hm h7 _ (by omega) (by omega)]
    have : ((i + t + 6) % 2 = 0) ∨ ((i + t + 6) % 2 = 1) := by omega
    rcases this with q | q
    · rw [q]
      show m _ * parS m 0 = _
      rw [h0, Rat.mul_one]
    · rw [q]
      show m _ * parS m 1 = _
      rw [h1, Rat.mul_one]
  rw [sm_congr inner, sum_par hm h7, h0, h1]
  grind
theorem itx_sum (hm : Mk m w) (hw2 : 2 ≤ w) (h7 : w ≤ 7) (h0 : parS m 0 = 1) (h1 : parS m 1 = 1) : ∀ k, sm 13 (fun s => itx m k ((s : Int) - 6)) = 0
  | 0 => by
    have e : sm 13 (fun s => itx m 0 ((s : Int) - 6)) = ((sI 13 fun s => start ((s : Int) - 6) : Int) : Rat) := sm_int 13
    rw [e]
    have : (sI 13 fun s => start ((s : Int) - 6)) = 0 := by decide
    rw [this]; rfl
  | k + 1 => by
    have e : ∀ s : Nat, itx m (k + 1) ((s : Int) - 6) = sm 13 (fun t => qv m (2 * ((s : Int) - 6) + 6 - (t : Int)) * itx m k ((t : Int) - 6)) * Rat.divInt 1 2 := fun s => rfl
    rw [sm_congr fun s _ => e s, sm_mul, sm_swap]
    have col : ∀ t : Nat, t < 13 → sm 13 (fun s => qv m (2 * ((s : Int) - 6) + 6 - (t : Int)) * itx m k ((t : Int) - 6)) = 2 * itx m k ((t : Int) - 6) := fun t ht => by
      rw [sm_mul]
      by_cases hz : itx m k ((t : Int) - 6) = 0
      · rw [hz, Rat.mul_zero, Rat.mul_zero]
      · have := itx_in hm hw2 k _ hz
        unfold hw at this
        rw [qv_col hm h7 h0 h1 t (by omega) (by omega)]
    rw [sm_congr col, sm_mull, itx_sum hm hw2 h7 h0 h1 k, Rat.mul_zero, Rat.zero_mul]
/-- half of it -/
theorem itx_half (hm : Mk m w) (hw2 : 2 ≤ w) (h7 : w ≤ 7) (h0 : parS m 0 = 1) (h1 : parS m 1 = 1) (k : Nat) : itx m k 0 + sm 6 (fun q => itx m k ((q : Int) + 1)) * 2 = 0 := by
  have e := itx_sum hm hw2 h7 h0 h1 k
  rw [show (13 : Nat) = 6 + (1 + 6) from rfl, sm_split, sm_split] at e
  have e1 : sm 6 (fun s => itx m k ((s : Int) - 6)) = sm 6 fun q => itx m k ((q : Int) + 1) := by
    rw [sm_rev]
    refine sm_congr fun j hj => ?_
    rw [← itx_sym hm h7]
    congr 1; omega
  have e2 : sm 6 (fun j => itx m k (((6 + (1 + j) : Nat) : Int) - 6)) = sm 6 fun q => itx m k ((q : Int) + 1) := sm_congr fun j _ => by congr 1; omega
  have e3 : sm 1 (fun j => itx m k (((6 + j : Nat) : Int) - 6)) = itx m k 0 := by
    show (0 : Rat) + itx m k (((6 + 0 : Nat) : Int) - 6) = _
    rw [Rat.zero_add]; rfl
  rw [e1, e2, e3] at e
  grind
end
/-- it ends where no leading place is behind h -/
theorem ends2 {x : Nat → Int → Rat} {w h : Nat} (hh : h ≤ w) (hp : ∀ k < w + 1, lead (lf x w k) 0 w ≠ none → pv x w k < h) : ∃ K ≤ h, Live x w K ∧ lead (lf x w K) 0 w = none := by
  refine Classical.byContradiction fun hn => ?_
  by_cases hw1 : h + 1 ≤ w + 1
  · have hL : ∀ k, k ≤ h + 1 → Live x w k := by
      intro k
      induction k with
      | zero => intro _ j hj; omega
      | succ k ih =>
        intro hk j hj
        by_cases e : j = k
        · subst e; exact fun z => hn ⟨j, by omega, ih (by omega), z⟩
        · exact ih (by omega) j (by omega)
    obtain ⟨i, j, h1, h2, h3⟩ := pigeon h (pv x w) fun i hi => hp i (by omega) (hL (h + 1) (Nat.le_refl _) i hi)
    have hz := lf_zero (x := x) (w := w) (hL j (by omega)) h1
    rw [h3] at hz
    exact (live_pv (hL (h + 1) (Nat.le_refl _) j h2)).2.1 hz
  · omega
section
variable {m : Int → Rat} {A : Int → Int} {E w B : Nat}
theorem rule_K2 (hm : Mk m w) (hw2 : 2 ≤ w) (h7 : w ≤ 7) (h0 : parS m 0 = 1) (h1 : parS m 1 = 1) : ∃ K ≤ hw w, Live (itx m) w K ∧ lead (lf (itx m) w K) 0 w = none := by
  refine ends2 (by unfold hw; omega) fun k hk hl => ?_
  obtain ⟨p1, p2, _, p4⟩ := live_pv hl
  obtain ⟨p, hp⟩ : ∃ p, p = pv (itx m) w k := ⟨_, rfl⟩
  rw [← hp] at p1 p2 p4 ⊢
  have R := (rels (x := itx m) k hk).1
  have hw1 : 1 ≤ hw w := by unfold hw; omega
  have hww : hw w < w := by unfold hw; omega
  have hw5 : hw w ≤ 5 := by unfold hw; omega
  -- the number at any place
  obtain ⟨L, hL⟩ : ∃ L : Int → Rat, L = fun q => sm (w + 1) fun i => (lf (itx m) w k).getD (w + i) 0 * itx m i q := ⟨_, rfl⟩
  have Lq : ∀ q : Nat, q < w → L q = (lf (itx m) w k).getD q 0 := fun q hq => by rw [hL, R q hq]
  have Lz : ∀ q : Int, (hw w : Int) < q → L q = 0 := fun q hq => by
    rw [hL]
    refine sm_zero fun i _ => ?_
    have : itx m i q = 0 := Classical.byContradiction fun z => by have := itx_in hm hw2 i q z; omega
    rw [this, Rat.mul_zero]
  have Ls : L 0 + sm 6 (fun q => L ((q : Int) + 1)) * 2 = 0 := by
    rw [hL]
    have e : sm 6 (fun q => sm (w + 1) fun i => (lf (itx m) w k).getD (w + i) 0 * itx m i ((q : Int) + 1)) = sm (w + 1) fun i => (lf (itx m) w k).getD (w + i) 0 * sm 6 fun q => itx m i ((q : Int) + 1) := by
      rw [sm_swap]
      exact sm_congr fun i _ => sm_mull
    show sm (w + 1) (fun i => (lf (itx m) w k).getD (w + i) 0 * itx m i 0) + sm 6 (fun q => sm (w + 1) fun i => (lf (itx m) w k).getD (w + i) 0 * itx m i ((q : Int) + 1)) * 2 = 0
    rw [e, ← sm_mul, ← sm_add]
    refine sm_zero fun i _ => ?_
    have := itx_half hm hw2 h7 h0 h1 i
    have e2 : (lf (itx m) w k).getD (w + i) 0 * itx m i 0 + (lf (itx m) w k).getD (w + i) 0 * (sm 6 fun q => itx m i ((q : Int) + 1)) * 2 = (lf (itx m) w k).getD (w + i) 0 * (itx m i 0 + (sm 6 fun q => itx m i ((q : Int) + 1)) * 2) := by grind
    rw [e2, this, Rat.mul_zero]
  refine Nat.lt_of_not_le fun hge => p2 ?_
  by_cases he : p = hw w
  · -- the last place
    have Lp : ∀ q : Nat, q < p → L q = 0 := fun q hq => by rw [Lq q (by omega), p4 q hq]
    have s6 : sm 6 (fun q => L ((q : Int) + 1)) = L p := by
      rw [sm_win (a := p - 1) (b := 1) (n := 6) (by omega) (fun j hj => by
        have := Lp (j + 1) (by omega)
        rwa [Int.natCast_add] at this) (fun j h2 h3 => Lz _ (by omega))]
      show (0 : Rat) + L (((p - 1 + 0 : Nat) : Int) + 1) = _
      rw [Rat.zero_add]
      congr 1; omega
    have l0 := Lp 0 (by omega)
    rw [s6] at Ls
    have l0' : L 0 = 0 := l0
    rw [l0', Rat.zero_add] at Ls
    rw [← Lq p p1]
    rcases Rat.mul_eq_zero.mp Ls with q | q
    · exact q
    · exact absurd q (by decide)
  · rw [← Lq p p1]
    exact Lz p (by omega)
/-! the told numbers' bounds, finer -/
def Qn (B : Nat) : Nat → Nat
  | 0 => 1
  | k + 1 => Qn B k * (Nm B k * Pn B k)
theorem bas_bds2 (h : Mok m A E B w) : ∀ k, Live (itx m) w k → ∃ us, Bds (bas (itx m) w k) us ∧ prodU us ≤ Pn B k ∧ prodV us ≤ Qn B k
  | 0, _ => ⟨[], trivial, Nat.le_refl _, Nat.le_refl _⟩
  | k + 1, hL => by
    obtain ⟨us, h1, h2, h3⟩ := bas_bds2 h k fun j hj => hL j (by omega)
    have hx := vt_fr h k
    have hD := Dm_pos h.hE k
    have hl : FrA (Nm B k * prodU us) (Dm E k * prodV us) (lf (itx m) w k) := clr_fr h1 hx hD
    have hDp : 0 < Dm E k * prodV us := Nat.mul_pos hD (prodV_pos h1)
    obtain ⟨_, hne, _⟩ := live_pv (hL k (by omega))
    obtain ⟨a, ea, ha⟩ := hl.get (pv (itx m) w k)
    have ha0 : a ≠ 0 := fun z => hne (by rw [ea, z, Rat.zero_divInt])
    have hob : FrA (Nm B k * prodU us) a.natAbs (ob (itx m) w k) := by
      intro q hq
      unfold ob at hq
      obtain ⟨p, hp, rfl⟩ := List.mem_map.mp hq
      rw [ea]
      exact (hl p hp).div ha0 hDp
    have hap : 0 < a.natAbs := Int.natAbs_pos.mpr ha0
    have hB : Nm B k * prodU us ≤ Nm B k * Pn B k := Nat.mul_le_mul_left _ h2
    refine ⟨us ++ [(Nm B k * prodU us, a.natAbs)], h1.snoc hob hap, ?_, ?_⟩
    · rw [prodU_snoc]
      exact Nat.mul_le_mul h2 (by dsimp only; omega)
    · rw [prodV_snoc]
      exact Nat.mul_le_mul h3 (by dsimp only; omega)
theorem lf_fr2 (h : Mok m A E B w) {k : Nat} (hL : Live (itx m) w k) : ∃ V, 0 < V ∧ V ≤ Dm E k * Qn B k ∧ FrA (Nm B k * Pn B k) V (lf (itx m) w k) := by
  obtain ⟨us, h1, h2, h3⟩ := bas_bds2 h k hL
  exact ⟨_, Nat.mul_pos (Dm_pos h.hE k) (prodV_pos h1), Nat.mul_le_mul_left _ h3, (clr_fr h1 (vt_fr h k) (Dm_pos h.hE k)).mono (Nat.mul_le_mul_left _ h2)⟩
end
end K77
namespace K77
open PySem Pz
/-! ### has_curve -/
theorem szJ_mono : ∀ {n N D N' D' : Nat}, SzJ n N D = true → N' ≤ N → D' ≤ D → SzJ n N' D' = true
  | 0, _, _, _, _, _, _, _ => rfl
  | n + 1, N, D, N', D', h, hN, hD => by
    obtain ⟨h1, h2, h3, h4, h5⟩ := szJ_succ h
    have a1 := Nat.mul_le_mul hN hN
    have a2 := Nat.mul_le_mul hD hD
    have a3 := Nat.mul_le_mul a1 a2
    have a4 := Nat.mul_le_mul a2 a2
    show (decide (N' < 2 ^ 4000) && decide (D' < 2 ^ 4000) && decide (2 * (N' * N' * (D' * D')) < 2 ^ 13530) && decide (D' * D' * (D' * D') < 2 ^ 13530) && SzJ n (2 * (N' * N')) (D' * D')) = true
    rw [decide_eq_true (Nat.lt_of_le_of_lt hN h1), decide_eq_true (Nat.lt_of_le_of_lt hD h2), decide_eq_true (Nat.lt_of_le_of_lt (Nat.mul_le_mul_left 2 a3) h3), decide_eq_true (Nat.lt_of_le_of_lt a4 h4), szJ_mono h5 (Nat.mul_le_mul_left 2 a1) a2]
    rfl
theorem szJ_less : ∀ {n N D : Nat}, SzJ (n + 1) N D = true → SzJ n N D = true
  | 0, _, _, _ => rfl
  | n + 1, N, D, h => by
    obtain ⟨h1, h2, h3, h4, h5⟩ := szJ_succ h
    show (decide (N < 2 ^ 4000) && decide (D < 2 ^ 4000) && decide (2 * (N * N * (D * D)) < 2 ^ 13530) && decide (D * D * (D * D) < 2 ^ 13530) && SzJ n (2 * (N * N)) (D * D)) = true
    rw [decide_eq_true h1, decide_eq_true h2, decide_eq_true h3, decide_eq_true h4, szJ_less h5]
    rfl
theorem szJ_down {n k N D : Nat} (h : SzJ n N D = true) (hk : k ≤ n) : SzJ k N D = true := by
  induction n with
  | zero => obtain rfl : k = 0 := by omega
            exact h
  | succ n ih =>
    by_cases e : k = n + 1
    · subst e; exact h
    · exact ih (szJ_less h) (by omega)
theorem szI_mono : ∀ {n N N' : Nat}, SzI n N = true → N' ≤ N → SzI n N' = true
  | 0, _, _, _, _ => rfl
  | n + 1, N, N', h, hN => by
    obtain ⟨h1, h2⟩ := szI_succ h
    have a1 := Nat.mul_le_mul_left 2 (Nat.mul_le_mul hN hN)
    show (decide (2 * (N' * N') < 2 ^ 13530) && SzI n (2 * (N' * N'))) = true
    rw [decide_eq_true (Nat.lt_of_le_of_lt a1 h1), szI_mono h2 a1]
    rfl
theorem szI_less : ∀ {n N : Nat}, SzI (n + 1) N = true → SzI n N = true
  | 0, _, _ => rfl
  | n + 1, N, h => by
    obtain ⟨h1, h2⟩ := szI_succ h
    show (decide (2 * (N * N) < 2 ^ 13530) && SzI n (2 * (N * N))) = true
    rw [decide_eq_true h1, szI_less h2]
    rfl
theorem szI_down {n k N : Nat} (h : SzI n N = true) (hk : k ≤ n) : SzI k N = true := by
  induction n with
  | zero => obtain rfl : k = 0 := by omega
            exact h
  | succ n ih =>
    by_cases e : k = n + 1
    · subst e; exact h
    · exact ih (szI_less h) (by omega)
/-- the bounds of the told numbers of masks with both sums 1 -/
def N4 (B : Nat) : Nat := Nm B 4 * Pn B 4
def D4 (B E : Nat) : Nat := Dm E 4 * Qn B 4
def FineN (B E : Nat) : Prop := SzJ 4 (N4 B) (D4 B E) = true ∧ SzI 4 (N4 B) = true ∧ N4 B < 2 ^ 4000 ∧ D4 B E < 2 ^ 4000
theorem fine1 : FineN 3600 60 := by unfold FineN; decide +kernel
theorem fine2 : FineN 2880 120 := by unfold FineN; decide +kernel
theorem fine3 : FineN 1440 240 := by unfold FineN; decide +kernel
section
variable {m : Int → Rat} {A : Int → Int} {E w B : Nat}
theorem NP_mono (hB : 0 < B) : ∀ {j k : Nat}, j ≤ k → Nm B j * Pn B j ≤ Nm B k * Pn B k ∧ 0 < Pn B k := by
  have hN : ∀ k, 0 < Nm B k := fun k => Nat.mul_pos (by omega) (Nat.pow_pos (Nat.mul_pos (by omega) (Nat.mul_pos hB hB)))
  intro j k h
  induction k with
  | zero => obtain rfl : j = 0 := by omega
            exact ⟨Nat.le_refl _, Nat.one_pos⟩
  | succ k ih =>
    have hP : 0 < Pn B k := by
      by_cases e : j = k + 1
      · clear ih
        subst e
        clear h
        have : ∀ k, 0 < Pn B k := fun k => by
          induction k with
          | zero => exact Nat.one_pos
          | succ k ih => exact Nat.mul_pos ih (Nat.mul_pos (by omega) (Nat.mul_pos (hN k) ih))
        exact this k
      · exact (ih (by omega)).2
    have hP1 : 0 < Pn B (k + 1) := Nat.mul_pos hP (Nat.mul_pos (by omega) (Nat.mul_pos (hN k) hP))
    refine ⟨?_, hP1⟩
    by_cases e : j = k + 1
    · subst e; exact Nat.le_refl _
    · refine Nat.le_trans (ih (by omega)).1 ?_
      have a1 : Nm B k * Pn B k ≤ Pn B (k + 1) := by
        show _ ≤ Pn B k * (2 * (Nm B k * Pn B k))
        exact Nat.le_trans (Nat.le_mul_of_pos_left _ (show 0 < 2 by omega)) (Nat.le_mul_of_pos_left _ hP)
      exact Nat.le_trans a1 (Nat.le_mul_of_pos_left _ (hN (k + 1)))
theorem DQ_mono (hB : 0 < B) (hE : 0 < E) {j k : Nat} (h : j ≤ k) : Dm E j * Qn B j ≤ Dm E k * Qn B k := by
  have hN : ∀ k, 0 < Nm B k := fun k => Nat.mul_pos (by omega) (Nat.pow_pos (Nat.mul_pos (by omega) (Nat.mul_pos hB hB)))
  induction k with
  | zero => obtain rfl : j = 0 := by omega
            exact Nat.le_refl _
  | succ k ih =>
    by_cases e : j = k + 1
    · subst e; exact Nat.le_refl _
    · refine Nat.le_trans (ih (by omega)) ?_
      have hP := (NP_mono hB (Nat.le_refl k)).2
      refine Nat.mul_le_mul ?_ (Nat.le_mul_of_pos_right _ (Nat.mul_pos (hN k) hP))
      unfold Dm
      exact Nat.pow_le_pow_right (Nat.mul_pos (by omega) (Nat.mul_pos hE hE)) (by omega)
theorem Mok.Bpos (h : Mok m A E B w) : 0 < B := by
  have := h.eb
  have := h.hE
  refine Nat.pos_of_ne_zero fun z => ?_
  subst z
  have := Nat.mul_pos h.hE h.hE
  omega
/-- the told numbers -/
theorem told_fine (h : Mok m A E B w) (hf : FineN B E) {K : Nat} (hL : Live (itx m) w K) (hK : K ≤ 4) :
    ∃ N V, 0 < V ∧ FrA N V (told (itx m) w K) ∧ N < 2 ^ 4000 ∧ V < 2 ^ 4000 ∧ SzJ K N V = true ∧ SzI K N = true := by
  obtain ⟨V, h1, h2, h3⟩ := lf_fr2 h hL
  obtain ⟨f1, f2, f3, f4⟩ := hf
  have hN : Nm B K * Pn B K ≤ N4 B := (NP_mono h.Bpos hK).1
  have hV : V ≤ D4 B E := Nat.le_trans h2 (DQ_mono h.Bpos h.hE hK)
  refine ⟨Nm B K * Pn B K, V, h1, fun q hq => h3 q (List.mem_of_mem_drop (List.mem_of_mem_take hq)), Nat.lt_of_le_of_lt hN f3, Nat.lt_of_le_of_lt hV f4, szJ_mono (szJ_down f1 hK) hN hV, szI_mono (szI_down f2 hK) hN⟩
end
/-- what has_curve tells -/
def cur (m : Int → Rat) (w K : Nat) : Bool := hs m && jR K (told (itx m) w K)
section
variable {P : Int × List Rat} {A : Int → Int} {E w most : Nat}
theorem run_has_curve (hP : Mrow P E most) (h7 : most ≤ 7) (hM : Msk P (val P) A E w) {K : Nat} (hL : Live (itx (val P)) w K) (hd : lead (lf (itx (val P)) w K) 0 w = none) (hKw : K ≤ w) (hK : K ≤ 6) (n : Nat) (S : Store)
    (hb : hs (val P) = true → ∃ N V, 0 < V ∧ FrA N V (told (itx (val P)) w K) ∧ SzJ K N V = true) : Phi (n + 9) i_has_curve [rd P] S = .ok (.bl (cur (val P) w K)) S := by
  have hw2 := hM.ok.w2
  have hw7 := hM.ok.w7
  have hlen := hM.len
  have c1 := callR_pure (run_check_mask (n + 2) P S hM.nf hM.z (by omega) (by omega)) rfl
  have cs := callR_pure (run_have_sums hP h7 (n + 2) S) rfl
  have hcc : Phi (n + 8) i_comes_to_curve [rd P] S = .ok (.bl (cur (val P) w K)) S := by
    rw [phiR (n + 7) rfl (f := f_comes_to_curve) rfl _ S rfl]
    have hr0 : (List.map some [rd P] ++ List.replicate (f_comes_to_curve.sz - f_comes_to_curve.ar) none) = [some (rd P)] := rfl
    rw [hr0]
    unfold cur
    cases hh : hs (val P) with
    | false =>
      rw [hh] at cs
      simp only [f_comes_to_curve, evB_cons, evS_ret, ev_and, ev_call, evL_cons, evL_nil, ev_var, getR, List.getElem?_cons_zero, bind_okS, cs, toB_bl, Bool.false_eq_true, if_false, thenB_rt, endF_rt, Bool.false_and]
    | true =>
      rw [hh] at cs
      obtain ⟨N, V, v1, v2, v3⟩ := hb hh
      obtain ⟨S', er⟩ := run_rule_mask hM hL hd hKw hK n S
      have cr := callR_ext er (tup_nl _)
      have cw := callR_pure (run_within (n + 3) S K (told (itx (val P)) w K) _ (by rw [told_len hKw]; omega) (.inl rfl) v2 v1 v3 (by omega)) rfl
      simp only [f_comes_to_curve, evB_cons, evS_ret, ev_and, ev_call, evL_cons, evL_nil, ev_var, getR, List.getElem?_cons_zero, bind_okS, cs, toB_bl, if_true, cr, cw, thenB_rt, endF_rt, Bool.true_and]
  have c2 := callR_pure hcc rfl
  rw [phiR (n + 8) rfl (f := f_has_curve) rfl _ S rfl]
  simp [f_has_curve, getR, c1, c2]
/-- both tests tell the same of the told polynomial -/
theorem told_jeq {x : Nat → Int → Rat} {w K : Nat} (hKw : K ≤ w) {N D : Nat} (hD : 0 < D) (hfr : FrA N D (told x w K)) : jI (K + 1) ((told x w K).map (over_ (lcmL 1 (told x w K)))) = jR K (told x w K) := by
  obtain ⟨qs, hqs⟩ : ∃ qs, qs = told x w K := ⟨_, rfl⟩
  have ql : qs.length = K + 1 := by rw [hqs]; exact told_len hKw
  have qK : qs.getD K 0 = 1 := by rw [hqs]; exact told_last hKw
  rw [← hqs] at hfr ⊢
  obtain ⟨u, hu⟩ : ∃ u, u = lcmL 1 qs := ⟨_, rfl⟩
  have ud : u ∣ D := hu ▸ lcmL_least (Nat.one_dvd _) fun q hq => ((hfr q hq).den hD).1
  have up : 0 < u := Nat.pos_of_dvd_of_pos ud hD
  have hur : ((u : Int) : Rat) ≠ 0 := fun e => by
    have : (u : Int) = 0 := by exact_mod_cast e
    omega
  rw [← hu]
  have zl : (qs.map (over_ u)).length = K + 1 := by rw [List.length_map, ql]
  have rel : ∀ i, qs.getD i 0 = ((u : Int) : Rat)⁻¹ * ((qs.map (over_ u)).getD i 0 : Rat) := fun i => by
    by_cases hi : i < qs.length
    · have hm : qs.getD i 0 ∈ qs := getD_mem hi
      have e := over_eq' (u := u) (hu ▸ (lcmL_dvd (qs := qs) (u := 1)).2 _ hm) up
      have g : (qs.map (over_ u)).getD i 0 = over_ u (qs.getD i 0) := by
        refine getD_of ?_
        rw [List.getElem?_map, List.getElem?_eq_getElem hi, getD_of (List.getElem?_eq_getElem hi)]; rfl
      rw [g]
      conv => lhs; rw [e]
      rw [Rat.divInt_eq_div, Rat.div_def, Rat.mul_comm]
    · rw [getD_big (by omega), getD_bigI (by omega)]
      show (0 : Rat) = _ * (0 : Rat)
      rw [Rat.mul_zero]
  refine (jeq K qs _ ((u : Int) : Rat)⁻¹ (fun e => ?_) ⟨by rw [zl, ql], rel⟩ (by omega) (by omega) ?_).symm
  · have := Rat.mul_inv_cancel _ hur
    rw [e, Rat.mul_zero] at this
    exact absurd this (by decide)
  · rw [zl, show K + 1 - 1 = K by omega]
    intro e
    have := rel K
    rw [e, qK] at this
    have h0 : ((0 : Int) : Rat) = 0 := rfl
    rw [h0, Rat.mul_zero] at this
    exact absurd this (by decide)
end
end K77
namespace K77
open PySem Pz
/-! ### masks of two or three numbers whose outer ones sum to the inner one -/
section
variable {m : Int → Rat} {w : Nat}
def sq3 (m : Int → Rat) : Rat := m 0 * m 0 + m 1 * m 1 + m 2 * m 2 - (m 0 * m 1 + m 1 * m 2)
theorem qv3 (hm : Mk m w) (h3 : w ≤ 3) : qv m 0 = m 0 * m 0 + m 1 * m 1 + m 2 * m 2 ∧ qv m 1 = m 1 * m 0 + m 2 * m 1 ∧ qv m 2 = m 2 * m 0 ∧ qv m 3 = 0 := by
  have z : ∀ k : Int, ¬ (0 ≤ k ∧ k < 3) → m k = 0 := fun k hk => Classical.byContradiction fun q => by have := hm k q; omega
  have e : ∀ k : Int, qv m k = m 0 * m (0 - k) + m 1 * m (1 - k) + m 2 * m (2 - k) := fun k => by
    unfold qv
    rw [sm_win (a := 0) (b := 3) (n := 7) (by omega) (fun j hj => by omega) fun j h1 h2 => by rw [z j (by omega), Rat.zero_mul]]
    show ((0 : Rat) + m ((0 + 0 : Nat) : Int) * m (((0 + 0 : Nat) : Int) - k)) + m ((0 + 1 : Nat) : Int) * m (((0 + 1 : Nat) : Int) - k) + m ((0 + 2 : Nat) : Int) * m (((0 + 2 : Nat) : Int) - k) = _
    rw [Rat.zero_add]; rfl
  refine ⟨?_, ?_, ?_, ?_⟩
  · rw [e]; rfl
  · rw [e]
    show m 0 * m (-1) + m 1 * m 0 + m 2 * m 1 = _
    rw [z (-1) (by omega), Rat.mul_zero, Rat.zero_add]
  · rw [e]
    show m 0 * m (-2) + m 1 * m (-1) + m 2 * m 0 = _
    rw [z (-1) (by omega), z (-2) (by omega), Rat.mul_zero, Rat.mul_zero, Rat.zero_add, Rat.zero_add]
  · rw [e]
    show m 0 * m (-3) + m 1 * m (-2) + m 2 * m (-1) = _
    rw [z (-1) (by omega), z (-2) (by omega), z (-3) (by omega), Rat.mul_zero, Rat.mul_zero, Rat.mul_zero]; grind
theorem itx1 (p : Int) : itx m 1 p = (qv m (2 * p) * 2 - qv m (2 * p + 1) - qv m (2 * p - 1)) * Rat.divInt 1 2 := by
  show stepx m (itx m 0) p = _
  unfold stepx
  congr 1
  rw [sm_win (a := 5) (b := 3) (n := 13) (by omega) (fun j hj => by
    have : itx m 0 ((j : Int) - 6) = 0 := by
      show ((start ((j : Int) - 6) : Int) : Rat) = 0
      unfold start
      rw [if_neg (by omega), if_neg (by omega)]; rfl
    rw [this, Rat.mul_zero]) fun j h1 h2 => by
    have : itx m 0 ((j : Int) - 6) = 0 := by
      show ((start ((j : Int) - 6) : Int) : Rat) = 0
      unfold start
      rw [if_neg (by omega), if_neg (by omega)]; rfl
    rw [this, Rat.mul_zero]]
  show (((0 : Rat) + qv m (2 * p + 6 - ((5 + 0 : Nat) : Int)) * ((-1 : Int) : Rat)) + qv m (2 * p + 6 - ((5 + 1 : Nat) : Int)) * ((2 : Int) : Rat)) + qv m (2 * p + 6 - ((5 + 2 : Nat) : Int)) * ((-1 : Int) : Rat) = _
  rw [show 2 * p + 6 - ((5 + 0 : Nat) : Int) = 2 * p + 1 by omega, show 2 * p + 6 - ((5 + 1 : Nat) : Int) = 2 * p by omega, show 2 * p + 6 - ((5 + 2 : Nat) : Int) = 2 * p - 1 by omega]
  have e1 : ((-1 : Int) : Rat) = -1 := rfl
  have e2 : ((2 : Int) : Rat) = 2 := rfl
  rw [e1, e2]
  grind
theorem half_eq : Rat.divInt 1 2 * 2 = 1 := by decide +kernel
/-- the row is led to a multiple of itself -/
theorem itx_eig (hm : Mk m w) (hw2 : 2 ≤ w) (h3 : w ≤ 3) (hsum : m 0 + m 2 = m 1) (p : Int) : itx m 1 p = sq3 m * Rat.divInt 1 2 * itx m 0 p := by
  obtain ⟨q0, q1, q2, q3⟩ := qv3 hm h3
  have hh := half_eq
  have main0 : itx m 1 0 = sq3 m * Rat.divInt 1 2 * itx m 0 0 := by
    rw [itx1]
    show (qv m 0 * 2 - qv m 1 - qv m (-1)) * _ = sq3 m * _ * ((2 : Int) : Rat)
    rw [qv_sym hm (by omega), q0, q1]
    have e2 : ((2 : Int) : Rat) = 2 := rfl
    rw [e2]
    unfold sq3
    grind
  have main1 : itx m 1 1 = sq3 m * Rat.divInt 1 2 * itx m 0 1 := by
    rw [itx1]
    show (qv m 2 * 2 - qv m 3 - qv m 1) * _ = sq3 m * _ * ((-1 : Int) : Rat)
    rw [q2, q3, q1]
    have e2 : ((-1 : Int) : Rat) = -1 := rfl
    rw [e2]
    unfold sq3
    rw [← hsum]
    grind
  by_cases h0 : p = 0
  · subst h0; exact main0
  · by_cases h1 : p = 1
    · subst h1; exact main1
    · by_cases h2 : p = -1
      · subst h2
        rw [itx_sym hm (by omega), itx_sym hm (by omega)]
        exact main1
      · have z : ∀ k, itx m k p = 0 := fun k => Classical.byContradiction fun q => by
          have := itx_in hm hw2 k p q
          unfold hw at this
          omega
        rw [z, z, Rat.mul_zero]
theorem lead_zero {qs : List Rat} {c i : Nat} (h : ∀ j, i ≤ j → j < i + c → qs.getD j 0 = 0) : lead qs i c = none := by
  cases e : lead qs i c with
  | none => rfl
  | some p =>
    obtain ⟨h1, h2, h3, _⟩ := lead_some e
    exact absurd (h p h1 h2) h3
theorem eig_rule (hm : Mk m w) (hw2 : 2 ≤ w) (h3 : w ≤ 3) (hsum : m 0 + m 2 = m 1) :
    Live (itx m) w 1 ∧ lead (lf (itx m) w 1) 0 w = none ∧ (told (itx m) w 1).getD 0 0 = -(sq3 m * Rat.divInt 1 2) := by
  have l0 : lf (itx m) w 0 = vt (itx m) w 0 := rfl
  have i0 : itx m 0 0 = 2 := rfl
  have v00 : (vt (itx m) w 0).getD 0 0 = 2 := by rw [vt_lo (show 0 < w by omega)]; exact i0
  have hlead : lead (lf (itx m) w 0) 0 w = some 0 := by
    obtain ⟨c, rfl⟩ : ∃ c, w = c + 1 := ⟨w - 1, by omega⟩
    unfold lead
    rw [if_pos]
    rw [l0, v00]
    decide
  have hL : Live (itx m) w 1 := fun j hj => by
    obtain rfl : j = 0 := by omega
    rw [hlead]; simp
  have hp : pv (itx m) w 0 = 0 := by unfold pv; rw [hlead]; rfl
  have hget : ∀ i, (lf (itx m) w 1).getD i 0 = (vt (itx m) w 1).getD i 0 - (vt (itx m) w 1).getD 0 0 * ((vt (itx m) w 0).getD i 0 / 2) := fun i => by
    have e := clr_succ (x := itx m) (w := w) (y := vt (itx m) w 1) (vt_len 1) 0 i
    rw [hp, ob_get, hp, l0, v00] at e
    exact e
  have hh := half_eq
  have div2 : ∀ q : Rat, q / 2 = q * Rat.divInt 1 2 := fun q => by
    have : (2 : Rat)⁻¹ = Rat.divInt 1 2 := by decide +kernel
    rw [Rat.div_def, this]
  have z1 : ∀ p : Nat, p < w → (vt (itx m) w 1).getD p 0 = sq3 m * Rat.divInt 1 2 * (vt (itx m) w 0).getD p 0 := fun p hp => by
    rw [vt_lo hp, vt_lo hp]; exact itx_eig hm hw2 h3 hsum p
  refine ⟨hL, lead_zero fun j _ hj => ?_, ?_⟩
  · rw [hget, z1 j (by omega), z1 0 (by omega), v00, div2]
    grind
  · rw [told_get (by omega), hget, z1 0 (by omega), v00, div2, vt_hi (by omega), vt_hi (by omega), if_neg (by omega), if_pos rfl]
    grind
/-- the test of the told two numbers -/
theorem eig_jR (hm : Mk m w) (hw2 : 2 ≤ w) (h3 : w ≤ 3) (hsum : m 0 + m 2 = m 1) (hn : 0 ≤ (sq3 m).num) : jR 1 (told (itx m) w 1) = decide ((sq3 m).num < 2 * (sq3 m).den) := by
  obtain ⟨_, _, ht⟩ := eig_rule hm hw2 h3 hsum
  have hl := told_len (x := itx m) (w := w) (K := 1) (by omega)
  have ht1 := told_last (x := itx m) (w := w) (K := 1) (by omega)
  obtain ⟨s, hs⟩ : ∃ s, s = sq3 m := ⟨_, rfl⟩
  rw [← hs] at ht hn ⊢
  have hd : ((s.den : Int) : Rat) ≠ 0 := fun e => den_ne s (by exact_mod_cast e)
  have h2d : (2 : Rat) * ((s.den : Int) : Rat) ≠ 0 := fun e => by
    rcases Rat.mul_eq_zero.mp e with q | q
    · exact absurd q (by decide)
    · exact hd q
  have hinv := Rat.mul_inv_cancel _ h2d
  have hr : ((2 : Rat) * ((s.den : Int) : Rat))⁻¹ ≠ 0 := fun e => by
    rw [e, Rat.mul_zero] at hinv
    exact absurd hinv (by decide)
  have hmd : s * ((s.den : Int) : Rat) = s.num := mul_den s
  have hh := half_eq
  have hc := cnd_eq (lo := -(s * Rat.divInt 1 2)) (hi := 1) (a := -s.num) (b := 2 * (s.den : Int)) hr (by have := s.den_pos; omega) (by
    rw [Rat.intCast_neg, ← hmd]
    grind) (by
    rw [Rat.intCast_mul]
    have e2 : ((2 : Int) : Rat) = 2 := rfl
    rw [e2, Rat.mul_comm]
    exact hinv.symm)
  unfold jR
  rw [if_neg (by omega), hl, ht, show 1 + 1 - 1 = 1 from rfl, ht1, hc]
  unfold jR
  by_cases h : s.num < 2 * (s.den : Int)
  · rw [decide_eq_true h, decide_eq_false (by omega)]; rfl
  · rw [decide_eq_false h, decide_eq_true (by omega)]; rfl
end
end K77
namespace K77
open PySem Pz
/-! ### rows with what their told numbers want -/
theorem mk_mok {P : Int × List Rat} {E B most : Nat} (h : Mrow P E most) (h7 : most ≤ 7) (hB : ∀ q ∈ P.2, Fr B E q) (eb : 2 * (E * E) ≤ 25 * (B * B)) : ∃ A, Mok (val P) A E B P.2.length := by
  have hfr : ∀ k, Fr B E (val P k) := fun k => Fr.at hB k
  have hA : ∀ k, val P k = Rat.divInt (numF hfr k) E ∧ (numF hfr k).natAbs ≤ B ∧ (val P k = 0 → numF hfr k = 0) := fun k => by
    unfold numF
    split
    · rename_i e; exact ⟨by rw [e, Rat.zero_divInt], Nat.zero_le _, fun _ => rfl⟩
    · rename_i e; exact ⟨(hfr k).choose_spec.1, (hfr k).choose_spec.2, fun z => absurd z e⟩
  have hlm := h.lm
  have supp : Mk (val P) P.2.length := fun k hk => by
    have := in_self P k hk
    rw [h.z] at this
    omega
  exact ⟨numF hfr, ⟨fun i hi => (hA i).2.2 (Classical.byContradiction fun z => by have := supp i z; omega), fun i => (hA i).2.1⟩, fun i => (hA i).1, h.E0, supp, h.l2, by omega, eb⟩
/-- a row with finer bounds -/
def Frow (P : Int × List Rat) : Prop := ∃ E B most, Mrow P E most ∧ most ≤ 6 ∧ (∀ q ∈ P.2, Fr B E q) ∧ 2 * (E * E) ≤ 25 * (B * B) ∧ FineN B E
/-- all that is wanted of a row's polynomial -/
structure Pk (P : Int × List Rat) (E most K : Nat) : Prop where
  hP : Mrow P E most
  h7 : most ≤ 7
  msk : ∃ A, Msk P (val P) A E P.2.length
  live : Live (itx (val P)) P.2.length K
  dead : lead (lf (itx (val P)) P.2.length K) 0 P.2.length = none
  kw : K ≤ P.2.length
  k6 : K ≤ 6
  fine : hs (val P) = true → ∃ N V, 0 < V ∧ FrA N V (told (itx (val P)) P.2.length K) ∧ N < 2 ^ 4000 ∧ V < 2 ^ 4000 ∧ SzJ K N V = true ∧ SzI K N = true
theorem pack {P : Int × List Rat} (h : Frow P) : ∃ E most K, Pk P E most K := by
  obtain ⟨E, B, most, hP, h6, hB, eb, hF⟩ := h
  obtain ⟨A, hM⟩ := mk_msk hP (by omega)
  obtain ⟨A2, hM2⟩ := mk_mok hP (by omega) hB eb
  have hlm := hP.lm
  have hl2 := hP.l2
  cases hh : hs (val P) with
  | false =>
    obtain ⟨K, a, b, c, d⟩ := rule_K hM.ok
    exact ⟨E, most, K, hP, by omega, ⟨A, hM⟩, a, b, c, d, fun e => by rw [hh] at e; cases e⟩
  | true =>
    have hq : parS (val P) 0 = 1 ∧ parS (val P) 1 = 1 := by
      unfold hs at hh
      rw [Bool.and_eq_true] at hh
      exact ⟨of_decide_eq_true hh.1, of_decide_eq_true hh.2⟩
    obtain ⟨K, a, b, c⟩ := rule_K2 hM.ok.supp hl2 (by omega) hq.1 hq.2
    have hK4 : K ≤ 4 := by unfold hw at a; omega
    exact ⟨E, most, K, hP, by omega, ⟨A, hM⟩, b, c, by unfold hw at a; omega, by omega, fun _ => told_fine hM2 hF b hK4⟩
section
variable {P : Int × List Rat} {E most K : Nat}
/-- what the curve's test tells of it -/
def crv (P : Int × List Rat) (K : Nat) : Bool := cur (val P) P.2.length K
theorem Pk.curve (h : Pk P E most K) (n : Nat) (S : Store) : Phi (n + 9) i_has_curve [rd P] S = .ok (.bl (crv P K)) S := by
  obtain ⟨A, hM⟩ := h.msk
  exact run_has_curve h.hP h.h7 hM h.live h.dead h.kw h.k6 n S fun e => by
    obtain ⟨N, V, a, b, c, d, f, g⟩ := h.fine e
    exact ⟨N, V, a, b, f⟩
/-- back to front -/
theorem Pk.back (h : Pk P E most K) (n : Nat) (S : Store) : Phi (n + 9) i_has_curve [rd (0, P.2.reverse)] S = .ok (.bl (crv P K)) S := by
  obtain ⟨A, hM⟩ := mk_msk (rev_mrow h.hP) h.h7
  have hit : itx (val (0, P.2.reverse)) = itx (val P) := itx_congr fun k => rev_qv h.hP h.h7 k
  have hw2 : (((0 : Int), P.2.reverse) : Int × List Rat).2.length = P.2.length := List.length_reverse
  rw [hw2] at hM
  have e := run_has_curve (rev_mrow h.hP) h.h7 hM (K := K) (by rw [hit]; exact h.live) (by rw [hit]; exact h.dead) h.kw h.k6 n S fun e => by
    rw [hs_rev h.hP h.h7] at e
    obtain ⟨N, V, a, b, c, d, f, g⟩ := h.fine e
    exact ⟨N, V, a, by rw [hit]; exact b, f⟩
  rw [e]
  congr 2
  unfold crv cur
  rw [hit, hs_rev h.hP h.h7]
theorem Pk.rule (h : Pk P E most K) (n : Nat) (S : Store) : Phi (n + 8) i_transfer_rule [rd P] S = .ok (.tup ((told (itx (val P)) P.2.length K).map qd)) S := by
  obtain ⟨A, hM⟩ := h.msk
  exact run_transfer_rule hM h.live h.dead h.kw h.k6 n S
theorem Pk.least (h : Pk P E most K) (n : Nat) (S : Store) : ∃ S', Phi (n + 6) i_law_rule [rd P] S = .ok (.lst ((told (itx (val P)) P.2.length K).map qd)) (S ++ S') := by
  obtain ⟨A, hM⟩ := h.msk
  exact run_lrule hM n h.live h.dead h.kw h.k6 S
theorem Pk.shown (h : Pk P E most K) : ∀ q ∈ told (itx (val P)) P.2.length K, Sh q := fun q hq => by
  obtain ⟨A, hM⟩ := h.msk
  exact lf_sh hM.ok h.live h.k6 q (List.mem_of_mem_drop (List.mem_of_mem_take hq))
/-- has_sums and inside, as the law takes them -/
theorem Pk.due (h : Pk P E most K) (n : Nat) (S : Store) (r : Rho) (e1 e2 : IEx) (d : Dt) (hd : IsQ d (told (itx (val P)) P.2.length K)) (h1 : evE cv (Phi (n + 6)) e1 r S = .ok (rd P) S) (h2 : evE cv (Phi (n + 6)) e2 r S = .ok d S) :
    evE cv (Phi (n + 6)) (.and_ (.call i_law_has_sums [e1]) (.call i_law_inside [e2])) r S = .ok (.bl (crv P K)) S := by
  have cs := callR_pure (run_has_sums h.hP h.h7 (n + 1) S) rfl
  have hl := told_len (x := itx (val P)) (w := P.2.length) (K := K) h.kw
  have h9 := h.kw
  have h6 := h.k6
  unfold crv cur
  cases hh : hs (val P) with
  | false =>
    rw [hh] at cs
    simp only [ev_and, ev_call, evL_cons, evL_nil, h1, bind_okS, cs, toB_bl, Bool.false_eq_true, if_false, Bool.false_and]
  | true =>
    rw [hh] at cs
    obtain ⟨N, V, a, b, c, e, f, g⟩ := h.fine hh
    have ci := callR_pure (run_inside (n + 3) S d (told (itx (val P)) P.2.length K) hd b a c e (by omega) (by omega) (by rw [hl]; exact g)) rfl
    rw [hl, told_jeq h.kw a b] at ci
    simp only [ev_and, ev_call, evL_cons, evL_nil, h1, h2, bind_okS, cs, toB_bl, if_true, ci, Bool.true_and]
end
/-! texts of truth values -/
theorem repr_bl (b : Bool) : ∃ s, PyData.strOk s = true ∧ ∀ S, bltD S .repr [.bl b] = .ok (.str s) S := repr_pl rfl (by show (1 : Nat) ≤ 8000; omega) (by show (0 : Nat) ≤ 60; omega)
theorem repr_bl3 (b : Bool) : ∃ s, PyData.strOk s = true ∧ ∀ S, bltD S .repr [.lst [.bl b, .bl b, .bl b]] = .ok (.str s) S := repr_pl rfl (by show (1 + (1 + (1 + 0))) + 1 ≤ 8000; omega) (by show (max 0 (max 0 (max 0 0))) + 1 ≤ 60; omega)
theorem eqD_bl_self (S : Store) (ng b : Bool) : eqD S ng (.bl b) (.bl b) = .ok (.bl (ng != true)) S := by
  have e : PyData.eqv (.bool b) (.bool b) = true := by
    cases b <;> (first | rfl | simp [PyData.eqv])
  have sh : SeqAt.shaped (.bool b) = true := by cases b <;> rfl
  show (if SeqAt.shaped (.bool b) && SeqAt.shaped (.bool b) then Res.ok (Dt.bl (ng != PyData.eqv (.bool b) (.bool b))) S else .bad) = _
  rw [sh, e]; rfl
/-! ### the scaled mask -/
theorem scaled_mrow {P R : Int × List Rat} {E most F : Nat} {c : Rat} (h : Mrow P E most) (nR : Nf R) (hc : c ≠ 0) (hR : ∀ k, val R k = val P k * c) (hF : ∀ k, Fr 3600 F (val P k * c)) (F0 : 0 < F) (F1 : F ≤ 240) : Mrow R F most ∧ R.2.length = P.2.length := by
  have hne : P.2 ≠ [] := fun e => by have := h.l2; rw [e] at this; simp at this
  have ne1 : ∀ k, val R k ≠ 0 ↔ val P k ≠ 0 := fun k => by
    rw [hR]
    constructor
    · intro z e; exact z (by rw [e, Rat.zero_mul])
    · intro z e
      rcases Rat.mul_eq_zero.mp e with q | q
      · exact z q
      · exact hc q
  have i1 : In P.1 (P.1 + P.2.length) R := fun k hk => in_self P k ((ne1 k).mp hk)
  have i2 : In R.1 (R.1 + R.2.length) P := fun k hk => in_self R k ((ne1 k).mpr hk)
  have a2 := (i2.start h.nf).resolve_left fun z => hne (by rw [z])
  have hRne : R.2 ≠ [] := fun e => by
    have hl : P.2.length ≠ 0 := fun z => hne (List.length_eq_zero_iff.mp z)
    rw [e] at a2
    simp at a2; omega
  have a1 := (i1.start nR).resolve_left fun z => hRne (by rw [z])
  have hz := h.z
  have hl2 := h.l2
  have hlm := h.lm
  refine ⟨⟨nR, by omega, by omega, by omega, fun q hq => ?_, F0, F1⟩, by omega⟩
  obtain ⟨k, rfl⟩ := mem_val hq
  rw [hR]
  exact hF k
def facs : List Rat := [2, Rat.divInt 1 2, -1]
theorem scale_step (n : Nat) (S : Store) (P : Int × List Rat) {most : Nat} (h : Mrow P 120 most) (h6 : most ≤ 6) (hf : ∀ q ∈ P.2, Fr 1440 120 q) (c : Rat) (hc : c ∈ facs) :
    ∃ R, callR (Phi (n + 4)) i_law_scaled [rd P, qd c] S = .ok (rd R) S ∧ Frow R := by
  have hlm := h.lm
  have hlS : P.2.length ≤ 7 := by omega
  have sP : AllSm P.2 := fun q hq => (hf q hq).sm (by omega) ((sz_of (n := 11) (by decide)).mono (by omega)) ((sz_of (n := 7) (by decide)).mono (by omega))
  have fP : ∀ k, Fr 1440 120 (val P k) := fun k => Fr.at hf k
  have main : ∀ {N D B F : Nat}, Fr N D c → 0 < D → N < 2 ^ 40 → D < 2 ^ 40 → c ≠ 0 → 1440 * N = B → 120 * D = F → B ≤ 3600 → F ≤ 240 → 2 * (F * F) ≤ 25 * (B * B) → FineN B F → ∃ R, callR (Phi (n + 4)) i_law_scaled [rd P, qd c] S = .ok (rd R) S ∧ Frow R := by
    intro N D B F fc hD hN40 hD40 c0 hB hF b1 f1 eb hfine
    have sc : Sm c := fc.sm hD ((sz_of hN40).mono (by omega)) ((sz_of hD40).mono (by omega))
    obtain ⟨R, r1, r2, r3, r4⟩ := run_lscaled n P c S sP sc (okR_small (by omega)) (by omega)
    have fr : ∀ k, Fr B F (val P k * c) := fun k => by rw [← hB, ← hF]; exact (fP k).mul fc
    obtain ⟨hR, hl⟩ := scaled_mrow h r2 c0 r3 (fun k => (fr k).mono b1) (by omega) f1
    refine ⟨R, callR_pure r1 (rd_nl _), F, B, most, hR, h6, fun q hq => ?_, eb, hfine⟩
    obtain ⟨k, rfl⟩ := mem_val hq
    rw [r3]
    exact fr k
  unfold facs at hc
  simp only [List.mem_cons, List.not_mem_nil, or_false] at hc
  rcases hc with rfl | rfl | rfl
  · exact main (N := 2) (D := 1) (B := 2880) (F := 120) ⟨2, rfl, by decide⟩ (by omega) (by decide) (by decide) (by decide) rfl rfl (by omega) (by omega) (by omega) fine2
  · exact main (N := 1) (D := 2) (B := 1440) (F := 240) half_fr (by omega) (by decide) (by decide) (by decide) rfl rfl (by omega) (by omega) (by omega) fine3
  · refine main (N := 2) (D := 1) (B := 2880) (F := 120) ⟨-1, rfl, by decide⟩ (by omega) (by decide) (by decide) (by decide) rfl rfl (by omega) (by omega) (by omega) fine2
end K77
namespace K77
open PySem Pz
/-! ### the masks c, 1, 1 - c -/
theorem sq_nonneg (c d : Rat) : 0 ≤ c * c + d * d := by
  have h : ∀ x : Rat, 0 ≤ x * x := fun x => by
    rcases Rat.le_total (a := 0) (b := x) with h | h
    · exact Rat.mul_nonneg h h
    · have : 0 ≤ -x := by grind
      have := Rat.mul_nonneg this this
      grind
  have := h c
  have := h d
  grind
theorem eig_curve (n : Nat) (S : Store) {P : Int × List Rat} {most : Nat} (hP : Mrow P 60 most) (h3 : most ≤ 3) (hsum : val P 0 + val P 2 = val P 1) (h1 : val P 1 = 1) (hn : 0 ≤ sq3 (val P)) :
    Phi (n + 9) i_has_curve [rd P] S = .ok (.bl (decide ((sq3 (val P)).num < 2 * (sq3 (val P)).den))) S := by
  obtain ⟨A, hM⟩ := mk_msk hP (by omega)
  obtain ⟨A2, hM2⟩ := mk_mok (B := 3600) hP (by omega) hP.fr (by omega)
  have hlm := hP.lm
  have hl2 := hP.l2
  have hw2 := hM.ok.w2
  obtain ⟨e1, e2, e3⟩ := eig_rule hM.ok.supp hw2 (by omega) hsum
  have e4 := eig_jR hM.ok.supp hw2 (by omega) hsum (Rat.num_nonneg.mpr hn)
  have hhs : hs (val P) = true := by
    have z : ∀ k : Int, ¬ (0 ≤ k ∧ k < 3) → val P k = 0 := fun k hk => Classical.byContradiction fun q => by have := hM.ok.supp k q; omega
    have p0 : parS (val P) 0 = ((((0 : Rat) + val P 0) + val P 2) + val P 4) + val P 6 := rfl
    have p1 : parS (val P) 1 = ((((0 : Rat) + val P 1) + val P 3) + val P 5) + val P 7 := rfl
    unfold hs
    rw [p0, p1, z 4 (by omega), z 6 (by omega), z 3 (by omega), z 5 (by omega), z 7 (by omega), h1, Bool.and_eq_true]
    refine ⟨decide_eq_true ?_, decide_eq_true ?_⟩
    · rw [h1] at hsum
      grind
    · grind
  have e := run_has_curve hP (by omega) hM (K := 1) e1 e2 (by omega) (by omega) n S fun _ => by
    obtain ⟨N, V, a, b, c, d, f, g⟩ := told_fine hM2 fine1 e1 (by omega)
    exact ⟨N, V, a, b, f⟩
  rw [e]
  unfold cur
  rw [hhs, Bool.true_and, e4]
theorem row3_mrow {c r : Rat} (hc : c ≠ 0) (hr : r ≠ 0) (fc : Fr 3600 60 c) (fr : Fr 3600 60 r) : Mrow (0, [c, 1, r]) 60 3 := by
  refine ⟨⟨fun _ => rfl, fun q hq => ?_, fun q hq => ?_⟩, rfl, by show 2 ≤ 3; omega, by show 3 ≤ 3; omega, fun q hq => ?_, by omega, by omega⟩
  · have : c = q := Option.some.inj hq
    rw [← this]; exact hc
  · have : r = q := Option.some.inj hq
    rw [← this]; exact hr
  · have hq : q ∈ [c, 1, r] := hq
    simp only [List.mem_cons, List.not_mem_nil, or_false] at hq
    rcases hq with rfl | rfl | rfl
    · exact fc
    · exact ⟨60, rfl, by decide⟩
    · exact fr
theorem row2_mrow : Mrow (0, [1, 1]) 60 2 := by
  refine ⟨⟨fun _ => rfl, fun q hq => ?_, fun q hq => ?_⟩, rfl, by show 2 ≤ 2; omega, by show 2 ≤ 2; omega, fun q hq => ?_, by omega, by omega⟩
  · have : (1 : Rat) = q := Option.some.inj hq
    rw [← this]; decide
  · have : (1 : Rat) = q := Option.some.inj hq
    rw [← this]; decide
  · have hq : q ∈ [(1 : Rat), 1] := hq
    have : q = 1 := by simpa using hq
    rw [this]; exact ⟨60, rfl, by decide⟩
theorem curve_plain (n : Nat) (S : Store) : Phi (n + 9) i_has_curve [rd (0, [1, 1])] S = .ok (.bl true) S := by
  have e := eig_curve n S row2_mrow (by omega) (by decide +kernel) (by rfl) (by decide +kernel)
  rw [e]
  have : decide ((sq3 (val (0, [1, 1]))).num < 2 * (sq3 (val (0, [1, 1]))).den) = true := by decide +kernel
  rw [this]
theorem curve_c (n : Nat) (S : Store) {c r : Rat} (hc : c ≠ 0) (hr : r ≠ 0) (fc : Fr 3600 60 c) (fr : Fr 3600 60 r) (hs : r = 1 - c) : Phi (n + 9) i_has_curve [rd (0, [c, 1, r])] S = .ok (.bl (decide ((c * c + r * r).num < 2 * (c * c + r * r).den))) S := by
  have v0 : val (0, [c, 1, r]) 0 = c := rfl
  have v1 : val (0, [c, 1, r]) 1 = 1 := rfl
  have v2 : val (0, [c, 1, r]) 2 = r := rfl
  have es : sq3 (val (0, [c, 1, r])) = c * c + r * r := by
    unfold sq3
    rw [v0, v1, v2, hs]
    grind
  have e := eig_curve n S (row3_mrow hc hr fc fr) (by omega) (by rw [v0, v1, v2, hs]; grind) v1 (by rw [es]; exact sq_nonneg c r)
  rw [e, es]
/-! ### the law's body -/
theorem run_mask (n : Nat) (S : Store) (m N way wide : Nat) (h : Spr S m N) (hN : N < 100000) (hw : 3 ≤ wide) (hw6 : wide ≤ 6) (r1 r2 r3 r4 r5 r6 r9 r10 : Option Dt) :
    ∃ (P : Int × List Rat) (S' : Store) (N' : Nat), Frow P ∧ Up S S' m ∧ Spr S' m N' ∧ N' ≤ N + 200 ∧
      ∀ ss : List ISt, evB cv (Phi (n + 5)) (.asg (.nm 1) (.ite (.eq false (.var 7) (.int 0)) (.call i_law_sieve [.var 0, .var 8]) (.call i_law_even_sieve [.var 0, .var 8])) ::
        .iff (.eq false (.var 7) (.int 1)) [
    .asg (.nm 1) (.call i_law_scaled [.var 1, .call i_law_pick [.var 0, .lst [.tup [.int 2, .int 1], .tup [.int 1, .int 2], .tup [.neg (.int 1), .int 1]]]])] [] :: ss) [some (.loc m), r1, r2, r3, r4, r5, r6, some (.int way), some (.int wide), r9, r10] S
      = evB cv (Phi (n + 5)) ss [some (.loc m), some (rd P), r2, r3, r4, r5, r6, some (.int way), some (.int wide), r9, r10] S' := by
  by_cases h0 : way = 0
  · subst h0
    obtain ⟨P, S', p1, p2, p3, p4⟩ := run_sieve (n + 1) S m N wide h (by omega) (by omega) (by omega)
    refine ⟨P, S', N + 100, ⟨60, 3600, wide, p1, hw6, p1.fr, by omega, fine1⟩, p3, p4, by omega, fun ss => ?_⟩
    have q0 : eqD S false (.int ((0 : Nat) : Int)) (.int 0) = .ok (.bl true) S := by rw [eqD_int]; rfl
    have q1 : eqD S' false (.int ((0 : Nat) : Int)) (.int 1) = .ok (.bl false) S' := by rw [eqD_int]; rfl
    simp only [evB_cons, evS_asg, ev_ite, ev_eq, ev_var, ev_int, getR, List.getElem?_cons_succ, List.getElem?_cons_zero, bind_okS, q0, toB_bl, if_true, ev_call, evL_cons, evL_nil, p2, evT_nm, List.set_cons_succ, List.set_cons_zero, thenB_nx, evS_iff, q1, Bool.false_eq_true, if_false, evB_nil]
  · obtain ⟨P, S1, ⟨p1, p1b⟩, p2, p3, p4⟩ := run_esieve n S m N wide h (by omega) (by omega) (by omega)
    have q0 : eqD S false (.int (way : Int)) (.int 0) = .ok (.bl false) S := by rw [eqD_int, decide_eq_false (by omega)]; rfl
    by_cases hw1 : way = 1
    · subst hw1
      obtain ⟨c, S2, hc, e2, u2, s2⟩ := run_pick_q (n + 3) S1 m (N + 100) facs p4 (by omega) (by decide) (by decide)
      obtain ⟨R, er, hR⟩ := scale_step (n + 1) S2 P p1 hw6 p1b c hc
      refine ⟨R, S2, N + 101, hR, p3.trans u2, s2, by omega, fun ss => ?_⟩
      have hl : facs.map qd = [.tup [.int 2, .int 1], .tup [.int 1, .int 2], .tup [.int (-1), .int 1]] := sameAll_eq _ _ (by decide +kernel)
      rw [hl] at e2
      have q1 : eqD S1 false (.int ((1 : Nat) : Int)) (.int 1) = .ok (.bl true) S1 := by rw [eqD_int]; rfl
      simp only [evB_cons, evS_asg, ev_ite, ev_eq, ev_var, ev_int, getR, List.getElem?_cons_succ, List.getElem?_cons_zero, bind_okS, q0, toB_bl, Bool.false_eq_true, if_false, ev_call, evL_cons, evL_nil, p2, evT_nm, List.set_cons_succ, List.set_cons_zero, thenB_nx, evS_iff, q1, if_true, ev_lst, ev_tup, ev_neg, negK_int, tupK2, lstK3, e2, er, evB_nil]
    · refine ⟨P, S1, N + 100, ⟨120, 2880, wide, p1, hw6, fun q hq => (p1b q hq).mono (by omega), by omega, fine2⟩, p3, p4, by omega, fun ss => ?_⟩
      have q1 : eqD S1 false (.int (way : Int)) (.int 1) = .ok (.bl false) S1 := by rw [eqD_int, decide_eq_false (by omega)]; rfl
      simp only [evB_cons, evS_asg, ev_ite, ev_eq, ev_var, ev_int, getR, List.getElem?_cons_succ, List.getElem?_cons_zero, bind_okS, q0, toB_bl, Bool.false_eq_true, if_false, ev_call, evL_cons, evL_nil, p2, evT_nm, List.set_cons_succ, List.set_cons_zero, thenB_nx, evS_iff, q1, evB_nil]
theorem dens2 {d : Nat} (h : d ∈ [12, 15, 30]) : d ∣ 60 ∧ 12 ≤ d := by
  simp only [List.mem_cons, List.not_mem_nil, or_false] at h
  rcases h with rfl | rfl | rfl <;> decide
theorem frc {t : Int} {d : Nat} (ht : t.natAbs ≤ 28) (hd : d ∣ 60) (hd0 : 12 ≤ d) : Fr 140 60 (Rat.divInt t d) := by
  obtain ⟨c, hc⟩ := hd
  have hcp : 0 < c := Nat.pos_of_ne_zero fun z => by subst z; omega
  have hc5 : c ≤ 5 := by
    refine Nat.le_of_not_lt fun z => ?_
    have : 12 * 6 ≤ d * c := Nat.mul_le_mul hd0 z
    omega
  refine ⟨t * c, ?_, ?_⟩
  · have : ((60 : Nat) : Int) = (d : Int) * (c : Int) := by rw [hc]; exact Int.natCast_mul ..
    rw [this, Rat.divInt_mul_right (by omega)]
  · rw [Int.natAbs_mul, Int.natAbs_natCast]
    exact Nat.le_trans (Nat.mul_le_mul ht hc5) (by decide)
end K77
namespace K77
open PySem Pz
/-! ### the source of draws, the law -/
theorem intsOf_map : ∀ l : List Int, intsOf (l.map .int) = some l
  | [] => rfl
  | a :: l => by
    show (intsOf (l.map .int)).map (a :: ·) = _
    rw [intsOf_map l]; rfl
theorem scr_len (S : Store) (ns : List Int) : bltD S .len [.scr ns] = .ok (.int ns.length) S := by
  show Res.ok (Dt.int ((ns.map Dt.int).length)) S = _
  rw [List.length_map]
theorem scr_ix (S : Store) (ns : List Int) (k : Nat) (h : k < ns.length) : ixD S (.scr ns) (.int k) = .ok (.int ns[k]) S := by
  have hs : asSeq S (.scr ns) = some (ns.map Dt.int) := rfl
  have hx : (ns.map Dt.int)[k]? = some (.int ns[k]) := by rw [List.getElem?_map, List.getElem?_eq_getElem h]; rfl
  unfold ixD
  simp only [hs, atI_nat hx]
theorem scr_sl (S : Store) (ns : List Int) (l u : Option Int) : ∃ ms : List Int, slK (.scr ns) l u S = .ok (.lst (ms.map .int)) S ∧ ms.length ≤ ns.length := by
  refine ⟨(ns.drop (HT.sIx (ns.map Dt.int).length 0 l)).take (HT.sIx (ns.map Dt.int).length (ns.map Dt.int).length u - HT.sIx (ns.map Dt.int).length 0 l), ?_, by rw [List.length_take, List.length_drop]; omega⟩
  show Res.ok (Dt.lst (cutD (ns.map .int) l u)) S = _
  unfold cutD
  rw [List.map_take, List.map_drop]
theorem sum_ints (S : Store) (ms : List Int) : bltD S .sum [.lst (ms.map .int)] = .ok (.int ms.sum) S := by
  show optK ((some (ms.map Dt.int)).bind intsOf) _ = _
  rw [Option.bind_some, intsOf_map]; rfl
def mixE : IEx := .bin .mod (.blt .int [.bin .add (.bin .add (.bin .mul (.var 3) (.int 47653)) (.bin .mod (.blt .int [.var 4]) (.int 2147483563))) (.int 29)]) (.int 2147483563)
theorem mix_loop (n : Nat) (S : Store) (r0 r1 r2 : Option Dt) : ∀ (zs : List Int) (b : Int) (r4 : Option Dt), 0 ≤ b → b < 2147483563 →
    ∃ (b' : Int) (r4' : Option Dt), forF (evT cv (Phi n) (.nm 4)) (evB cv (Phi n) [.asg (.nm 3) mixE]) [] (zs.map .int) [r0, r1, r2, some (.int b), r4] S = .ok (.nx [r0, r1, r2, some (.int b'), r4']) S ∧ 0 ≤ b' ∧ b' < 2147483563
  | [], b, r4, h1, h2 => ⟨b, r4, rfl, h1, h2⟩
  | z :: zs, b, r4, h1, h2 => by
    obtain ⟨c, hc⟩ : ∃ c, c = Int.fmod (b * 47653 + Int.fmod z 2147483563 + 29) 2147483563 := ⟨_, rfl⟩
    have hc1 : 0 ≤ c ∧ c < 2147483563 := by
      rw [hc, Int.fmod_eq_emod_of_nonneg _ (by omega)]
      exact ⟨Int.emod_nonneg _ (by omega), Int.emod_lt_of_pos _ (by omega)⟩
    obtain ⟨b', r4', e, g⟩ := mix_loop n S r0 r1 r2 zs c (some (.int z)) hc1.1 hc1.2
    refine ⟨b', r4', ?_, g⟩
    rw [← e, List.map_cons]
    have m1 := bin_mul b 47653 S (okMul_of ((szc (by omega) (by omega)).mono (by omega)) ((szc (by omega) (by omega)).mono (by omega)))
    have m2 := bin_mod z 2147483563 S (by omega)
    have m3 := bin_mod (b * 47653 + Int.fmod z 2147483563 + 29) 2147483563 S (by omega)
    rw [← hc] at m3
    conv => lhs; unfold forF
    simp only [still_nil, if_true, evT_nm, bind_okS, List.set_cons_succ, List.set_cons_zero, mixE, evB_cons, evB_nil, evS_asg, ev_bin, ev_blt, evL_cons, evL_nil, ev_var, ev_int, getR, List.getElem?_cons_succ, List.getElem?_cons_zero, m1, blt_int, m2, bin_add, m3, thenB_nx]
theorem pow_18 (S : Store) : binD S .pow (.int 10) (.int 18) = .ok (.int (10 ^ 18)) S := by
  have h : decide (0 ≤ (18 : Int) ∧ (18 : Int) ≤ 1000000 ∧ (10 : Int).natAbs < 2 ^ 64) = true := by decide +kernel
  show (if decide (0 ≤ (18 : Int) ∧ (18 : Int) ≤ 1000000 ∧ (10 : Int).natAbs < 2 ^ 64) then Res.ok (Dt.int (10 ^ (18 : Int).toNat)) S else .bad) = _
  rw [if_pos h]
  rfl
theorem run_spring (n : Nat) (S : Store) (ns : List Int) (hn : ns.length ≤ 63) (k : Nat) (hk : k < 2) : ∃ a b : Int, 0 ≤ a ∧ (0 ≤ b ∧ b < 2147483563) ∧ Phi (n + 1) i_law_spring [.scr ns, .int k] S = .ok (.loc S.length) (S ++ [spr a b 0]) := by
  have hrun := phiR n (m := n + 1) rfl (k := i_law_spring) (f := f_law_spring) rfl [.scr ns, .int k] S rfl
  -- the cell
  obtain ⟨cell, hcell⟩ : ∃ cell : Int, evE cv (Phi n) (.ite (.cmp .lt (.var 1) (.blt .len [.var 0])) (.blt .int [.ix (.var 0) (.var 1)]) (.bin .add (.bin .add (.bin .mul (.int 6007) (.var 1)) (.int 911)) (.bin .mod (.blt .int [.blt .sum [.sl (.var 0) .absent (.int 6)]]) (.int 1000037)))) [some (.scr ns), some (.int k), none, none, none] S = .ok (.int cell) S := by
    have hl := scr_len S ns
    by_cases h : k < ns.length
    · have hx := scr_ix S ns k h
      have hd : decide ((k : Int) < (ns.length : Int)) = true := decide_eq_true (by omega)
      exact ⟨ns[k], by simp only [ev_ite, ev_cmp, ev_var, ev_blt, evL_cons, evL_nil, getR, List.getElem?_cons_succ, List.getElem?_cons_zero, bind_okS, hl, cmpK_int, cop_lt, hd, toB_bl, if_true, ev_ix, hx, blt_int]⟩
    · have hd : decide ((k : Int) < (ns.length : Int)) = false := decide_eq_false (by omega)
      obtain ⟨ms, hsl, _⟩ := scr_sl S ns none (some 6)
      have hsum := sum_ints S ms
      have m1 := bin_mul 6007 k S (okMul_of ((szc (by omega) (by omega)).mono (by omega)) ((szc (by omega) (by omega)).mono (by omega)))
      have m2 := bin_mod ms.sum 1000037 S (by omega)
      have yabs : IEx.absent.isAbs = true := rfl
      have nabs : (IEx.int 6).isAbs = false := rfl
      exact ⟨_, by simp only [ev_ite, ev_cmp, ev_var, ev_blt, evL_cons, evL_nil, getR, List.getElem?_cons_succ, List.getElem?_cons_zero, bind_okS, hl, cmpK_int, cop_lt, hd, toB_bl, Bool.false_eq_true, if_false, ev_bin, ev_int, m1, bin_add, ev_sl, yabs, nabs, if_true, partK, hsl, hsum, blt_int, m2]; rfl⟩
  have m0 := bin_mul 3001 k S (okMul_of ((szc (by omega) (by omega)).mono (by omega)) ((szc (by omega) (by omega)).mono (by omega)))
  obtain ⟨ms, hsl, hml⟩ := scr_sl S ns none (some 9)
  have hcat := catK_lst (S := S) (a := ms.map Dt.int) (b := [.int cell]) (by rw [List.length_map]; simp; omega)
  have hit : ms.map Dt.int ++ [.int cell] = (ms ++ [cell]).map Dt.int := by rw [List.map_append]; rfl
  rw [hit] at hcat
  obtain ⟨b, r4, e, hb⟩ := mix_loop n S (some (.scr ns)) (some (.int k)) (some (.int cell)) (ms ++ [cell]) (40127 + 3001 * (k : Int)) none (by omega) (by omega)
  obtain ⟨a, ha, hav⟩ : ∃ a : Int, 0 ≤ a ∧ evE cv (Phi n) (.ite (.or_ (.cmp .lt (.var 2) (.int 0)) (.cmp .ge (.var 2) (.bin .pow (.int 10) (.int 18)))) (.blt .abs [.var 2]) (.int 0)) [some (.scr ns), some (.int k), some (.int cell), some (.int b), r4] S = .ok (.int a) S := by
    have habs : (0 : Int) ≤ (if cell < 0 then -cell else cell) := by split <;> omega
    by_cases h1 : cell < 0
    · refine ⟨_, habs, ?_⟩
      simp only [ev_ite, ev_or, ev_cmp, ev_var, ev_int, getR, List.getElem?_cons_succ, List.getElem?_cons_zero, bind_okS, cmpK_int, cop_lt, decide_eq_true h1, toB_bl, if_true, ev_blt, evL_cons, evL_nil, blt_abs]
    · by_cases h2 : (10 : Int) ^ 18 ≤ cell
      · refine ⟨_, habs, ?_⟩
        simp only [ev_ite, ev_or, ev_cmp, ev_var, ev_int, getR, List.getElem?_cons_succ, List.getElem?_cons_zero, bind_okS, cmpK_int, cop_lt, decide_eq_false h1, toB_bl, Bool.false_eq_true, if_false, ev_bin, pow_18, cop_ge, decide_eq_true h2, if_true, ev_blt, evL_cons, evL_nil, blt_abs]
      · refine ⟨0, Int.le_refl _, ?_⟩
        simp only [ev_ite, ev_or, ev_cmp, ev_var, ev_int, getR, List.getElem?_cons_succ, List.getElem?_cons_zero, bind_okS, cmpK_int, cop_lt, decide_eq_false h1, toB_bl, Bool.false_eq_true, if_false, ev_bin, pow_18, cop_ge, decide_eq_false h2]
  refine ⟨a, b, ha, hb, ?_⟩
  rw [hrun]
  have hr0 : (List.map some [Dt.scr ns, .int k] ++ List.replicate (f_law_spring.sz - f_law_spring.ar) none) = [some (.scr ns), some (.int k), none, none, none] := rfl
  rw [hr0]
  have hfb : f_law_spring.body = [
    .asg (.nm 2) (.ite (.cmp .lt (.var 1) (.blt .len [.var 0])) (.blt .int [.ix (.var 0) (.var 1)]) (.bin .add (.bin .add (.bin .mul (.int 6007) (.var 1)) (.int 911)) (.bin .mod (.blt .int [.blt .sum [.sl (.var 0) .absent (.int 6)]]) (.int 1000037)))),
    .asg (.nm 3) (.bin .add (.int 40127) (.bin .mul (.int 3001) (.var 1))),
    .forr (.nm 4) (.seq (.cat (.sl (.var 0) .absent (.int 9)) (.lst [.var 2]))) [.asg (.nm 3) mixE],
    .ret (.thaw (.lst [.ite (.or_ (.cmp .lt (.var 2) (.int 0)) (.cmp .ge (.var 2) (.bin .pow (.int 10) (.int 18)))) (.blt .abs [.var 2]) (.int 0), .var 3, .int 0]))] := rfl
  have hth : thawK (.lst [.int a, .int b, .int 0]) S = .ok (.loc S.length) (S ++ [spr a b 0]) := rfl
  have yabs : IEx.absent.isAbs = true := rfl
  have nabs : (IEx.int 9).isAbs = false := rfl
  rw [hfb, evB_cons, evS_asg, hcell, bind_okS, evT_nm, bind_okS, bind_okS, thenB_nx]
  simp only [List.set_cons_succ, List.set_cons_zero, evB_cons, evS_asg, ev_bin, ev_int, ev_var, getR, List.getElem?_cons_succ, List.getElem?_cons_zero, bind_okS, m0, bin_add, evT_nm, thenB_nx, evS_forr, evI_seq, ev_cat, ev_sl, yabs, nabs, if_true, Bool.false_eq_true, if_false, partK, hsl, ev_lst, evL_cons, evL_nil, lstK1, hcat, seqK_lst, e, evS_ret, ev_thaw]
  rw [hav]
  simp [hth]
end K77
namespace K77
open PySem Pz
theorem run_right (n : Nat) (S : Store) (ms N : Nat) (hS : Spr S ms N) (hN : N < 1000) : ∃ S', Phi (n + 10) i_law_right [.loc ms] S = .ok (.bl true) S' := by
  obtain ⟨way, S0, hway, e0, u0, s0⟩ := run_sip (n + 8) S ms N 6 hS (by omega) (by omega) (by omega)
  have c0 := callR_mut e0 rfl u0.1
  obtain ⟨wide, S1, hwm, e1, u1, s1⟩ := run_pick_int (n + 7) S0 ms (N + 1) [3, 3, 4, 4, 5, 6] s0 (by omega) (by decide) (by decide)
  have hwide : 3 ≤ wide ∧ wide ≤ 6 := by
    simp only [List.mem_cons, List.not_mem_nil, or_false] at hwm
    omega
  obtain ⟨P, S2, N2, hF, u2, s2, hN2, hmask⟩ := run_mask (n + 4) S1 ms (N + 1 + 1) way wide s1 (by omega) hwide.1 hwide.2 none none none none none none none none
  obtain ⟨E, most, K, hk⟩ := pack hF
  obtain ⟨qs, hqs⟩ : ∃ qs, qs = told (itx (val P)) P.2.length K := ⟨_, rfl⟩
  obtain ⟨b, hb⟩ : ∃ b, b = crv P K := ⟨_, rfl⟩
  obtain ⟨Sl, el⟩ := hk.least (n + 3) S2
  rw [← hqs] at el
  have cl := callR_ext el (lst_nl _)
  have ch := callR_pure (hk.curve n S2) rfl
  have cb := callR_pure (hk.back n S2) rfl
  rw [← hb] at ch cb
  have ctr := callR_pure (hk.rule (n + 1) S2) (tup_nl _)
  rw [← hqs] at ctr
  have hplen : P.2.length ≤ 1000000 := by
    have := hk.hP.lm
    have := hk.h7
    omega
  have hslr := slk_rev (S := S2) (xs := P.2.map qd) (by rw [List.length_map]; exact hplen)
  have hbk : Dt.tup [.int 0, .tup (P.2.map qd).reverse] = rd (0, P.2.reverse) := by unfold rd; rw [List.map_reverse]
  obtain ⟨st3, hst3, hrep3⟩ := repr_bl3 b
  have eS3 := eqD_str_self S2 true st3 hst3
  have ql : qs.length ≤ 100 := by
    rw [hqs, told_len hk.kw]
    have := hk.k6
    omega
  obtain ⟨st, hst, hrept⟩ := repr_tup (qs := qs) (fun q hq => hk.shown q (hqs ▸ hq)) ql
  have eSt := eqD_str_self S2 true st hst
  have ebb := eqD_bl_self S2 true b
  -- the drawn fraction
  obtain ⟨t, S3, ht, e3, u3, s3⟩ := run_sip (n + 8) S2 ms N2 49 s2 (by omega) (by omega) (by omega)
  have c3 := callR_mut e3 rfl u3.1
  obtain ⟨d, S4, hd, e4, u4, s4⟩ := run_pick_int (n + 7) S3 ms (N2 + 1) [12, 15, 30] s3 (by omega) (by decide) (by decide)
  obtain ⟨d1, d2⟩ := dens2 hd
  have hdle : d ≤ 60 := Nat.le_of_dvd (by omega) d1
  obtain ⟨c, hc⟩ : ∃ c, c = Rat.divInt ((t : Int) - 20) d := ⟨_, rfl⟩
  have fc : Fr 140 60 c := by rw [hc]; exact frc (by omega) d1 d2
  have one60 : Fr 60 60 (1 : Rat) := ⟨60, rfl, by decide⟩
  obtain ⟨r, hr⟩ : ∃ r, r = 1 - c := ⟨_, rfl⟩
  have fr : Fr 200 60 r := by rw [hr]; exact one60.sub fc (by omega)
  have sm60 : ∀ {q : Rat} {a : Nat}, Fr a 60 q → a < 2 ^ 40 → Sm q := fun {q a} h ha => h.sm (by omega) ((sz_of ha).mono (by omega)) ((sz_of (n := 6) (by decide)).mono (by omega))
  have clow := callR_pure (run_low (n + 7) ((t : Int) - 20) d S4 (by omega) ((szc (by omega) (by omega)).mono (by omega))) (qd_nl _)
  rw [← hc] at clow
  have cmin := callR_pure (run_lminus (n + 6) 1 c S4 (sm60 one60 (by decide)) (sm60 fc (by decide))) (qd_nl _)
  rw [← hr] at cmin
  have h1 : Dt.tup [.int 1, .int 1] = qd 1 := rfl
  have hone : qd 1 = .tup [.int 1, .int 1] := rfl
  -- the last step
  have last : ∃ S', (evB cv (Phi (n + 9)) [
      .iff (.or_ (.eq false (.ix (.var 4) (.int 0)) (.int 0)) (.eq false (.ix (.var 5) (.int 0)) (.int 0))) [
    .ret (.is_ false (.call i_has_curve [.tup [.int 0, .tup [.tup [.int 1, .int 1], .tup [.int 1, .int 1]]]]) (.bl true))] [],
  .asg (.nm 6) (.call i_law_plus [.call i_law_prod [.var 4, .var 4], .call i_law_prod [.var 5, .var 5]]),
  .ret (.eq false (.blt .repr [.call i_has_curve [.tup [.int 0, .tup [.var 4, .tup [.int 1, .int 1], .var 5]]]]) (.blt .repr [.cmp .lt (.ix (.var 6) (.int 0)) (.bin .mul (.int 2) (.ix (.var 6) (.int 1)))]))]
      [some (.loc ms), some (rd P), some (.bl b), some (.tup (qs.map qd)), some (qd c), some (qd r), none, some (.int way), some (.int wide), some (.lst (qs.map qd)), some (.bl b)] S4).bind endF = .ok (.bl true) S' := by
    refine ⟨S4, ?_⟩
    have cpl := callR_pure (curve_plain n S4) rfl
    have hz2 : Dt.tup [.int 0, .tup [.tup [.int 1, .int 1], .tup [.int 1, .int 1]]] = rd (0, [1, 1]) := rfl
    by_cases hc0 : c = 0
    · have q0 : eqD S4 false (.int c.num) (.int 0) = .ok (.bl true) S4 := by rw [eqD_int, hc0]; rfl
      simp only [evB_cons, evS_iff, ev_or, ev_eq, ev_ix, ev_var, ev_int, getR, List.getElem?_cons_succ, List.getElem?_cons_zero, bind_okS, ixD_qd0, q0, toB_bl, if_true, evS_ret, ev_is, ev_call, evL_cons, evL_nil, ev_tup, tupK2, hz2, cpl, ev_bl, isD, thenB_rt, endF_rt]
      rfl
    · have q0 : eqD S4 false (.int c.num) (.int 0) = .ok (.bl false) S4 := by rw [eqD_int, decide_eq_false (num_ne hc0)]; rfl
      by_cases hr0 : r = 0
      · have q1 : eqD S4 false (.int r.num) (.int 0) = .ok (.bl true) S4 := by rw [eqD_int, hr0]; rfl
        simp only [evB_cons, evS_iff, ev_or, ev_eq, ev_ix, ev_var, ev_int, getR, List.getElem?_cons_succ, List.getElem?_cons_zero, bind_okS, ixD_qd0, q0, q1, toB_bl, Bool.false_eq_true, if_false, if_true, evS_ret, ev_is, ev_call, evL_cons, evL_nil, ev_tup, tupK2, hz2, cpl, ev_bl, isD, thenB_rt, endF_rt]
        rfl
      · have q1 : eqD S4 false (.int r.num) (.int 0) = .ok (.bl false) S4 := by rw [eqD_int, decide_eq_false (num_ne hr0)]; rfl
        have p1 := callR_pure (run_lprod (n + 6) c c S4 (sm60 fc (by decide)) (sm60 fc (by decide))) (qd_nl _)
        have p2 := callR_pure (run_lprod (n + 6) r r S4 (sm60 fr (by decide)) (sm60 fr (by decide))) (qd_nl _)
        have fcc : Sm (c * c) := (fc.mul fc).sm (by omega) ((sz_of (n := 20) (by decide)).mono (by omega)) ((sz_of (n := 12) (by decide)).mono (by omega))
        have frr : Sm (r * r) := (fr.mul fr).sm (by omega) ((sz_of (n := 20) (by decide)).mono (by omega)) ((sz_of (n := 12) (by decide)).mono (by omega))
        have p3 := callR_pure (run_lplus (n + 6) (c * c) (r * r) S4 fcc frr) (qd_nl _)
        have cc := callR_pure (curve_c n S4 hc0 hr0 (fc.mono (by omega)) (fr.mono (by omega)) hr) rfl
        obtain ⟨s, hs⟩ : ∃ s, s = c * c + r * r := ⟨_, rfl⟩
        rw [← hs] at p3 cc
        have fs : Fr (140 * 140 + 200 * 200) (60 * 60) s := by rw [hs]; exact (fc.mul fc).add (fr.mul fr) (by omega)
        have ss : Sm s := fs.sm (by omega) ((sz_of (n := 20) (by decide)).mono (by omega)) ((sz_of (n := 12) (by decide)).mono (by omega))
        have m2 := bin_mul 2 s.den S4 (okMul_of ((szc (by omega) (by omega)).mono (by omega)) (ss.2.mono (by omega)))
        obtain ⟨v, hv⟩ : ∃ v, v = decide (s.num < 2 * (s.den : Int)) := ⟨_, rfl⟩
        rw [← hv] at cc
        have hcmp : COp.lt.ev s.num (2 * (s.den : Int)) = v := by rw [hv]; rfl
        obtain ⟨sv, hsv, hrepv⟩ := repr_bl v
        have eSv := eqD_str_self S4 false sv hsv
        have hz3 : Dt.tup [.int 0, .tup [qd c, qd 1, qd r]] = rd (0, [c, 1, r]) := rfl
        simp only [evB_cons, evB_nil, evS_iff, ev_or, ev_eq, ev_ix, ev_var, ev_int, getR, List.getElem?_cons_succ, List.getElem?_cons_zero, bind_okS, ixD_qd0, ixD_qd1, q0, q1, toB_bl, Bool.false_eq_true, if_false, thenB_nx, evS_asg, ev_call, evL_cons, evL_nil, p1, p2, p3, evT_nm, List.set_cons_succ, List.set_cons_zero, evS_ret, ev_blt, ev_tup, tupK2, tupK3, h1, hz3, cc, hrepv, ev_cmp, ev_bin, m2, cmpK_int, hcmp, eSv, thenB_rt, endF_rt]
        rfl
  obtain ⟨S5, hlast⟩ := last
  refine ⟨S5, ?_⟩
  rw [phiR (n + 9) rfl (f := f_law_right) rfl _ S rfl]
  have hr0 : (List.map some [Dt.loc ms] ++ List.replicate (f_law_right.sz - f_law_right.ar) none) = [some (.loc ms), none, none, none, none, none, none, none, none, none, none] := rfl
  rw [hr0]
  have e1' : callR (Phi (n + 9)) i_law_pick [.loc ms, .lst [.int 3, .int 3, .int 4, .int 4, .int 5, .int 6]] S0 = .ok (.int wide) S1 := e1
  have c0' : callR (Phi (n + 9)) i_law_sip [.loc ms, .int 6] S = .ok (.int way) S0 := c0
  have A1 : evS cv (Phi (n + 9)) (.par [7, 8] [.call i_law_sip [.var 0, .int 6], .call i_law_pick [.var 0, .lst [.int 3, .int 3, .int 4, .int 4, .int 5, .int 6]]]) [some (.loc ms), none, none, none, none, none, none, none, none, none, none] S = .ok (.nx [some (.loc ms), none, none, none, none, none, none, some (.int way), some (.int wide), none, none]) S1 := by
    simp only [evS_par, evL_cons, evL_nil, ev_call, ev_var, ev_int, getR, List.getElem?_cons_zero, bind_okS, c0', ev_lst, lstK_ok, List.length_cons, List.length_nil, Nat.reduceAdd, Nat.reduceLeDiff, e1', setAll, List.set_cons_succ, List.set_cons_zero]
  have A4 : evS cv (Phi (n + 9)) (.par [9, 10] [.call i_law_rule [.var 1], .call i_has_curve [.var 1]]) [some (.loc ms), some (rd P), none, none, none, none, none, some (.int way), some (.int wide), none, none] S2 = .ok (.nx [some (.loc ms), some (rd P), none, none, none, none, none, some (.int way), some (.int wide), some (.lst (qs.map qd)), some (.bl b)]) S2 := by
    simp only [evS_par, evL_cons, evL_nil, ev_call, ev_var, getR, List.getElem?_cons_succ, List.getElem?_cons_zero, bind_okS, cl, ch, setAll, List.set_cons_succ, List.set_cons_zero]
  have A5 : evS cv (Phi (n + 9)) (.asg (.nm 2) (.and_ (.call i_law_has_sums [.var 1]) (.call i_law_inside [.var 9]))) [some (.loc ms), some (rd P), none, none, none, none, none, some (.int way), some (.int wide), some (.lst (qs.map qd)), some (.bl b)] S2 = .ok (.nx [some (.loc ms), some (rd P), some (.bl b), none, none, none, none, some (.int way), some (.int wide), some (.lst (qs.map qd)), some (.bl b)]) S2 := by
    have e := hk.due (n + 3) S2 [some (.loc ms), some (rd P), none, none, none, none, none, some (.int way), some (.int wide), some (.lst (qs.map qd)), some (.bl b)] (.var 1) (.var 9) (.lst (qs.map qd)) (.inr (by rw [hqs])) (by simp [getR]) (by simp [getR])
    rw [← hb] at e
    rw [evS_asg, e, bind_okS, evT_nm, bind_okS]; rfl
  have A6 : evS cv (Phi (n + 9)) (.iff (.eq true (.blt .repr [.lst [.var 10, .callK i_has_curve [0] [.var 1], .call i_has_curve [.tup [.int 0, .slk (.ix (.var 1) (.int 1)) .absent .absent (-1)]]]]) (.blt .repr [.lst [.var 2, .var 2, .var 2]])) [.ret (.bl false)] []) [some (.loc ms), some (rd P), some (.bl b), none, none, none, none, some (.int way), some (.int wide), some (.lst (qs.map qd)), some (.bl b)] S2 = .ok (.nx [some (.loc ms), some (rd P), some (.bl b), none, none, none, none, some (.int way), some (.int wide), some (.lst (qs.map qd)), some (.bl b)]) S2 := by
    have yabs : IEx.absent.isAbs = true := rfl
    have hpm : permD [0] [rd P] = some [rd P] := rfl
    simp only [evS_iff, ev_eq, ev_blt, evL_cons, evL_nil, ev_lst, ev_var, ev_callK, ev_call, ev_tup, ev_int, ev_slk, ev_ix, getR, List.getElem?_cons_succ, List.getElem?_cons_zero, bind_okS, hpm, ch, ixD_rd1, yabs, if_true, hslr, tupK2, hbk, cb, lstK3, hrep3, eS3, toB_bl, bne_self_eq_false, Bool.false_eq_true, if_false, evB_nil]
  have A7 : evS cv (Phi (n + 9)) (.asg (.nm 3) (.call i_transfer_rule [.var 1])) [some (.loc ms), some (rd P), some (.bl b), none, none, none, none, some (.int way), some (.int wide), some (.lst (qs.map qd)), some (.bl b)] S2 = .ok (.nx [some (.loc ms), some (rd P), some (.bl b), some (.tup (qs.map qd)), none, none, none, some (.int way), some (.int wide), some (.lst (qs.map qd)), some (.bl b)]) S2 := by
    simp only [evS_asg, ev_call, evL_cons, evL_nil, ev_var, getR, List.getElem?_cons_succ, List.getElem?_cons_zero, bind_okS, ctr, evT_nm, List.set_cons_succ, List.set_cons_zero]
  have A8 : evS cv (Phi (n + 9)) (.iff (.or_ (.eq true (.blt .repr [.var 3]) (.blt .repr [.blt .tuple [.var 9]])) (.eq true (.and_ (.call i_law_has_sums [.var 1]) (.call i_law_inside [.var 3])) (.var 10))) [.ret (.bl false)] []) [some (.loc ms), some (rd P), some (.bl b), some (.tup (qs.map qd)), none, none, none, some (.int way), some (.int wide), some (.lst (qs.map qd)), some (.bl b)] S2 = .ok (.nx [some (.loc ms), some (rd P), some (.bl b), some (.tup (qs.map qd)), none, none, none, some (.int way), some (.int wide), some (.lst (qs.map qd)), some (.bl b)]) S2 := by
    have e := hk.due (n + 3) S2 [some (.loc ms), some (rd P), some (.bl b), some (.tup (qs.map qd)), none, none, none, some (.int way), some (.int wide), some (.lst (qs.map qd)), some (.bl b)] (.var 1) (.var 3) (.tup (qs.map qd)) (.inl (by rw [hqs])) (by simp [getR]) (by simp [getR])
    rw [← hb] at e
    have e : evE cv (Phi (n + 9)) (.and_ (.call i_law_has_sums [.var 1]) (.call i_law_inside [.var 3])) [some (.loc ms), some (rd P), some (.bl b), some (.tup (qs.map qd)), none, none, none, some (.int way), some (.int wide), some (.lst (qs.map qd)), some (.bl b)] S2 = .ok (.bl b) S2 := e
    have e2 : evE cv (Phi (n + 9)) (.eq true (.and_ (.call i_law_has_sums [.var 1]) (.call i_law_inside [.var 3])) (.var 10)) [some (.loc ms), some (rd P), some (.bl b), some (.tup (qs.map qd)), none, none, none, some (.int way), some (.int wide), some (.lst (qs.map qd)), some (.bl b)] S2 = .ok (.bl false) S2 := by
      rw [ev_eq, e, bind_okS, ev_var, show getR _ 10 S2 = .ok (.bl b) S2 from rfl, bind_okS, ebb]; rfl
    rw [evS_iff, ev_or, ev_eq]
    simp only [ev_blt, evL_cons, evL_nil, ev_var, getR, List.getElem?_cons_succ, List.getElem?_cons_zero, bind_okS, hrept, blt_tuple_lst, eSt, toB_bl, bne_self_eq_false, Bool.false_eq_true, if_false, e2, evB_nil]
  have A9 : evS cv (Phi (n + 9)) (.asg (.nm 4) (.call i_law_low [.bin .sub (.call i_law_sip [.var 0, .int 49]) (.int 20), .call i_law_pick [.var 0, .lst [.int 12, .int 15, .int 30]]])) [some (.loc ms), some (rd P), some (.bl b), some (.tup (qs.map qd)), none, none, none, some (.int way), some (.int wide), some (.lst (qs.map qd)), some (.bl b)] S2 = .ok (.nx [some (.loc ms), some (rd P), some (.bl b), some (.tup (qs.map qd)), some (qd c), none, none, some (.int way), some (.int wide), some (.lst (qs.map qd)), some (.bl b)]) S4 := by
    have c3' : callR (Phi (n + 9)) i_law_sip [.loc ms, .int 49] S2 = .ok (.int t) S3 := c3
    have e4' : callR (Phi (n + 9)) i_law_pick [.loc ms, .lst [.int 12, .int 15, .int 30]] S3 = .ok (.int d) S4 := e4
    simp only [evS_asg, ev_call, evL_cons, evL_nil, ev_bin, ev_var, ev_int, getR, List.getElem?_cons_succ, List.getElem?_cons_zero, bind_okS, c3', bin_sub, ev_lst, lstK3, e4', clow, evT_nm, List.set_cons_succ, List.set_cons_zero]
  have A10 : evS cv (Phi (n + 9)) (.asg (.nm 5) (.call i_law_minus [.tup [.int 1, .int 1], .var 4])) [some (.loc ms), some (rd P), some (.bl b), some (.tup (qs.map qd)), some (qd c), none, none, some (.int way), some (.int wide), some (.lst (qs.map qd)), some (.bl b)] S4 = .ok (.nx [some (.loc ms), some (rd P), some (.bl b), some (.tup (qs.map qd)), some (qd c), some (qd r), none, some (.int way), some (.int wide), some (.lst (qs.map qd)), some (.bl b)]) S4 := by
    simp only [evS_asg, ev_call, evL_cons, evL_nil, ev_tup, ev_int, bind_okS, tupK2, h1, ev_var, getR, List.getElem?_cons_succ, List.getElem?_cons_zero, cmin, evT_nm, List.set_cons_succ, List.set_cons_zero]
  have hfb : f_law_right.body = .par [7, 8] [.call i_law_sip [.var 0, .int 6], .call i_law_pick [.var 0, .lst [.int 3, .int 3, .int 4, .int 4, .int 5, .int 6]]] ::
    .asg (.nm 1) (.ite (.eq false (.var 7) (.int 0)) (.call i_law_sieve [.var 0, .var 8]) (.call i_law_even_sieve [.var 0, .var 8])) ::
        .iff (.eq false (.var 7) (.int 1)) [
    .asg (.nm 1) (.call i_law_scaled [.var 1, .call i_law_pick [.var 0, .lst [.tup [.int 2, .int 1], .tup [.int 1, .int 2], .tup [.neg (.int 1), .int 1]]]])] [] ::
    [.par [9, 10] [.call i_law_rule [.var 1], .call i_has_curve [.var 1]],
  .asg (.nm 2) (.and_ (.call i_law_has_sums [.var 1]) (.call i_law_inside [.var 9])),
  .iff (.eq true (.blt .repr [.lst [.var 10, .callK i_has_curve [0] [.var 1], .call i_has_curve [.tup [.int 0, .slk (.ix (.var 1) (.int 1)) .absent .absent (-1)]]]]) (.blt .repr [.lst [.var 2, .var 2, .var 2]])) [.ret (.bl false)] [],
  .asg (.nm 3) (.call i_transfer_rule [.var 1]),
  .iff (.or_ (.eq true (.blt .repr [.var 3]) (.blt .repr [.blt .tuple [.var 9]])) (.eq true (.and_ (.call i_law_has_sums [.var 1]) (.call i_law_inside [.var 3])) (.var 10))) [.ret (.bl false)] [],
  .asg (.nm 4) (.call i_law_low [.bin .sub (.call i_law_sip [.var 0, .int 49]) (.int 20), .call i_law_pick [.var 0, .lst [.int 12, .int 15, .int 30]]]),
  .asg (.nm 5) (.call i_law_minus [.tup [.int 1, .int 1], .var 4]),
  .iff (.or_ (.eq false (.ix (.var 4) (.int 0)) (.int 0)) (.eq false (.ix (.var 5) (.int 0)) (.int 0))) [
    .ret (.is_ false (.call i_has_curve [.tup [.int 0, .tup [.tup [.int 1, .int 1], .tup [.int 1, .int 1]]]]) (.bl true))] [],
  .asg (.nm 6) (.call i_law_plus [.call i_law_prod [.var 4, .var 4], .call i_law_prod [.var 5, .var 5]]),
  .ret (.eq false (.blt .repr [.call i_has_curve [.tup [.int 0, .tup [.var 4, .tup [.int 1, .int 1], .var 5]]]]) (.blt .repr [.cmp .lt (.ix (.var 6) (.int 0)) (.bin .mul (.int 2) (.ix (.var 6) (.int 1)))]))] := rfl
  rw [hfb, evB_cons, A1, bind_okS, thenB_nx]
  have hmask' := hmask [.par [9, 10] [.call i_law_rule [.var 1], .call i_has_curve [.var 1]],
  .asg (.nm 2) (.and_ (.call i_law_has_sums [.var 1]) (.call i_law_inside [.var 9])),
  .iff (.eq true (.blt .repr [.lst [.var 10, .callK i_has_curve [0] [.var 1], .call i_has_curve [.tup [.int 0, .slk (.ix (.var 1) (.int 1)) .absent .absent (-1)]]]]) (.blt .repr [.lst [.var 2, .var 2, .var 2]])) [.ret (.bl false)] [],
  .asg (.nm 3) (.call i_transfer_rule [.var 1]),
  .iff (.or_ (.eq true (.blt .repr [.var 3]) (.blt .repr [.blt .tuple [.var 9]])) (.eq true (.and_ (.call i_law_has_sums [.var 1]) (.call i_law_inside [.var 3])) (.var 10))) [.ret (.bl false)] [],
  .asg (.nm 4) (.call i_law_low [.bin .sub (.call i_law_sip [.var 0, .int 49]) (.int 20), .call i_law_pick [.var 0, .lst [.int 12, .int 15, .int 30]]]),
  .asg (.nm 5) (.call i_law_minus [.tup [.int 1, .int 1], .var 4]),
  .iff (.or_ (.eq false (.ix (.var 4) (.int 0)) (.int 0)) (.eq false (.ix (.var 5) (.int 0)) (.int 0))) [
    .ret (.is_ false (.call i_has_curve [.tup [.int 0, .tup [.tup [.int 1, .int 1], .tup [.int 1, .int 1]]]]) (.bl true))] [],
  .asg (.nm 6) (.call i_law_plus [.call i_law_prod [.var 4, .var 4], .call i_law_prod [.var 5, .var 5]]),
  .ret (.eq false (.blt .repr [.call i_has_curve [.tup [.int 0, .tup [.var 4, .tup [.int 1, .int 1], .var 5]]]]) (.blt .repr [.cmp .lt (.ix (.var 6) (.int 0)) (.bin .mul (.int 2) (.ix (.var 6) (.int 1)))]))]
  have hx : n + 4 + 5 = n + 9 := rfl
  rw [hx] at hmask'
  rw [hmask', evB_cons, A4, bind_okS, thenB_nx, evB_cons, A5, bind_okS, thenB_nx, evB_cons, A6, bind_okS, thenB_nx, evB_cons, A7, bind_okS, thenB_nx, evB_cons, A8, bind_okS, thenB_nx, evB_cons, A9, bind_okS, thenB_nx, evB_cons, A10, bind_okS, thenB_nx]
  exact hlast
end K77
namespace K77
open PySem Pz
theorem law_step (n : Nat) (S : Store) (ns : List Int) (hn : ns.length ≤ 63) (k : Nat) (hk : k < 2) : ∃ S', evE cv (Phi (n + 10)) (.call i_law_right [.callF i_law_spring [.var 0, .var 1]]) [some (.scr ns), some (.int k)] S = .ok (.bl true) S' := by
  obtain ⟨a, b, ha, hb, e⟩ := run_spring (n + 9) S ns hn k hk
  have hsp : Spr (S ++ [spr a b 0]) S.length 0 := ⟨a, b, 0, get_append, ha, hb, by omega, by omega⟩
  obtain ⟨S', e2⟩ := run_right n (S ++ [spr a b 0]) S.length 0 hsp (by omega)
  refine ⟨S'.take (S ++ [spr a b 0]).length, ?_⟩
  have hk1 : keepK S.length (.loc S.length) (S ++ [spr a b 0]) = .ok (.loc S.length) (S ++ [spr a b 0]) := by
    show (if S.length = S.length then Res.ok (Dt.loc S.length) ((S ++ [spr a b 0]).take (S.length + 1)) else .bad) = _
    rw [if_pos rfl, List.take_of_length_le (by simp)]
  have hc : callR (Phi (n + 10)) i_law_right [.loc S.length] (S ++ [spr a b 0]) = .ok (.bl true) (S'.take (S ++ [spr a b 0]).length) := by
    unfold callR
    rw [e2]; rfl
  simp only [ev_call, ev_callF, evL_cons, evL_nil, ev_var, getR, List.getElem?_cons_succ, List.getElem?_cons_zero, bind_okS, e, hk1, hc]
theorem run_law (n : Nat) (ns : List Int) (hn : ns.length ≤ 63) : ∃ S', Phi (n + 11) i_law [.scr ns] [] = .ok (.bl true) S' := by
  obtain ⟨S1, e1⟩ := law_step n [] ns hn 0 (by omega)
  obtain ⟨S2, e2⟩ := law_step n S1 ns hn 1 (by omega)
  refine ⟨S2, ?_⟩
  rw [phiR (n + 10) rfl (f := f_law) rfl _ [] rfl]
  have hr0 : (List.map some [Dt.scr ns] ++ List.replicate (f_law.sz - f_law.ar) none) = [some (.scr ns), none] := rfl
  rw [hr0]
  have hI : evI cv (Phi (n + 10)) (.rng1 (.int 2)) [some (.scr ns), none] [] = .ok ⟨[.int 0, .int 1], []⟩ [] := by
    rw [evI_rng1_of (j := 2) (by simp) (okR_small (by omega))]; rfl
  have e1' : evE cv (Phi (n + 10)) (.call i_law_right [.callF i_law_spring [.var 0, .var 1]]) [some (.scr ns), some (.int 0)] [] = .ok (.bl true) S1 := e1
  have e2' : evE cv (Phi (n + 10)) (.call i_law_right [.callF i_law_spring [.var 0, .var 1]]) [some (.scr ns), some (.int 1)] S1 = .ok (.bl true) S2 := e2
  have hc : compK [1] (evI cv (Phi (n + 10)) (.rng1 (.int 2))) (evT cv (Phi (n + 10)) (.nm 1)) (evC cv (Phi (n + 10)) []) (evE cv (Phi (n + 10)) (.call i_law_right [.callF i_law_spring [.var 0, .var 1]])) [some (.scr ns), none] [] = .ok (.lst [.bl true, .bl true]) S2 := by
    unfold compK
    rw [hI, bind_okS, if_pos (okLen_of (by simp))]
    unfold compF compF compF
    simp only [still_nil, if_true, evT_nm, wipeR_cons, wipeR_nil, List.set_cons_succ, List.set_cons_zero, bind_okS, evC_nil, toB_bl, e1', e2']
  have hall : bltD S2 .all [.lst [.bl true, .bl true]] = .ok (.bl true) S2 := rfl
  simp only [f_law, evB_cons, evS_ret, ev_blt, evL_cons, evL_nil, ev_comp, hc, bind_okS, hall, thenB_rt, endF_rt]
end K77
namespace K77
open PySem PySem.Spec PyProof.Rows L2 Pz
abbrev lw : PySem.W.OpenLaw := PySem.Challenge.rw_bandsplits_k77_whole_curves_decided
def top (i : Nat) : Stmt := PySem.Challenge.pw_bandsplits_k77_whole_curves_decided.main.body.getD i (.Pass ⟨0, 0, 0, 0⟩)
def dd (x : Str) (i : Nat) : He.DefD := ⟨(x, none), x, x, defArgs (top i), defBody (top i), defScope (top i), [], []⟩
def rows : List Pz.Row := [
  ⟨dd "is_whole" 5, ["value"], f_is_whole⟩,
  ⟨dd "are_wholes" 6, ["value", "many", "each"], f_are_wholes⟩,
  ⟨dd "divisor_of" 7, ["numbers", "found", "each"], f_divisor_of⟩,
  ⟨dd "is_ratio" 11, ["value"], f_is_ratio⟩,
  ⟨dd "ratio" 12, ["top", "low", "part"], f_ratio⟩,
  ⟨dd "plus" 13, ["one", "two"], f_plus⟩,
  ⟨dd "minus" 14, ["one", "two"], f_minus⟩,
  ⟨dd "times" 15, ["one", "two"], f_times⟩,
  ⟨dd "over" 16, ["one", "two"], f_over⟩,
  ⟨dd "total" 17, ["fractions", "found", "each"], f_total⟩,
  ⟨dd "row_by" 20, ["start", "numbers", "low", "high"], f_row_by⟩,
  ⟨dd "end_of" 21, ["row"], f_end_of⟩,
  ⟨dd "at_place" 22, ["row", "place"], f_at_place⟩,
  ⟨dd "row_scaled" 23, ["row", "number", "each"], f_row_scaled⟩,
  ⟨dd "row_product" 24, ["one", "two", "found", "at", "mine", "place", "its"], f_row_product⟩,
  ⟨dd "row_back" 25, ["row"], f_row_back⟩,
  ⟨dd "part_from" 26, ["row", "first", "low", "high", "at"], f_part_from⟩,
  ⟨dd "even_of" 27, ["row"], f_even_of⟩,
  ⟨dd "size_row" 29, ["row"], f_size_row⟩,
  ⟨dd "is_laid" 31, ["value", "each"], f_is_laid⟩,
  ⟨dd "led_over" 35, ["mask", "row"], f_led_over⟩,
  ⟨dd "cleared" 36, ["row", "basis", "place", "other", "factor", "one", "two"], f_cleared⟩,
  ⟨dd "lead_of" 37, ["row", "many", "place"], f_lead_of⟩,
  ⟨dd "scaled_to_one" 38, ["row", "place", "each"], f_scaled_to_one⟩,
  ⟨dd "rule_of" 39, ["mask", "wide", "basis", "row", "many", "tags", "left", "place"], f_rule_of⟩,
  ⟨dd "is_within" 40, ["rule", "back", "low", "high", "one", "two"], f_is_within⟩,
  ⟨dd "have_sums" 41, ["mask"], f_have_sums⟩,
  ⟨dd "comes_to_curve" 42, ["mask"], f_comes_to_curve⟩,
  ⟨dd "is_mask" 46, ["value"], f_is_mask⟩,
  ⟨dd "check_mask" 47, ["value"], f_check_mask⟩,
  ⟨dd "transfer_rule" 48, ["mask"], f_transfer_rule⟩,
  ⟨dd "has_curve" 49, ["mask"], f_has_curve⟩,
  ⟨dd "_law_spring" 51, ["_law_script", "_law_turn", "_law_cell", "_law_mix", "_law_each"], f_law_spring⟩,
  ⟨dd "_law_sip" 52, ["_law_spring_here", "_law_top", "_law_by", "_law_figure"], f_law_sip⟩,
  ⟨dd "_law_pick" 53, ["_law_spring_here", "_law_some_here"], f_law_pick⟩,
  ⟨dd "_law_deep" 54, ["_law_one", "_law_two"], f_law_deep⟩,
  ⟨dd "_law_low" 55, ["_law_top", "_law_under", "_law_deep_here"], f_law_low⟩,
  ⟨dd "_law_plus" 56, ["_law_one", "_law_two"], f_law_plus⟩,
  ⟨dd "_law_minus" 57, ["_law_one", "_law_two"], f_law_minus⟩,
  ⟨dd "_law_prod" 58, ["_law_one", "_law_two"], f_law_prod⟩,
  ⟨dd "_law_per" 59, ["_law_one", "_law_two"], f_law_per⟩,
  ⟨dd "_law_all" 60, ["_law_some_here", "_law_found", "_law_each"], f_law_all⟩,
  ⟨dd "_law_ints" 61, ["_law_some_here", "_law_under", "_law_each"], f_law_ints⟩,
  ⟨dd "_law_any" 62, ["_law_spring_here", "_law_wide"], f_law_any⟩,
  ⟨dd "_law_some" 63, ["_law_spring_here", "_law_top"], f_law_some⟩,
  ⟨dd "_law_trim" 64, ["_law_at_here", "_law_some_here", "_law_full", "_law_k"], f_law_trim⟩,
  ⟨dd "_law_at" 65, ["_law_x", "_law_k"], f_law_at⟩,
  ⟨dd "_law_times" 66, ["_law_x", "_law_y", "_law_some_here", "_law_i", "_law_ones", "_law_under", "_law_twos", "_law_below", "_law_j", "_law_each"], f_law_times⟩,
  ⟨dd "_law_scaled" 67, ["_law_x", "_law_by", "_law_each"], f_law_scaled⟩,
  ⟨dd "_law_round" 68, ["_law_x"], f_law_round⟩,
  ⟨dd "_law_half" 69, ["_law_x", "_law_odd", "_law_first"], f_law_half⟩,
  ⟨dd "_law_sieve" 70, ["_law_spring_here", "_law_most", "_law_some_here", "_law_lap"], f_law_sieve⟩,
  ⟨dd "_law_even_sieve" 71, ["_law_spring_here", "_law_most", "_law_some_here", "_law_lap", "_law_left"], f_law_even_sieve⟩,
  ⟨dd "_law_auto" 72, ["_law_mask2"], f_law_auto⟩,
  ⟨dd "_law_rule" 73, ["_law_mask2", "_law_lap", "_law_found", "_law_here", "_law_both", "_law_full", "_law_by", "_law_wire", "_law_mix", "_law_spot", "_law_base", "_law_mate", "_law_k", "_law_each"], f_law_rule⟩,
  ⟨dd "_law_inside" 74, ["_law_some_here", "_law_here", "_law_lap", "_law_deep_here", "_law_each", "_law_k"], f_law_inside⟩,
  ⟨dd "_law_has_sums" 75, ["_law_mask2"], f_law_has_sums⟩,
  ⟨dd "_law_right" 76, ["_law_spring_here", "_law_mask2", "_law_due", "_law_rule2", "_law_c", "_law_rest", "_law_size", "_law_way", "_law_wide", "_law_least", "_law_told"], f_law_right⟩,
  ⟨dd "law" 77, ["_law_script", "_law_turn"], f_law⟩]
def tb : Tb := ⟨rows.map (·.d.at_.1), cs.map (·.1), [(31, ["mask"], [0])]⟩
theorem ok0 : RowOk tb (rows[0]'(by decide)) := ⟨rfl, ⟨rfl, rfl, rfl, by decide +kernel, rfl, by decide +kernel, by decide +kernel⟩, rfl, rfl, by decide +kernel, rfl, rfl, fun _ _ _ _ _ _ us hl => match us, hl with | [_], _ => rfl, by decide +kernel⟩
theorem ok1 : RowOk tb (rows[1]'(by decide)) := ⟨rfl, ⟨rfl, rfl, rfl, by decide +kernel, rfl, by decide +kernel, by decide +kernel⟩, rfl, rfl, by decide +kernel, rfl, rfl, fun _ _ _ _ _ _ us hl => match us, hl with | [_, _], _ => rfl, by decide +kernel⟩
theorem ok2 : RowOk tb (rows[2]'(by decide)) := ⟨rfl, ⟨rfl, rfl, rfl, by decide +kernel, rfl, by decide +kernel, by decide +kernel⟩, rfl, rfl, by decide +kernel, rfl, rfl, fun _ _ _ _ _ _ us hl => match us, hl with | [_], _ => rfl, by decide +kernel⟩
theorem ok3 : RowOk tb (rows[3]'(by decide)) := ⟨rfl, ⟨rfl, rfl, rfl, by decide +kernel, rfl, by decide +kernel, by decide +kernel⟩, rfl, rfl, by decide +kernel, rfl, rfl, fun _ _ _ _ _ _ us hl => match us, hl with | [_], _ => rfl, by decide +kernel⟩
theorem ok4 : RowOk tb (rows[4]'(by decide)) := ⟨rfl, ⟨rfl, rfl, rfl, by decide +kernel, rfl, by decide +kernel, by decide +kernel⟩, rfl, rfl, by decide +kernel, rfl, rfl, fun _ _ _ _ _ _ us hl => match us, hl with | [_, _], _ => rfl, by decide +kernel⟩
theorem ok5 : RowOk tb (rows[5]'(by decide)) := ⟨rfl, ⟨rfl, rfl, rfl, by decide +kernel, rfl, by decide +kernel, by decide +kernel⟩, rfl, rfl, by decide +kernel, rfl, rfl, fun _ _ _ _ _ _ us hl => match us, hl with | [_, _], _ => rfl, by decide +kernel⟩
theorem ok6 : RowOk tb (rows[6]'(by decide)) := ⟨rfl, ⟨rfl, rfl, rfl, by decide +kernel, rfl, by decide +kernel, by decide +kernel⟩, rfl, rfl, by decide +kernel, rfl, rfl, fun _ _ _ _ _ _ us hl => match us, hl with | [_, _], _ => rfl, by decide +kernel⟩
theorem ok7 : RowOk tb (rows[7]'(by decide)) := ⟨rfl, ⟨rfl, rfl, rfl, by decide +kernel, rfl, by decide +kernel, by decide +kernel⟩, rfl, rfl, by decide +kernel, rfl, rfl, fun _ _ _ _ _ _ us hl => match us, hl with | [_, _], _ => rfl, by decide +kernel⟩
theorem ok8 : RowOk tb (rows[8]'(by decide)) := ⟨rfl, ⟨rfl, rfl, rfl, by decide +kernel, rfl, by decide +kernel, by decide +kernel⟩, rfl, rfl, by decide +kernel, rfl, rfl, fun _ _ _ _ _ _ us hl => match us, hl with | [_, _], _ => rfl, by decide +kernel⟩
theorem ok9 : RowOk tb (rows[9]'(by decide)) := ⟨rfl, ⟨rfl, rfl, rfl, by decide +kernel, rfl, by decide +kernel, by decide +kernel⟩, rfl, rfl, by decide +kernel, rfl, rfl, fun _ _ _ _ _ _ us hl => match us, hl with | [_], _ => rfl, by decide +kernel⟩
theorem ok10 : RowOk tb (rows[10]'(by decide)) := ⟨rfl, ⟨rfl, rfl, rfl, by decide +kernel, rfl, by decide +kernel, by decide +kernel⟩, rfl, rfl, by decide +kernel, rfl, rfl, fun _ _ _ _ _ _ us hl => match us, hl with | [_, _], _ => rfl, by decide +kernel⟩
theorem ok11 : RowOk tb (rows[11]'(by decide)) := ⟨rfl, ⟨rfl, rfl, rfl, by decide +kernel, rfl, by decide +kernel, by decide +kernel⟩, rfl, rfl, by decide +kernel, rfl, rfl, fun _ _ _ _ _ _ us hl => match us, hl with | [_], _ => rfl, by decide +kernel⟩
theorem ok12 : RowOk tb (rows[12]'(by decide)) := ⟨rfl, ⟨rfl, rfl, rfl, by decide +kernel, rfl, by decide +kernel, by decide +kernel⟩, rfl, rfl, by decide +kernel, rfl, rfl, fun _ _ _ _ _ _ us hl => match us, hl with | [_, _], _ => rfl, by decide +kernel⟩
theorem ok13 : RowOk tb (rows[13]'(by decide)) := ⟨rfl, ⟨rfl, rfl, rfl, by decide +kernel, rfl, by decide +kernel, by decide +kernel⟩, rfl, rfl, by decide +kernel, rfl, rfl, fun _ _ _ _ _ _ us hl => match us, hl with | [_, _], _ => rfl, by decide +kernel⟩
theorem ok14 : RowOk tb (rows[14]'(by decide)) := ⟨rfl, ⟨rfl, rfl, rfl, by decide +kernel, rfl, by decide +kernel, by decide +kernel⟩, rfl, rfl, by decide +kernel, rfl, rfl, fun _ _ _ _ _ _ us hl => match us, hl with | [_, _], _ => rfl, by decide +kernel⟩
theorem ok15 : RowOk tb (rows[15]'(by decide)) := ⟨rfl, ⟨rfl, rfl, rfl, by decide +kernel, rfl, by decide +kernel, by decide +kernel⟩, rfl, rfl, by decide +kernel, rfl, rfl, fun _ _ _ _ _ _ us hl => match us, hl with | [_], _ => rfl, by decide +kernel⟩
theorem ok16 : RowOk tb (rows[16]'(by decide)) := ⟨rfl, ⟨rfl, rfl, rfl, by decide +kernel, rfl, by decide +kernel, by decide +kernel⟩, rfl, rfl, by decide +kernel, rfl, rfl, fun _ _ _ _ _ _ us hl => match us, hl with | [_, _], _ => rfl, by decide +kernel⟩
theorem ok17 : RowOk tb (rows[17]'(by decide)) := ⟨rfl, ⟨rfl, rfl, rfl, by decide +kernel, rfl, by decide +kernel, by decide +kernel⟩, rfl, rfl, by decide +kernel, rfl, rfl, fun _ _ _ _ _ _ us hl => match us, hl with | [_], _ => rfl, by decide +kernel⟩
theorem ok18 : RowOk tb (rows[18]'(by decide)) := ⟨rfl, ⟨rfl, rfl, rfl, by decide +kernel, rfl, by decide +kernel, by decide +kernel⟩, rfl, rfl, by decide +kernel, rfl, rfl, fun _ _ _ _ _ _ us hl => match us, hl with | [_], _ => rfl, by decide +kernel⟩
theorem ok19 : RowOk tb (rows[19]'(by decide)) := ⟨rfl, ⟨rfl, rfl, rfl, by decide +kernel, rfl, by decide +kernel, by decide +kernel⟩, rfl, rfl, by decide +kernel, rfl, rfl, fun _ _ _ _ _ _ us hl => match us, hl with | [_], _ => rfl, by decide +kernel⟩
theorem ok20 : RowOk tb (rows[20]'(by decide)) := ⟨rfl, ⟨rfl, rfl, rfl, by decide +kernel, rfl, by decide +kernel, by decide +kernel⟩, rfl, rfl, by decide +kernel, rfl, rfl, fun _ _ _ _ _ _ us hl => match us, hl with | [_, _], _ => rfl, by decide +kernel⟩
theorem ok21 : RowOk tb (rows[21]'(by decide)) := ⟨rfl, ⟨rfl, rfl, rfl, by decide +kernel, rfl, by decide +kernel, by decide +kernel⟩, rfl, rfl, by decide +kernel, rfl, rfl, fun _ _ _ _ _ _ us hl => match us, hl with | [_, _], _ => rfl, by decide +kernel⟩
theorem ok22 : RowOk tb (rows[22]'(by decide)) := ⟨rfl, ⟨rfl, rfl, rfl, by decide +kernel, rfl, by decide +kernel, by decide +kernel⟩, rfl, rfl, by decide +kernel, rfl, rfl, fun _ _ _ _ _ _ us hl => match us, hl with | [_, _], _ => rfl, by decide +kernel⟩
theorem ok23 : RowOk tb (rows[23]'(by decide)) := ⟨rfl, ⟨rfl, rfl, rfl, by decide +kernel, rfl, by decide +kernel, by decide +kernel⟩, rfl, rfl, by decide +kernel, rfl, rfl, fun _ _ _ _ _ _ us hl => match us, hl with | [_, _], _ => rfl, by decide +kernel⟩
theorem ok24 : RowOk tb (rows[24]'(by decide)) := ⟨rfl, ⟨rfl, rfl, rfl, by decide +kernel, rfl, by decide +kernel, by decide +kernel⟩, rfl, rfl, by decide +kernel, rfl, rfl, fun _ _ _ _ _ _ us hl => match us, hl with | [_], _ => rfl, by decide +kernel⟩
theorem ok25 : RowOk tb (rows[25]'(by decide)) := ⟨rfl, ⟨rfl, rfl, rfl, by decide +kernel, rfl, by decide +kernel, by decide +kernel⟩, rfl, rfl, by decide +kernel, rfl, rfl, fun _ _ _ _ _ _ us hl => match us, hl with | [_], _ => rfl, by decide +kernel⟩
theorem ok26 : RowOk tb (rows[26]'(by decide)) := ⟨rfl, ⟨rfl, rfl, rfl, by decide +kernel, rfl, by decide +kernel, by decide +kernel⟩, rfl, rfl, by decide +kernel, rfl, rfl, fun _ _ _ _ _ _ us hl => match us, hl with | [_], _ => rfl, by decide +kernel⟩
theorem ok27 : RowOk tb (rows[27]'(by decide)) := ⟨rfl, ⟨rfl, rfl, rfl, by decide +kernel, rfl, by decide +kernel, by decide +kernel⟩, rfl, rfl, by decide +kernel, rfl, rfl, fun _ _ _ _ _ _ us hl => match us, hl with | [_], _ => rfl, by decide +kernel⟩
theorem ok28 : RowOk tb (rows[28]'(by decide)) := ⟨rfl, ⟨rfl, rfl, rfl, by decide +kernel, rfl, by decide +kernel, by decide +kernel⟩, rfl, rfl, by decide +kernel, rfl, rfl, fun _ _ _ _ _ _ us hl => match us, hl with | [_], _ => rfl, by decide +kernel⟩
theorem ok29 : RowOk tb (rows[29]'(by decide)) := ⟨rfl, ⟨rfl, rfl, rfl, by decide +kernel, rfl, by decide +kernel, by decide +kernel⟩, rfl, rfl, by decide +kernel, rfl, rfl, fun _ _ _ _ _ _ us hl => match us, hl with | [_], _ => rfl, by decide +kernel⟩
theorem ok30 : RowOk tb (rows[30]'(by decide)) := ⟨rfl, ⟨rfl, rfl, rfl, by decide +kernel, rfl, by decide +kernel, by decide +kernel⟩, rfl, rfl, by decide +kernel, rfl, rfl, fun _ _ _ _ _ _ us hl => match us, hl with | [_], _ => rfl, by decide +kernel⟩
theorem ok31 : RowOk tb (rows[31]'(by decide)) := ⟨rfl, ⟨rfl, rfl, rfl, by decide +kernel, rfl, by decide +kernel, by decide +kernel⟩, rfl, rfl, by decide +kernel, rfl, rfl, fun _ _ _ _ _ _ us hl => match us, hl with | [_], _ => rfl, by decide +kernel⟩
theorem ok32 : RowOk tb (rows[32]'(by decide)) := ⟨rfl, ⟨rfl, rfl, rfl, by decide +kernel, rfl, by decide +kernel, by decide +kernel⟩, rfl, rfl, by decide +kernel, rfl, rfl, fun _ _ _ _ _ _ us hl => match us, hl with | [_, _], _ => rfl, by decide +kernel⟩
theorem ok33 : RowOk tb (rows[33]'(by decide)) := ⟨rfl, ⟨rfl, rfl, rfl, by decide +kernel, rfl, by decide +kernel, by decide +kernel⟩, rfl, rfl, by decide +kernel, rfl, rfl, fun _ _ _ _ _ _ us hl => match us, hl with | [_, _], _ => rfl, by decide +kernel⟩
theorem ok34 : RowOk tb (rows[34]'(by decide)) := ⟨rfl, ⟨rfl, rfl, rfl, by decide +kernel, rfl, by decide +kernel, by decide +kernel⟩, rfl, rfl, by decide +kernel, rfl, rfl, fun _ _ _ _ _ _ us hl => match us, hl with | [_, _], _ => rfl, by decide +kernel⟩
theorem ok35 : RowOk tb (rows[35]'(by decide)) := ⟨rfl, ⟨rfl, rfl, rfl, by decide +kernel, rfl, by decide +kernel, by decide +kernel⟩, rfl, rfl, by decide +kernel, rfl, rfl, fun _ _ _ _ _ _ us hl => match us, hl with | [_, _], _ => rfl, by decide +kernel⟩
theorem ok36 : RowOk tb (rows[36]'(by decide)) := ⟨rfl, ⟨rfl, rfl, rfl, by decide +kernel, rfl, by decide +kernel, by decide +kernel⟩, rfl, rfl, by decide +kernel, rfl, rfl, fun _ _ _ _ _ _ us hl => match us, hl with | [_, _], _ => rfl, by decide +kernel⟩
theorem ok37 : RowOk tb (rows[37]'(by decide)) := ⟨rfl, ⟨rfl, rfl, rfl, by decide +kernel, rfl, by decide +kernel, by decide +kernel⟩, rfl, rfl, by decide +kernel, rfl, rfl, fun _ _ _ _ _ _ us hl => match us, hl with | [_, _], _ => rfl, by decide +kernel⟩
theorem ok38 : RowOk tb (rows[38]'(by decide)) := ⟨rfl, ⟨rfl, rfl, rfl, by decide +kernel, rfl, by decide +kernel, by decide +kernel⟩, rfl, rfl, by decide +kernel, rfl, rfl, fun _ _ _ _ _ _ us hl => match us, hl with | [_, _], _ => rfl, by decide +kernel⟩
theorem ok39 : RowOk tb (rows[39]'(by decide)) := ⟨rfl, ⟨rfl, rfl, rfl, by decide +kernel, rfl, by decide +kernel, by decide +kernel⟩, rfl, rfl, by decide +kernel, rfl, rfl, fun _ _ _ _ _ _ us hl => match us, hl with | [_, _], _ => rfl, by decide +kernel⟩
theorem ok40 : RowOk tb (rows[40]'(by decide)) := ⟨rfl, ⟨rfl, rfl, rfl, by decide +kernel, rfl, by decide +kernel, by decide +kernel⟩, rfl, rfl, by decide +kernel, rfl, rfl, fun _ _ _ _ _ _ us hl => match us, hl with | [_, _], _ => rfl, by decide +kernel⟩
theorem ok41 : RowOk tb (rows[41]'(by decide)) := ⟨rfl, ⟨rfl, rfl, rfl, by decide +kernel, rfl, by decide +kernel, by decide +kernel⟩, rfl, rfl, by decide +kernel, rfl, rfl, fun _ _ _ _ _ _ us hl => match us, hl with | [_], _ => rfl, by decide +kernel⟩
theorem ok42 : RowOk tb (rows[42]'(by decide)) := ⟨rfl, ⟨rfl, rfl, rfl, by decide +kernel, rfl, by decide +kernel, by decide +kernel⟩, rfl, rfl, by decide +kernel, rfl, rfl, fun _ _ _ _ _ _ us hl => match us, hl with | [_], _ => rfl, by decide +kernel⟩
theorem ok43 : RowOk tb (rows[43]'(by decide)) := ⟨rfl, ⟨rfl, rfl, rfl, by decide +kernel, rfl, by decide +kernel, by decide +kernel⟩, rfl, rfl, by decide +kernel, rfl, rfl, fun _ _ _ _ _ _ us hl => match us, hl with | [_], _ => rfl, by decide +kernel⟩
theorem ok44 : RowOk tb (rows[44]'(by decide)) := ⟨rfl, ⟨rfl, rfl, rfl, by decide +kernel, rfl, by decide +kernel, by decide +kernel⟩, rfl, rfl, by decide +kernel, rfl, rfl, fun _ _ _ _ _ _ us hl => match us, hl with | [_], _ => rfl, by decide +kernel⟩
theorem ok45 : RowOk tb (rows[45]'(by decide)) := ⟨rfl, ⟨rfl, rfl, rfl, by decide +kernel, rfl, by decide +kernel, by decide +kernel⟩, rfl, rfl, by decide +kernel, rfl, rfl, fun _ _ _ _ _ _ us hl => match us, hl with | [_, _], _ => rfl, by decide +kernel⟩
theorem ok46 : RowOk tb (rows[46]'(by decide)) := ⟨rfl, ⟨rfl, rfl, rfl, by decide +kernel, rfl, by decide +kernel, by decide +kernel⟩, rfl, rfl, by decide +kernel, rfl, rfl, fun _ _ _ _ _ _ us hl => match us, hl with | [_, _], _ => rfl, by decide +kernel⟩
theorem ok47 : RowOk tb (rows[47]'(by decide)) := ⟨rfl, ⟨rfl, rfl, rfl, by decide +kernel, rfl, by decide +kernel, by decide +kernel⟩, rfl, rfl, by decide +kernel, rfl, rfl, fun _ _ _ _ _ _ us hl => match us, hl with | [_, _], _ => rfl, by decide +kernel⟩
theorem ok48 : RowOk tb (rows[48]'(by decide)) := ⟨rfl, ⟨rfl, rfl, rfl, by decide +kernel, rfl, by decide +kernel, by decide +kernel⟩, rfl, rfl, by decide +kernel, rfl, rfl, fun _ _ _ _ _ _ us hl => match us, hl with | [_, _], _ => rfl, by decide +kernel⟩
theorem ok49 : RowOk tb (rows[49]'(by decide)) := ⟨rfl, ⟨rfl, rfl, rfl, by decide +kernel, rfl, by decide +kernel, by decide +kernel⟩, rfl, rfl, by decide +kernel, rfl, rfl, fun _ _ _ _ _ _ us hl => match us, hl with | [_], _ => rfl, by decide +kernel⟩
theorem ok50 : RowOk tb (rows[50]'(by decide)) := ⟨rfl, ⟨rfl, rfl, rfl, by decide +kernel, rfl, by decide +kernel, by decide +kernel⟩, rfl, rfl, by decide +kernel, rfl, rfl, fun _ _ _ _ _ _ us hl => match us, hl with | [_, _], _ => rfl, by decide +kernel⟩
theorem ok51 : RowOk tb (rows[51]'(by decide)) := ⟨rfl, ⟨rfl, rfl, rfl, by decide +kernel, rfl, by decide +kernel, by decide +kernel⟩, rfl, rfl, by decide +kernel, rfl, rfl, fun _ _ _ _ _ _ us hl => match us, hl with | [_, _], _ => rfl, by decide +kernel⟩
theorem ok52 : RowOk tb (rows[52]'(by decide)) := ⟨rfl, ⟨rfl, rfl, rfl, by decide +kernel, rfl, by decide +kernel, by decide +kernel⟩, rfl, rfl, by decide +kernel, rfl, rfl, fun _ _ _ _ _ _ us hl => match us, hl with | [_, _], _ => rfl, by decide +kernel⟩
theorem ok53 : RowOk tb (rows[53]'(by decide)) := ⟨rfl, ⟨rfl, rfl, rfl, by decide +kernel, rfl, by decide +kernel, by decide +kernel⟩, rfl, rfl, by decide +kernel, rfl, rfl, fun _ _ _ _ _ _ us hl => match us, hl with | [_], _ => rfl, by decide +kernel⟩
theorem ok54 : RowOk tb (rows[54]'(by decide)) := ⟨rfl, ⟨rfl, rfl, rfl, by decide +kernel, rfl, by decide +kernel, by decide +kernel⟩, rfl, rfl, by decide +kernel, rfl, rfl, fun _ _ _ _ _ _ us hl => match us, hl with | [_], _ => rfl, by decide +kernel⟩
theorem ok55 : RowOk tb (rows[55]'(by decide)) := ⟨rfl, ⟨rfl, rfl, rfl, by decide +kernel, rfl, by decide +kernel, by decide +kernel⟩, rfl, rfl, by decide +kernel, rfl, rfl, fun _ _ _ _ _ _ us hl => match us, hl with | [_], _ => rfl, by decide +kernel⟩
theorem ok56 : RowOk tb (rows[56]'(by decide)) := ⟨rfl, ⟨rfl, rfl, rfl, by decide +kernel, rfl, by decide +kernel, by decide +kernel⟩, rfl, rfl, by decide +kernel, rfl, rfl, fun _ _ _ _ _ _ us hl => match us, hl with | [_], _ => rfl, by decide +kernel⟩
theorem ok57 : RowOk tb (rows[57]'(by decide)) := ⟨rfl, ⟨rfl, rfl, rfl, by decide +kernel, rfl, by decide +kernel, by decide +kernel⟩, rfl, rfl, by decide +kernel, rfl, rfl, fun _ _ _ _ _ _ us hl => match us, hl with | [_], _ => rfl, by decide +kernel⟩
theorem ok58 : RowOk tb (rows[58]'(by decide)) := ⟨rfl, ⟨rfl, rfl, rfl, by decide +kernel, rfl, by decide +kernel, by decide +kernel⟩, rfl, rfl, by decide +kernel, rfl, rfl, fun _ _ _ _ _ _ us hl => match us, hl with | [_], _ => rfl, by decide +kernel⟩
end K77
namespace K77
open PySem PySem.Spec PyProof.Rows L2 Pz
def loose0 : List PySem.Str := ["__name__", "BandError", "InvalidMask", "is_whole", "are_wholes", "divisor_of", "ZERO", "ONE", "is_ratio", "ratio", "plus", "minus", "times", "over", "total", "NOUGHT", "row_by", "end_of", "at_place", "row_scaled", "row_product", "row_back", "part_from", "even_of", "size_row", "is_laid", "HALF", "START", "led_over", "cleared"]
def loose1 : List PySem.Str := ["lead_of", "scaled_to_one", "rule_of", "is_within", "have_sums", "comes_to_curve", "FEW_NUMBERS", "MOST_NUMBERS", "is_mask", "check_mask", "transfer_rule", "has_curve", "_law_spring", "_law_sip", "_law_pick", "_law_deep", "_law_low", "_law_plus", "_law_minus", "_law_prod", "_law_per", "_law_all", "_law_ints", "_law_any", "_law_some", "_law_trim", "_law_at", "_law_times", "_law_scaled", "_law_round"]
def loose2 : List PySem.Str := ["_law_half", "_law_sieve", "_law_even_sieve", "_law_auto", "_law_rule", "_law_inside", "_law_has_sums", "_law_right"]
def loose : List PySem.Str := loose0 ++ loose1 ++ loose2
abbrev RR : PySem.W.OpenRow := PySem.W.OpenLaw.row lw
abbrev hk : PySem.W.Hook := hookC 5 (faOf rows) (rows.map (·.d)) cs
def obH (s : PySem.W.SharedT) : He.AlD := obsC 5 (faOf rows) (rows.map (·.d)) cs (HandSHeadRun.getT s)
theorem obH_eq (s : PySem.W.SharedT) : obH s = hk.obs s.abs := obsC_eq (HandSHeadRun.getT_eq s)
def vw : Program := PySem.W.view RR.prog [0, 77]
theorem run (w : World) : HandSHeadRun.RunEqI RR vw hk obH 4000 loose w := by
  unfold HandSHeadRun.RunEqI
  kernel_rfl
theorem rows_ok : ∀ (k : Nat) (r : Pz.Row), rows[k]? = some r → RowOk tb r := by
  intro k r h
  have hl : k < rows.length := (List.getElem?_eq_some_iff.mp h).1
  have he := (List.getElem?_eq_some_iff.mp h).2
  rw [← he]
  have : ∀ (j : Nat) (hj : j < rows.length), RowOk tb rows[j] := fun j hj => match j, hj with
    | 0, _ => ok0
    | 1, _ => ok1
    | 2, _ => ok2
    | 3, _ => ok3
    | 4, _ => ok4
    | 5, _ => ok5
    | 6, _ => ok6
    | 7, _ => ok7
    | 8, _ => ok8
    | 9, _ => ok9
    | 10, _ => ok10
    | 11, _ => ok11
    | 12, _ => ok12
    | 13, _ => ok13
    | 14, _ => ok14
    | 15, _ => ok15
    | 16, _ => ok16
    | 17, _ => ok17
    | 18, _ => ok18
    | 19, _ => ok19
    | 20, _ => ok20
    | 21, _ => ok21
    | 22, _ => ok22
    | 23, _ => ok23
    | 24, _ => ok24
    | 25, _ => ok25
    | 26, _ => ok26
    | 27, _ => ok27
    | 28, _ => ok28
    | 29, _ => ok29
    | 30, _ => ok30
    | 31, _ => ok31
    | 32, _ => ok32
    | 33, _ => ok33
    | 34, _ => ok34
    | 35, _ => ok35
    | 36, _ => ok36
    | 37, _ => ok37
    | 38, _ => ok38
    | 39, _ => ok39
    | 40, _ => ok40
    | 41, _ => ok41
    | 42, _ => ok42
    | 43, _ => ok43
    | 44, _ => ok44
    | 45, _ => ok45
    | 46, _ => ok46
    | 47, _ => ok47
    | 48, _ => ok48
    | 49, _ => ok49
    | 50, _ => ok50
    | 51, _ => ok51
    | 52, _ => ok52
    | 53, _ => ok53
    | 54, _ => ok54
    | 55, _ => ok55
    | 56, _ => ok56
    | 57, _ => ok57
    | 58, _ => ok58
    | n + 59, hj => absurd hj (by simp [rows])
  exact this k hl
end K77
namespace K77
open PySem PySem.Spec PyProof.Rows L2 Pz
theorem pure_run (ns : List Int) (h : ns.length ≤ 63) : ∃ S', phi (cvOf cs) (fsOf rows) 40 58 [.scr ns] [] = .ok (.bl true) S' := by
  have e : fsOf rows = fs := by
    have h : rows.map (·.f) = fsL := rfl
    funext k
    show (rows[k]?).map (·.f) = fsL[k]?
    rw [← h, List.getElem?_map]
  rw [e]
  exact run_law 29 ns h
theorem kw_ok : ∀ t ∈ tb.kw, KwOk rows t := by
  intro t ht
  unfold tb at ht
  simp only [List.mem_cons, List.not_mem_nil, or_false] at ht
  rcases ht with rfl
  · refine ⟨_, rfl, fun kV doc pm an cdv ct ws es hl hp => ?_⟩
    match ws, hl with
    | [w0], _ =>
      have e : es = [w0] := by
        have q : permD [0] [w0] = some [w0] := rfl
        exact Option.some.inj (hp.symm.trans q)
      subst e
      rfl
end K77
open PySem PySem.W PySem.Calls PyProof.Rows
theorem PySem.Challenge.cw_bandsplits_k77_whole_curves_decided_holds : PySem.Challenge.rw_bandsplits_k77_whole_curves_decided.Holds := by
  w_on; o_law
  refine HandSHeadRun.head_imp (r := OpenLaw.row PySem.Challenge.rw_bandsplits_k77_whole_curves_decided) (q := K77.vw) (H := K77.hk) (ob := K77.obH) (M := 4000) (loose := K77.loose) (d := HandSHeadRun.topDef (OpenLaw.row PySem.Challenge.rw_bandsplits_k77_whole_curves_decided).prog 77) (kwd := []) K77.obH_eq
    K77.run (by kernel_rfl) (by kernel_rfl) (by kernel_rfl) (by rfl) (by first | assumption | decide +kernel) (by decide +kernel) ⟨rfl, rfl, rfl, rfl, rfl, by decide +kernel⟩ ?hw ?hc
  case hw => w_witness2
  case hc =>
    refine Pz.walkP (l := PySem.Challenge.rw_bandsplits_k77_whole_curves_decided) (m := 63) (n := 40) (k := 58) (x := "_law_script") (tb := K77.tb) (ps := Pz.psOf K77.rows) (cv := Pz.cvOf K77.cs) (fs := Pz.fsOf K77.rows) rfl (by decide) (by kernel_rfl) ⟨rfl, by decide, by decide⟩ rfl (by kernel_rfl) ?F K77.pure_run
    intro w mg h Y G
    obtain ⟨K, KX, c, cc⟩ := Y
    obtain ⟨fd, hp⟩ := Pz.pg_of (P := (PySem.Challenge.rw_bandsplits_k77_whole_curves_decided).prog) (w := w) (tb := K77.tb) KX G c cc rfl rfl K77.rows_ok K77.kw_ok (by decide +kernel)
    have p0 := hp {}
    have e := (p0.fns 58 "law" (by decide +kernel)).1
    refine ⟨K, _, fd, _, KX, ?_, rfl, hp⟩
    have en : (HandSHeadRun.topDef (OpenLaw.row PySem.Challenge.rw_bandsplits_k77_whole_curves_decided).prog 77).name = ("law" : PySem.Str) := by kernel_rfl
    rw [en]
    exact e
