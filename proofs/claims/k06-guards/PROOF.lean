import PyProof.Rows.All
import Wide.All
import OpenK.AllK
import Wide.FinOn
import HandS.ForMost
import HandS.Exc
import HandS.TryOnly
import HandS.ExcOwn
import HandS.WordsExc
import HandS.ExcInit
import HandS.IsInst
import HandS.Defaults
import HandS.Evl
import HandS.Wide
import HandS.WideBits
import HandS.NoneIn
import HandS.Walk
import HandS.Flow
import HandS.StrMore
import HandS.TupAny
import HandS.WrittenGet
import HandS.CallSlots
import HandS.Rev
import HandS.RevRange
import HandS.ExcField
import HandS.Ends
import HandS.ExcIs
import PySem.Challenge.RW_deepstands_k06_guards_and_terms_by_hand
set_option Elab.async false
set_option linter.all false
set_option maxRecDepth 100000
set_option maxHeartbeats 4000000
/-! SA: values without addresses, a heap of numbered places, programs as functions over them. -/
namespace SA
open PySem PySem.Spec PyProof.Rows L2
/-- the written part, the classes by numbers -/
structure Gx where
  K : PySem.W.Frag
  cl : Nat → Addr
/-- a value: tuples are trees, what may change has a number -/
inductive A where
  | non | bl (b : Bool) | int (i : Int) | str (x : Str) | tup (xs : List A) | loc (n : Nat) | cls (c : Nat) | ty (n : String) | fz (ns : List Int)
/-- what stands at a number -/
inductive AO where
  | lst (xs : List A) | dK (kvs : List (Key × A)) | ins (C : Nat) (fs : List (Str × A))
abbrev AH := List AO
abbrev AS := List (Option A)
inductive Res (α : Type) where
  | ok (a : α) (h : AH) | exc (c : Nat) (fs : Option (List (Str × A))) (h : AH) | bad
def Res.bind {α β : Type} (r : Res α) (k : α → AH → Res β) : Res β := match r with
  | .ok a h => k a h
  | .exc c fs h => .exc c fs h
  | .bad => .bad
inductive Fl where
  | nx (ρ : AS) (h : AH) | rt (a : A) (h : AH) | bk (ρ : AS) (h : AH) | ct (ρ : AS) (h : AH) | exc (c : Nat) (fs : Option (List (Str × A))) (ρ : AS) (h : AH) | bad
abbrev AE := AS → AH → Res A
abbrev AT := AS → AH → Res Bool
abbrev AL := AS → AH → Res (List A)
abbrev AC := AS → AH → Fl
/-- a list of numbers that nobody changes: the script -/
def FzL (K : PySem.W.Frag) (H : Hp) (a : Addr) (xs : List V) : Prop := (∃ o, H a = some (.frz o (.lst xs))) ∨ ∃ (o : Obj) (its : Array Value) (n : Nat), K.lookup a = some o ∧ o.cls = .type "list" ∧ o.dict = none ∧ o.data = .seq its n ∧ its.size ≤ sizeLine ∧ Vals xs its.toList
theorem FzL.sq {K : PySem.W.Frag} {H : Hp} {a : Addr} {xs : List V} (h : FzL K H a xs) : SqL K H a xs := h.elim (fun z => .inl (.inr z)) .inr
mutual
/-- an abstract value and a value: m tells where the numbers lie -/
inductive Rl (K : Gx) (m : List Addr) (H : Hp) : A → V → Prop
  | non : Rl K m H .non .non
  | bl (b : Bool) : Rl K m H (.bl b) (.bl b)
  | int (i : Int) : Rl K m H (.int i) (.int i)
  | str (x : Str) : Rl K m H (.str x) (.str x)
  | tup {a : Addr} {vs : List V} {xs : List A} : SqT K.K H a vs → Ra K m H xs vs → Rl K m H (.tup xs) (.ref a)
  | loc {n : Nat} {a : Addr} : m[n]? = some a → Rl K m H (.loc n) (.ref a)
  | cls (c : Nat) : Rl K m H (.cls c) (.ref (K.cl c))
  | ty (n : String) : Rl K m H (.ty n) (.ty n)
  | fz {a : Addr} {ns : List Int} : FzL K.K H a (ns.map V.int) → Rl K m H (.fz ns) (.ref a)
inductive Ra (K : Gx) (m : List Addr) (H : Hp) : List A → List V → Prop
  | nil : Ra K m H [] []
  | cons {x : A} {xs : List A} {v : V} {vs : List V} : Rl K m H x v → Ra K m H xs vs → Ra K m H (x :: xs) (v :: vs)
end
/-- pairs with names or keys ahead -/
def Rf {κ : Type} (K : Gx) (m : List Addr) (H : Hp) : List (κ × A) → List (κ × V) → Prop := Paired fun p q => p.1 = q.1 ∧ Rl K m H p.2 q.2
def OR (K : Gx) (m : List Addr) (H : Hp) (o : AO) (a : Addr) : Prop := match o with
  | .lst xs => ∃ vs, H a = some (.lst vs) ∧ Ra K m H xs vs
  | .dK kvs => ∃ ws, H a = some (.dK ws) ∧ Rf K m H kvs ws
  | .ins C fs => ∃ dx ws, H a = some (.ins (K.cl C) dx ws) ∧ Rf K m H fs ws
structure HR (K : Gx) (m : List Addr) (h : AH) (H : Hp) : Prop where
  len : m.length = h.length
  nd : m.Nodup
  ob : ∀ (n : Nat) (o : AO), h[n]? = some o → ∃ a, m[n]? = some a ∧ OR K m H o a
/-- onward: the numbers stay, all else that is tracked stands -/
structure Fw (m : List Addr) (H : Hp) (m' : List Addr) (H' : Hp) : Prop where
  pre : ∃ t, m' = m ++ t
  keep : ∀ b o, H b = some o → b ∉ m → H' b = some o
  new : ∀ b, b ∈ m' → b ∉ m → H b = none
theorem Fw.refl (m : List Addr) (H : Hp) : Fw m H m H := ⟨⟨[], (List.append_nil m).symm⟩, fun _ _ h _ => h, fun _ h n => absurd h n⟩
theorem Fw.sub {m m' : List Addr} {H H' : Hp} (f : Fw m H m' H') {b : Addr} (h : b ∈ m) : b ∈ m' := by
  obtain ⟨t, rfl⟩ := f.pre
  exact List.mem_append_left _ h
theorem Fw.trans {m m1 m2 : List Addr} {H H1 H2 : Hp} (f : Fw m H m1 H1) (g : Fw m1 H1 m2 H2) : Fw m H m2 H2 := by
  refine ⟨?_, fun b o h n => ?_, fun b h n => ?_⟩
  · obtain ⟨t, rfl⟩ := f.pre
    obtain ⟨u, rfl⟩ := g.pre
    exact ⟨t ++ u, by rw [List.append_assoc]⟩
  · refine g.keep b o (f.keep b o h n) fun z => ?_
    rw [f.new b z n] at h
    cases h
  · by_cases z : b ∈ m1
    · exact f.new b z n
    · have e := g.new b h z
      cases q : H b with
      | none => rfl
      | some o =>
        rw [f.keep b o q n] at e
        cases e
theorem Fw.at {m m' : List Addr} {H H' : Hp} (f : Fw m H m' H') {n : Nat} {a : Addr} (h : m[n]? = some a) : m'[n]? = some a := by
  obtain ⟨t, rfl⟩ := f.pre
  rw [List.getElem?_append_left (List.getElem?_eq_some_iff.mp h).1]
  exact h
/-- what stands at a number -/
theorem HR.kind {K : Gx} {m : List Addr} {h : AH} {H : Hp} (hr : HR K m h H) {a : Addr} (ha : a ∈ m) : (∃ vs, H a = some (.lst vs)) ∨ (∃ ws, H a = some (.dK ws)) ∨ ∃ C dx ws, H a = some (.ins C dx ws) := by
  obtain ⟨n, hn, e⟩ := List.getElem_of_mem ha
  have hn' : n < h.length := by
    rw [← hr.len]
    exact hn
  obtain ⟨b, hb, o⟩ := hr.ob n h[n] (List.getElem?_eq_getElem hn')
  rw [List.getElem?_eq_getElem hn, e] at hb
  cases hb
  cases q : h[n] with
  | lst xs =>
    rw [q] at o
    obtain ⟨vs, z, _⟩ := o
    exact .inl ⟨vs, z⟩
  | dK kvs =>
    rw [q] at o
    obtain ⟨vs, z, _⟩ := o
    exact .inr (.inl ⟨vs, z⟩)
  | ins C fs =>
    rw [q] at o
    obtain ⟨dx, vs, z, _⟩ := o
    exact .inr (.inr ⟨_, dx, vs, z⟩)
theorem HR.out {K : Gx} {m : List Addr} {h : AH} {H : Hp} (hr : HR K m h H) {a : Addr} (hn : H a = none) : a ∉ m := fun z => by
  rcases hr.kind z with ⟨_, e⟩ | ⟨_, e⟩ | ⟨_, _, _, e⟩ <;> (rw [hn] at e; cases e)
theorem SqT.fw {K : Gx} {m m' : List Addr} {h : AH} {H H' : Hp} (hr : HR K m h H) (f : Fw m H m' H') {a : Addr} {vs : List V} (s : SqT K.K H a vs) : SqT K.K H' a vs := by
  rcases s with (s | ⟨o, s⟩) | s
  · refine .inl (.inl (f.keep _ _ s fun z => ?_))
    rcases hr.kind z with ⟨_, e⟩ | ⟨_, e⟩ | ⟨_, _, _, e⟩ <;> (rw [s] at e; cases e)
  · refine .inl (.inr ⟨o, f.keep _ _ s fun z => ?_⟩)
    rcases hr.kind z with ⟨_, e⟩ | ⟨_, e⟩ | ⟨_, _, _, e⟩ <;> (rw [s] at e; cases e)
  · exact .inr s
theorem FzL.fw {K : Gx} {m m' : List Addr} {h : AH} {H H' : Hp} (hr : HR K m h H) (f : Fw m H m' H') {a : Addr} {vs : List V} (s : FzL K.K H a vs) : FzL K.K H' a vs := by
  rcases s with ⟨o, s⟩ | s
  · refine .inl ⟨o, f.keep _ _ s fun z => ?_⟩
    rcases hr.kind z with ⟨_, e⟩ | ⟨_, e⟩ | ⟨_, _, _, e⟩ <;> (rw [s] at e; cases e)
  · exact .inr s
mutual
theorem rl_fw {K : Gx} {m m' : List Addr} {h : AH} {H H' : Hp} (hr : HR K m h H) (f : Fw m H m' H') : ∀ (x : A) (v : V), Rl K m H x v → Rl K m' H' x v
  | .non, _, r => by cases r; exact .non
  | .bl b, _, r => by cases r; exact .bl b
  | .int i, _, r => by cases r; exact .int i
  | .str x, _, r => by cases r; exact .str x
  | .tup xs, _, r => by
    cases r with
    | tup s a => exact .tup (SqT.fw hr f s) (ra_fw hr f xs _ a)
  | .loc n, _, r => by
    cases r with
    | loc e => exact .loc (f.at e)
  | .cls c, _, r => by cases r; exact .cls c
  | .ty n, _, r => by cases r; exact .ty n
  | .fz ns, _, r => by
    cases r with
    | fz e => exact .fz (FzL.fw hr f e)
theorem ra_fw {K : Gx} {m m' : List Addr} {h : AH} {H H' : Hp} (hr : HR K m h H) (f : Fw m H m' H') : ∀ (xs : List A) (vs : List V), Ra K m H xs vs → Ra K m' H' xs vs
  | [], _, r => by cases r; exact .nil
  | x :: xs, _, r => by
    cases r with
    | cons a b => exact .cons (rl_fw hr f x _ a) (ra_fw hr f xs _ b)
end
theorem Rl.fw {K : Gx} {m m' : List Addr} {h : AH} {H H' : Hp} {x : A} {v : V} (r : Rl K m H x v) (hr : HR K m h H) (f : Fw m H m' H') : Rl K m' H' x v := rl_fw hr f x v r
theorem Ra.fw {K : Gx} {m m' : List Addr} {h : AH} {H H' : Hp} {x : List A} {v : List V} (r : Ra K m H x v) (hr : HR K m h H) (f : Fw m H m' H') : Ra K m' H' x v := ra_fw hr f x v r
theorem Rf.fw {κ : Type} {K : Gx} {m m' : List Addr} {h : AH} {H H' : Hp} (hr : HR K m h H) (f : Fw m H m' H') : ∀ {x : List (κ × A)} {v : List (κ × V)}, Rf K m H x v → Rf K m' H' x v
  | _, _, .nil => .nil
  | _, _, .cons a b => .cons ⟨a.1, a.2.fw hr f⟩ (Rf.fw hr f b)
section
variable {K : Gx} {m m' : List Addr} {h : AH} {H H' : Hp}
theorem Ra.len : ∀ {xs : List A} {vs : List V}, Ra K m H xs vs → xs.length = vs.length
  | _, _, .nil => rfl
  | _, _, .cons _ b => congrArg (· + 1) b.len
theorem Ra.get : ∀ {xs : List A} {vs : List V} {i : Nat} {x : A}, Ra K m H xs vs → xs[i]? = some x → ∃ v, vs[i]? = some v ∧ Rl K m H x v
  | _, _, _, _, .nil, e => by simp at e
  | _, _, 0, _, .cons a _, e => by
    simp at e
    subst e
    exact ⟨_, rfl, a⟩
  | _, _, i + 1, _, .cons _ b, e => by
    obtain ⟨v, h1, h2⟩ := Ra.get (i := i) b (by simpa using e)
    exact ⟨v, by simpa using h1, h2⟩
theorem Ra.app : ∀ {xs ys : List A} {vs ws : List V}, Ra K m H xs vs → Ra K m H ys ws → Ra K m H (xs ++ ys) (vs ++ ws)
  | _, _, _, _, .nil, r => r
  | _, _, _, _, .cons a b, r => .cons a (b.app r)
theorem Ra.snoc {xs : List A} {vs : List V} {x : A} {v : V} (r : Ra K m H xs vs) (q : Rl K m H x v) : Ra K m H (xs ++ [x]) (vs ++ [v]) := r.app (.cons q .nil)
theorem Ra.setA {x : A} {v : V} (q : Rl K m H x v) : ∀ {xs : List A} {vs : List V} (i : Nat), Ra K m H xs vs → Ra K m H (xs.set i x) (vs.set i v)
  | _, _, _, .nil => .nil
  | _, _, 0, .cons _ b => .cons q b
  | _, _, i + 1, .cons a b => .cons a (Ra.setA q i b)
theorem Ra.erase : ∀ {xs : List A} {vs : List V} (i : Nat), Ra K m H xs vs → Ra K m H (xs.eraseIdx i) (vs.eraseIdx i)
  | _, _, _, .nil => .nil
  | _, _, 0, .cons _ b => b
  | _, _, i + 1, .cons a b => .cons a (Ra.erase i b)
theorem Ra.take : ∀ {xs : List A} {vs : List V} (n : Nat), Ra K m H xs vs → Ra K m H (xs.take n) (vs.take n)
  | _, _, 0, _ => .nil
  | _, _, _ + 1, .nil => .nil
  | _, _, n + 1, .cons a b => .cons a (Ra.take n b)
theorem Ra.drop : ∀ {xs : List A} {vs : List V} (n : Nat), Ra K m H xs vs → Ra K m H (xs.drop n) (vs.drop n)
  | _, _, 0, r => r
  | _, _, _ + 1, .nil => .nil
  | _, _, n + 1, .cons _ b => Ra.drop n b
theorem Ra.dropLast {xs : List A} {vs : List V} (r : Ra K m H xs vs) : Ra K m H xs.dropLast vs.dropLast := by
  rw [List.dropLast_eq_take, List.dropLast_eq_take, r.len]
  exact r.take _
theorem Ra.rev : ∀ {xs : List A} {vs : List V}, Ra K m H xs vs → Ra K m H xs.reverse vs.reverse
  | _, _, .nil => .nil
  | _, _, .cons a b => by
    rw [List.reverse_cons, List.reverse_cons]
    exact b.rev.snoc a
theorem Rf.look {x : Str} : ∀ {fs : List (Str × A)} {ws : List (Str × V)} {a : A}, Rf K m H fs ws → fs.lookup x = some a → ∃ v, ws.lookup x = some v ∧ Rl K m H a v
  | _, _, _, .nil, e => by cases e
  | (f, b) :: fs, (g, w) :: ws, a, .cons ⟨e1, r⟩ t, e => by
    cases e1
    unfold List.lookup at e ⊢
    cases q : x == f with
    | true =>
      rw [q] at e
      cases e
      exact ⟨w, rfl, r⟩
    | false =>
      rw [q] at e
      exact Rf.look t e
theorem Rf.noLook {x : Str} : ∀ {fs : List (Str × A)} {ws : List (Str × V)}, Rf K m H fs ws → fs.lookup x = none → ws.lookup x = none
  | _, _, .nil, e => rfl
  | (f, b) :: fs, (g, w) :: ws, .cons ⟨e1, r⟩ t, e => by
    cases e1
    unfold List.lookup at e ⊢
    cases q : x == f with
    | true =>
      rw [q] at e
      cases e
    | false =>
      rw [q] at e
      exact Rf.noLook t e
/-- a new object -/
theorem Fw.new1 (hr : HR K m h H) {p : Addr} (hp : H p = none) (ho : HO) : Fw m H (m ++ [p]) (upd H p ho) := by
  refine ⟨⟨[p], rfl⟩, fun b o hb n => ?_, fun b hb n => ?_⟩
  · rw [upd_ne (ne_of_none hb hp)]
    exact hb
  · rcases List.mem_append.mp hb with z | z
    · exact absurd z n
    · rw [List.mem_singleton.mp z]
      exact hp
/-- a tuple, or any other thing that no number has -/
theorem Fw.new0 {p : Addr} (hp : H p = none) (ho : HO) : Fw m H m (upd H p ho) :=
  ⟨⟨[], (List.append_nil m).symm⟩, fun b o hb n => by
    rw [upd_ne (ne_of_none hb hp)]
    exact hb, fun _ h n => absurd h n⟩
theorem Fw.ex (e : Evl.Ex H H') : Fw m H m H' := ⟨⟨[], (List.append_nil m).symm⟩, fun b o hb _ => e b o hb, fun _ h n => absurd h n⟩
theorem OR.fw {o : AO} {a : Addr} (r : OR K m H o a) (hr : HR K m h H) (f : Fw m H m' H') (e : H' a = H a) : OR K m' H' o a := by
  cases o with
  | lst xs =>
    obtain ⟨vs, z, r⟩ := r
    exact ⟨vs, e.trans z, r.fw hr f⟩
  | dK kvs =>
    obtain ⟨vs, z, r⟩ := r
    exact ⟨vs, e.trans z, Rf.fw hr f r⟩
  | ins C fs =>
    obtain ⟨dx, vs, z, r⟩ := r
    exact ⟨dx, vs, e.trans z, Rf.fw hr f r⟩
theorem HR.new1 (hr : HR K m h H) {p : Addr} (hp : H p = none) {ho : HO} {o : AO} (q : OR K (m ++ [p]) (upd H p ho) o p) : HR K (m ++ [p]) (h ++ [o]) (upd H p ho) := by
  have out := hr.out hp
  refine ⟨by rw [List.length_append, List.length_append, hr.len]; rfl, ?_, fun n u e => ?_⟩
  · rw [List.nodup_append]
    refine ⟨hr.nd, by simp, fun a ha b hb => ?_⟩
    rw [List.mem_singleton.mp hb]
    exact fun z => out (z ▸ ha)
  · by_cases hn : n < h.length
    · rw [List.getElem?_append_left hn] at e
      obtain ⟨a, h1, h2⟩ := hr.ob n u e
      have ha : a ∈ m := List.mem_of_getElem? h1
      refine ⟨a, (Fw.new1 hr hp ho).at h1, h2.fw hr (Fw.new1 hr hp ho) (upd_ne fun z => out (z ▸ ha))⟩
    · rw [List.getElem?_append_right (by omega)] at e
      have hz : n - h.length = 0 := by
        have := (List.getElem?_eq_some_iff.mp e).1
        simp at this
        omega
      rw [hz] at e
      cases e
      have en : n = m.length := by rw [hr.len]; omega
      refine ⟨p, ?_, q⟩
      rw [en, List.getElem?_append_right (Nat.le_refl _), Nat.sub_self]
      rfl
theorem HR.new0 (hr : HR K m h H) {p : Addr} (hp : H p = none) (ho : HO) : HR K m h (upd H p ho) :=
  ⟨hr.len, hr.nd, fun n o e => by
    obtain ⟨a, h1, h2⟩ := hr.ob n o e
    exact ⟨a, h1, h2.fw hr (Fw.new0 hp ho) (upd_ne fun z => hr.out hp (z ▸ List.mem_of_getElem? h1))⟩⟩
theorem HR.ex (hr : HR K m h H) (e : Evl.Ex H H') : HR K m h H' :=
  ⟨hr.len, hr.nd, fun n o q => by
    obtain ⟨a, h1, h2⟩ := hr.ob n o q
    refine ⟨a, h1, h2.fw hr (Fw.ex e) ?_⟩
    rcases hr.kind (List.mem_of_getElem? h1) with ⟨_, z⟩ | ⟨_, z⟩ | ⟨_, _, _, z⟩ <;> (rw [z]; exact e _ _ z)⟩
/-- an object is changed -/
theorem Fw.put {a : Addr} (ha : a ∈ m) (ho : HO) : Fw m H m (upd H a ho) :=
  ⟨⟨[], (List.append_nil m).symm⟩, fun b o hb n => by
    have nb : b ≠ a := fun z => n (by rw [z]; exact ha)
    rw [upd_ne nb]
    exact hb, fun _ h n => absurd h n⟩
theorem HR.put (hr : HR K m h H) {n : Nat} {a : Addr} (hn : m[n]? = some a) {ho : HO} {o : AO} (q : OR K m (upd H a ho) o a) : HR K m (h.set n o) (upd H a ho) := by
  have ha : a ∈ m := List.mem_of_getElem? hn
  refine ⟨by rw [List.length_set]; exact hr.len, hr.nd, fun k u e => ?_⟩
  by_cases hk : k = n
  · subst hk
    have hl : k < h.length := by
      rw [← hr.len]
      exact (List.getElem?_eq_some_iff.mp hn).1
    rw [List.getElem?_set_self hl] at e
    cases e
    exact ⟨a, hn, q⟩
  · rw [List.getElem?_set_ne (Ne.symm hk)] at e
    obtain ⟨b, h1, h2⟩ := hr.ob k u e
    refine ⟨b, h1, h2.fw hr (Fw.put ha ho) (upd_ne fun z => hk ?_)⟩
    subst z
    have l1 := (List.getElem?_eq_some_iff.mp h1)
    have l2 := (List.getElem?_eq_some_iff.mp hn)
    obtain ⟨a1, b1⟩ := l1
    obtain ⟨a2, b2⟩ := l2
    rcases Nat.lt_trichotomy k n with l | l | l
    · exact absurd (b1.trans b2.symm) (List.pairwise_iff_getElem.mp hr.nd k n a1 a2 l)
    · exact l
    · exact absurd (b2.trans b1.symm) (List.pairwise_iff_getElem.mp hr.nd n k a2 a1 l)
theorem HR.lstA (hr : HR K m h H) {n : Nat} {a : Addr} {xs : List A} (hn : m[n]? = some a) (ho : h[n]? = some (.lst xs)) : ∃ vs, H a = some (.lst vs) ∧ Ra K m H xs vs := by
  obtain ⟨b, h1, h2⟩ := hr.ob n _ ho
  rw [hn] at h1
  cases h1
  exact h2
/-- a list that is read -/
def rdAt (h : AH) (n : Nat) : Option (List A) := match h[n]? with
  | some (.lst xs) => some xs
  | _ => none
theorem HR.rdA (hr : HR K m h H) {n : Nat} {a : Addr} {xs : List A} (hn : m[n]? = some a) (e : rdAt h n = some xs) : ∃ vs, SqL K.K H a vs ∧ Ra K m H xs vs := by
  unfold rdAt at e
  cases q : h[n]? with
  | none =>
    rw [q] at e
    cases e
  | some o =>
    rw [q] at e
    cases o with
    | lst ys =>
      cases e
      obtain ⟨vs, h1, h2⟩ := hr.lstA hn q
      exact ⟨vs, .inl (.inl h1), h2⟩
    | dK k => cases e
    | ins C f => cases e
theorem HR.dKA (hr : HR K m h H) {n : Nat} {a : Addr} {xs : List (Key × A)} (hn : m[n]? = some a) (ho : h[n]? = some (.dK xs)) : ∃ vs, H a = some (.dK vs) ∧ Rf K m H xs vs := by
  obtain ⟨b, h1, h2⟩ := hr.ob n _ ho
  rw [hn] at h1
  cases h1
  exact h2
theorem HR.insA (hr : HR K m h H) {n C : Nat} {a : Addr} {xs : List (Str × A)} (hn : m[n]? = some a) (ho : h[n]? = some (.ins C xs)) : ∃ dx vs, H a = some (.ins (K.cl C) dx vs) ∧ Rf K m H xs vs := by
  obtain ⟨b, h1, h2⟩ := hr.ob n _ ho
  rw [hn] at h1
  cases h1
  exact h2
end
/-- the slots -/
structure RS (K : Gx) (m : List Addr) (H : Hp) (ρ : AS) (σ : L2.St) : Prop where
  len : ρ.length = σ.length
  get : ∀ (i : Nat) (a : A), ρ[i]? = some (some a) → ∃ v, σ[i]? = some (some v) ∧ Rl K m H a v
section
variable {K : Gx} {m m' : List Addr} {h : AH} {H H' : Hp} {ρ : AS} {σ : L2.St}
theorem RS.fw (r : RS K m H ρ σ) (hr : HR K m h H) (f : Fw m H m' H') : RS K m' H' ρ σ := ⟨r.len, fun i a e => by
  obtain ⟨v, h1, h2⟩ := r.get i a e
  exact ⟨v, h1, h2.fw hr f⟩⟩
theorem RS.set (r : RS K m H ρ σ) {a : A} {v : V} (q : Rl K m H a v) (i : Nat) : RS K m H (ρ.set i (some a)) (σ.set i (some v)) := by
  refine ⟨by rw [List.length_set, List.length_set, r.len], fun j b e => ?_⟩
  by_cases hj : i = j
  · subst hj
    have hl := (List.getElem?_eq_some_iff.mp e).1
    rw [List.length_set] at hl
    rw [List.getElem?_set_self hl] at e
    cases e
    rw [List.getElem?_set_self (by rw [← r.len]; exact hl)]
    exact ⟨v, rfl, q⟩
  · rw [List.getElem?_set_ne hj] at e ⊢
    exact r.get j b e
theorem RS.setN (r : RS K m H ρ σ) (o : Option V) (i : Nat) : RS K m H (ρ.set i none) (σ.set i o) := by
  refine ⟨by rw [List.length_set, List.length_set, r.len], fun j b e => ?_⟩
  by_cases hj : i = j
  · subst hj
    have hl := (List.getElem?_eq_some_iff.mp e).1
    rw [List.length_set] at hl
    rw [List.getElem?_set_self hl] at e
    cases e
  · rw [List.getElem?_set_ne hj] at e ⊢
    exact r.get j b e
end
/-! ### what is wanted behind -/
/-- an exception's own dict -/
def XD (K : Gx) (m : List Addr) (H : Hp) (fs : Option (List (Str × A))) (d : Option Addr) : Prop := match fs with
  | none => d = none
  | some fs => ∃ x ws, d = some x ∧ H x = some (.xd ws) ∧ Rf K m H fs ws
def Post {α β : Type} (K : Gx) (W : WX) (R : List Addr → Hp → α → β → Prop) (m : List Addr) (σ : L2.St) (H : Hp) (r : Res α) (Q : β → Hp → Prop) : Prop := match r with
  | .ok a h' => ∀ m' v H', Fw m H m' H' → HR K m' h' H' → R m' H' a v → Q v H'
  | .exc c fs h' => ∀ m' d H', Fw m H m' H' → HR K m' h' H' → XD K m' H' fs d → W (.ref (K.cl c)) d σ H'
  | .bad => False
def tOf {α β : Type} (K : Gx) (W : WX) (R : List Addr → Hp → α → β → Prop) (ev : AS → AH → Res α) : L2.St → Hp → (β → Hp → Prop) → Prop := fun σ H Q =>
  ∃ m ρ h, HR K m h H ∧ RS K m H ρ σ ∧ Post K W R m σ H (ev ρ h) Q
def RB (_ : List Addr) (_ : Hp) (a b : Bool) : Prop := a = b
section
variable {α β γ δ : Type} {K : Gx} {W : WX} {R : List Addr → Hp → α → β → Prop} {R2 : List Addr → Hp → γ → δ → Prop} {m m1 : List Addr} {σ : L2.St} {h h1 : AH} {H H1 : Hp} {Q : β → Hp → Prop} {Q2 : δ → Hp → Prop} {ρ : AS}
theorem Post.fw {r : Res α} (p : Post K W R m σ H r Q) (f : Fw m H m1 H1) : Post K W R m1 σ H1 r Q := by
  cases r with
  | ok a h' => exact fun m' v H' g => p m' v H' (f.trans g)
  | exc c fs h' => exact fun m' v H' g => p m' v H' (f.trans g)
  | bad => exact p
theorem Post.bind {r : Res α} {k : α → AH → Res γ} (p : Post K W R2 m σ H (r.bind k) Q2)
    (q : ∀ a h1 m1 v1 H1, r = .ok a h1 → Fw m H m1 H1 → HR K m1 h1 H1 → R m1 H1 a v1 → Post K W R2 m1 σ H1 (k a h1) Q2 → Q v1 H1) : Post K W R m σ H r Q := by
  cases r with
  | ok a h' => exact fun m' v H' g hr rl => q a h' m' v H' rfl g hr rl (Post.fw (r := k a h') p g)
  | exc c fs h' => exact p
  | bad => exact p
theorem Post.fin {a : α} {v : β} (p : Post K W R m σ H (.ok a h1) Q) (f : Fw m H m1 H1) (hr : HR K m1 h1 H1) (r : R m1 H1 a v) : Q v H1 := p m1 v H1 f hr r
theorem Post.fin0 {a : α} {v : β} (p : Post K W R m σ H (.ok a h) Q) (hr : HR K m h H) (r : R m H a v) : Q v H := p m v H (Fw.refl m H) hr r
end
abbrev DE (X : Cx) (cl : Nat → Addr) (W : WX) (e : Expr) (ev : AE) : Prop := PE X e (tOf ⟨X.K, cl⟩ W (Rl ⟨X.K, cl⟩) ev)
abbrev DT (X : Cx) (cl : Nat → Addr) (W : WX) (e : Expr) (ev : AT) : Prop := PT X e (tOf ⟨X.K, cl⟩ W RB ev)
abbrev DW (X : Cx) (cl : Nat → Addr) (W : WX) (e : Expr) (ev : AT) : Prop := PW X e (tOf ⟨X.K, cl⟩ W RB ev)
abbrev DA (X : Cx) (cl : Nat → Addr) (W : WX) (es : List Expr) (ev : AL) : Prop := PA X es (tOf ⟨X.K, cl⟩ W (Ra ⟨X.K, cl⟩) ev)
theorem peM {X : Cx} {e : Expr} {t u : TE} (h : PE X e t) (q : ∀ σ H Q, u σ H Q → t σ H Q) : PE X e u := ⟨fun pins s σ H Q I w => h.run pins s σ H Q I (q σ H Q w)⟩
theorem ptM {X : Cx} {e : Expr} {t u : TT} (h : PT X e t) (q : ∀ σ H Q, u σ H Q → t σ H Q) : PT X e u := ⟨fun pins s σ H Q I w => h.run pins s σ H Q I (q σ H Q w)⟩
theorem pwM {X : Cx} {e : Expr} {t u : TT} (h : PW X e t) (q : ∀ σ H Q, u σ H Q → t σ H Q) : PW X e u := ⟨fun wh pins s σ H Q I w => h.run wh pins s σ H Q I (q σ H Q w)⟩
theorem paM {X : Cx} {es : List Expr} {t u : TA} (h : PA X es t) (q : ∀ σ H Q, u σ H Q → t σ H Q) : PA X es u := ⟨fun pos pins s σ H Q I w => h.run pos pins s σ H Q I (q σ H Q w)⟩
theorem psM {X : Cx} {st : Stmt} {t u : TS} (h : PS X st t) (q : ∀ D σ H, u D σ H → t D σ H) : PS X st u := ⟨fun pins s σ H D I w => h.run pins s σ H D I (q D σ H w)⟩
theorem pssM {X : Cx} {st : List Stmt} {t u : TS} (h : PSs X st t) (q : ∀ D σ H, u D σ H → t D σ H) : PSs X st u := ⟨fun pins s σ H D I w => h.run pins s σ H D I (q D σ H w)⟩
end SA
set_option Elab.async false
set_option linter.all false
set_option maxRecDepth 100000
set_option maxHeartbeats 4000000
/-! SB: expressions. -/
namespace SA
open PySem PySem.Spec PyProof.Rows L2
/-! ### names, constants, arguments -/
def aVar (i : Nat) : AE := fun ρ h => match ρ[i]? with
  | some (some a) => .ok a h
  | _ => .bad
def aC (a : A) : AE := fun _ h => .ok a h
def aNil : AL := fun _ h => .ok [] h
def aCons (e : AE) (r : AL) : AL := fun ρ h => (e ρ h).bind fun x h1 => (r ρ h1).bind fun xs h2 => .ok (x :: xs) h2
def aTup (r : AL) : AE := fun ρ h => (r ρ h).bind fun xs h1 => if xs.length ≤ 100000 then .ok (.tup xs) h1 else .bad
def aLst (r : AL) : AE := fun ρ h => (r ρ h).bind fun xs h1 => if xs.length ≤ 100000 then .ok (.loc h1.length) (h1 ++ [.lst xs]) else .bad
def aBin (f : A → A → AH → Res A) (a b : AE) : AE := fun ρ h => (a ρ h).bind fun x h1 => (b ρ h1).bind fun y h2 => f x y h2
def aUn (f : A → AH → Res A) (a : AE) : AE := fun ρ h => (a ρ h).bind fun x h1 => f x h1
def aTest (e : AE) : AT := fun ρ h => (e ρ h).bind fun x h1 => match x with
  | .bl b => .ok b h1
  | _ => .bad
/-- the length of a list, told up to the line -/
theorem le_line {n : Nat} (h : n ≤ 100000) : n ≤ sizeLine := Nat.le_trans h (by decide)
abbrev SimR (K : Gx) (r : R2) (f : A → A → AH → Res A) : Prop := ∀ (W : WX) (m : List Addr) (σ : L2.St) (h : AH) (H : Hp) (x y : A) (u v : V) (Q : VK), HR K m h H → Rl K m H x u → Rl K m H y v → Post K W (Rl K) m σ H (f x y h) Q → r u v H Q
abbrev SimU (K : Gx) (r : V → Hp → VK → Prop) (f : A → AH → Res A) : Prop := ∀ (W : WX) (m : List Addr) (σ : L2.St) (h : AH) (H : Hp) (x : A) (u : V) (Q : VK), HR K m h H → Rl K m H x u → Post K W (Rl K) m σ H (f x h) Q → r u H Q
abbrev SimC (K : Gx) (r : List V → Hp → VK → Prop) (f : List A → AH → Res A) : Prop := ∀ (W : WX) (m : List Addr) (σ : L2.St) (h : AH) (H : Hp) (xs : List A) (us : List V) (Q : VK), HR K m h H → Ra K m H xs us → Post K W (Rl K) m σ H (f xs h) Q → r us H Q
section
variable {X : Cx} {cl : Nat → Addr} {W : WX} {a b c e : Expr} {ea eb ee : AE} {pos : Pos} {es : List Expr} {er : AL}
theorem de_var {i : Nat} {x : Str} (hN : X.N[i]? = some x) (hv : Vis X.env.scope x) (hd : (x == ("__debug__" : Str)) = false := by decide) (hcd : (x == ("__classdict__" : Str)) = false := by decide) : DE X cl W (.Name x pos) (aVar i) :=
  peM (pe_var hN hv hd hcd) fun σ H Q ⟨m, ρ, h, hr, rs, p⟩ => by
    unfold aVar at p
    cases q : ρ[i]? with
    | none =>
      rw [q] at p
      exact p.elim
    | some o =>
      rw [q] at p
      cases o with
      | none => exact p.elim
      | some a =>
        obtain ⟨v, h1, h2⟩ := rs.get i a q
        exact ⟨v, h1, p.fin0 hr h2⟩
theorem de_c {x : A} {v : V} (he : PE X e (tC v)) (r : ∀ m H, Rl ⟨X.K, cl⟩ m H x v) : DE X cl W e (aC x) := peM he fun σ H Q ⟨m, ρ, h, hr, rs, p⟩ => p.fin0 hr (r m H)
theorem de_int {i : Int} {j} : DE X cl W (.Constant (.int i) j pos) (aC (.int i)) := de_c pe_int fun _ _ => .int i
theorem de_bl {i : Bool} {j} : DE X cl W (.Constant (.bool i) j pos) (aC (.bl i)) := de_c pe_bl fun _ _ => .bl i
theorem de_non {j} : DE X cl W (.Constant .none j pos) (aC .non) := de_c pe_non fun _ _ => .non
theorem de_str {i : Str} {j} : DE X cl W (.Constant (.str i) j pos) (aC (.str i)) := de_c pe_str fun _ _ => .str i
theorem de_glob {x : Str} {v : V} {y : A} {u : Value} (hg : Gl X x) (hm : X.mg x = some u) (r : RelV v u) (q : ∀ m H, Rl ⟨X.K, cl⟩ m H y v) (hd : (x == ("__debug__" : Str)) = false := by decide) : DE X cl W (.Name x pos) (aC y) := de_c (pe_glob hg hm r hd) q
theorem da_nil : DA X cl W [] aNil := paM pa_nil fun σ H Q ⟨m, ρ, h, hr, rs, p⟩ => p.fin0 hr .nil
theorem da_cons (he : DE X cl W e ee) (hr : DA X cl W es er) (hs : starEach (e :: es) X.env = (false, eval e X.env) :: starEach es X.env := by rfl) : DA X cl W (e :: es) (aCons ee er) :=
  paM (pa_cons he hr hs) fun σ H Q ⟨m, ρ, h, hr, rs, p⟩ => ⟨m, ρ, h, hr, rs, Post.bind p fun x h1 m1 v1 H1 e1 f1 hr1 r1 p1 => ⟨m1, ρ, h1, hr1, rs.fw hr f1, Post.bind p1 fun xs h2 m2 vs H2 e2 f2 hr2 r2 p2 => p2.fin0 hr2 (.cons (r1.fw hr1 f2) r2)⟩⟩
theorem de_tup {x1} (hr : DA X cl W es er) : DE X cl W (.Tuple es x1 pos) (aTup er) :=
  peM (pe_tup hr) fun σ H Q ⟨m, ρ, h, hr, rs, p⟩ => ⟨m, ρ, h, hr, rs, Post.bind p fun xs h1 m1 vs H1 e1 f1 hr1 r1 p1 => by
    by_cases z : xs.length ≤ 100000
    · rw [if_pos z] at p1
      refine ⟨le_line (by rw [← r1.len]; exact z), fun q hq => ?_⟩
      refine p1.fin (Fw.new0 hq _) (hr1.new0 hq _) (.tup (SqT.of upd_same) (r1.fw hr1 (Fw.new0 hq _)))
    · rw [if_neg z] at p1
      exact p1.elim⟩
theorem newLst {K : Gx} {m : List Addr} {h : AH} {H : Hp} (hr : HR K m h H) {p : Addr} (hp : H p = none) {xs : List A} {vs : List V} (r : Ra K m H xs vs) : HR K (m ++ [p]) (h ++ [.lst xs]) (upd H p (.lst vs)) ∧ Fw m H (m ++ [p]) (upd H p (.lst vs)) ∧ Rl K (m ++ [p]) (upd H p (.lst vs)) (.loc h.length) (.ref p) := by
  refine ⟨hr.new1 hp ⟨vs, upd_same, r.fw hr (Fw.new1 hr hp _)⟩, Fw.new1 hr hp _, .loc ?_⟩
  rw [← hr.len, List.getElem?_append_right (Nat.le_refl _), Nat.sub_self]
  rfl
theorem de_lst (hr : DA X cl W es er) : DE X cl W (.List es pos) (aLst er) :=
  peM (pe_lst hr) fun σ H Q ⟨m, ρ, h, hr, rs, p⟩ => ⟨m, ρ, h, hr, rs, Post.bind p fun xs h1 m1 vs H1 e1 f1 hr1 r1 p1 => by
    by_cases z : xs.length ≤ 100000
    · rw [if_pos z] at p1
      refine ⟨le_line (by rw [← r1.len]; exact z), fun q hq => ?_⟩
      obtain ⟨n1, n2, n3⟩ := newLst hr1 hq r1
      exact p1.fin n2 n1 n3
    · rw [if_neg z] at p1
      exact p1.elim⟩
/-! ### operators -/
theorem sim_op {K : Gx} {r : R2} {f : A → A → AH → Res A} (s : SimR K r f) {σ : L2.St} {H : Hp} {Q : VK} (q : tOf K W (Rl K) (aBin f ea eb) σ H Q) : tOp r (tOf K W (Rl K) ea) (tOf K W (Rl K) eb) σ H Q := by
  obtain ⟨m, ρ, h, hr, rs, p⟩ := q
  exact ⟨m, ρ, h, hr, rs, Post.bind p fun x h1 m1 v1 H1 e1 f1 hr1 r1 p1 => ⟨m1, ρ, h1, hr1, rs.fw hr f1, Post.bind p1 fun y h2 m2 v2 H2 e2 f2 hr2 r2 p2 => s W m2 σ h2 H2 x y v1 v2 Q hr2 (r1.fw hr1 f2) r2 p2⟩⟩
theorem de_op {op : Operator} {r : R2} {f : A → A → AH → Res A} (ho : OpR X (binaryOp op) r) (s : SimR ⟨X.K, cl⟩ r f) (ha : DE X cl W a ea) (hb : DE X cl W b eb) : DE X cl W (.BinOp a op b pos) (aBin f ea eb) := peM (pe_op ho ha hb) fun _ _ _ q => sim_op s q
theorem de_un {op : UnaryOp} {r : V → Hp → VK → Prop} {f : A → AH → Res A} (ho : UnR X (unaryOp op) r) (s : SimU ⟨X.K, cl⟩ r f) (ha : DE X cl W a ea) : DE X cl W (.UnaryOp op a pos) (aUn f ea) :=
  peM (pe_un ho ha) fun σ H Q ⟨m, ρ, h, hr, rs, p⟩ => ⟨m, ρ, h, hr, rs, Post.bind p fun x h1 m1 v1 H1 e1 f1 hr1 r1 p1 => s W m1 σ h1 H1 x v1 Q hr1 r1 p1⟩
theorem de_cmp {op : CmpOp} {r : R2} {f : A → A → AH → Res A} (ho : OpR X (compareOp op) r) (s : SimR ⟨X.K, cl⟩ r f) (ha : DE X cl W a ea) (hb : DE X cl W b eb) (hm : behindInMarks op b = false) : DE X cl W (.Compare a [op] [b] pos) (aBin f ea eb) := peM (pe_cmpR ho ha hb hm) fun _ _ _ q => sim_op s q
theorem sim_test {K : Gx} {ev : AE} {t : TE} {σ : L2.St} {H : Hp} {Q : Bool → Hp → Prop} (s : ∀ Q', tOf K W (Rl K) ev σ H Q' → t σ H Q') (q : tOf K W RB (aTest ev) σ H Q) : tTest t σ H Q := by
  obtain ⟨m, ρ, h, hr, rs, p⟩ := q
  refine s _ ⟨m, ρ, h, hr, rs, Post.bind p fun x h1 m1 v1 H1 e1 f1 hr1 r1 p1 => ?_⟩
  cases r1 with
  | bl b => exact ⟨b, rfl, p1.fin0 hr1 rfl⟩
  | _ => exact p1.elim
theorem dt_cmp {op : CmpOp} {r : R2} {f : A → A → AH → Res A} (ho : OpR X (compareOp op) r) (s : SimR ⟨X.K, cl⟩ r f) (ha : DE X cl W a ea) (hb : DE X cl W b eb) (hm : behindInMarks op b = false) : DT X cl W (.Compare a [op] [b] pos) (aTest (aBin f ea eb)) := ptM (pt_cmpR ho ha hb hm) fun _ _ _ q => sim_test (fun _ q' => sim_op s q') q
/-! ### a < b < c -/
def aChain (f g : A → A → AH → Res A) (a b c : AE) : AE := fun ρ h => (a ρ h).bind fun x h1 => (b ρ h1).bind fun y h2 => (f x y h2).bind fun z h3 => match z with
  | .bl true => (c ρ h3).bind fun w h4 => g y w h4
  | .bl false => .ok (.bl false) h3
  | _ => .bad
/-- an operation that leaves the heap as it is -/
abbrev SimP (K : Gx) (r : R2) (f : A → A → AH → Res A) : Prop := SimR K r f
theorem sim_chain {K : Gx} {r r' : R2} {f g : A → A → AH → Res A} {ec : AE} (s : SimR K r f) (s' : SimR K r' g) {σ : L2.St} {H : Hp} {Q : VK} (q : tOf K W (Rl K) (aChain f g ea eb ec) σ H Q) : tChain r r' (tOf K W (Rl K) ea) (tOf K W (Rl K) eb) (tOf K W (Rl K) ec) σ H Q := by
  obtain ⟨m, ρ, h, hr, rs, p⟩ := q
  refine ⟨m, ρ, h, hr, rs, Post.bind p fun x h1 m1 v1 H1 e1 f1 hr1 r1 p1 => ⟨m1, ρ, h1, hr1, rs.fw hr f1, Post.bind p1 fun y h2 m2 v2 H2 e2 f2 hr2 r2 p2 => s W m2 σ h2 H2 x y v1 v2 _ hr2 (r1.fw hr1 f2) r2 (Post.bind p2 fun z h3 m3 v3 H3 e3 f3 hr3 r3 p3 => ?_)⟩⟩
  cases r3 with
  | bl k =>
    refine ⟨k, rfl, ?_⟩
    cases k with
    | true => exact iteT ⟨m3, ρ, h3, hr3, (rs.fw hr f1).fw hr1 (f2.trans f3), Post.bind p3 fun w h4 m4 v4 H4 e4 f4 hr4 r4 p4 => s' W m4 σ h4 H4 y w v2 v4 Q hr4 (r2.fw hr2 (f3.trans f4)) r4 p4⟩
    | false => exact iteF (p3.fin0 hr3 (.bl false))
  | _ => exact p3.elim
theorem de_chain {op op' : CmpOp} {r r' : R2} {f g : A → A → AH → Res A} {ec : AE} (ho : OpR X (compareOp op) r) (ho' : OpR X (compareOp op') r') (s : SimR ⟨X.K, cl⟩ r f) (s' : SimR ⟨X.K, cl⟩ r' g) (ha : DE X cl W a ea) (hb : DE X cl W b eb) (hc : DE X cl W c ec)
    (hm : lastMarks [op, op'] [b, c] = false := by with_unfolding_all rfl) : DE X cl W (.Compare a [op, op'] [b, c] pos) (aChain f g ea eb ec) := peM (pe_chain ho ho' ha hb hc hm) fun _ _ _ q => sim_chain s s' q
theorem dt_chain {op op' : CmpOp} {r r' : R2} {f g : A → A → AH → Res A} {ec : AE} (ho : OpR X (compareOp op) r) (ho' : OpR X (compareOp op') r') (s : SimR ⟨X.K, cl⟩ r f) (s' : SimR ⟨X.K, cl⟩ r' g) (ha : DE X cl W a ea) (hb : DE X cl W b eb) (hc : DE X cl W c ec)
    (hm : lastMarks [op, op'] [b, c] = false := by with_unfolding_all rfl) : DT X cl W (.Compare a [op, op'] [b, c] pos) (aTest (aChain f g ea eb ec)) := ptM (pt_chain ho ho' ha hb hc hm) fun _ _ _ q => sim_test (fun _ q' => sim_chain s s' q') q
/-! ### truth -/
def truO : Option AO → Option Bool
  | some (.lst xs) => some (!xs.isEmpty)
  | some (.dK kvs) => some (!kvs.isEmpty)
  | _ => none
def truA (h : AH) : A → Option Bool
  | .non => some false
  | .bl b => some b
  | .int i => some (i != 0)
  | .str y => if y.length ≤ 100000 then some ((y.length : Int) != 0) else none
  | .tup xs => some (!xs.isEmpty)
  | .loc n => truO h[n]?
  | _ => none
theorem Ra.emp {K : Gx} {m : List Addr} {H : Hp} {xs : List A} {vs : List V} (r : Ra K m H xs vs) : xs.isEmpty = vs.isEmpty := by
  cases r <;> rfl
theorem tru_rel {K : Gx} {m : List Addr} {h : AH} {H : Hp} (hr : HR K m h H) {x : A} {v : V} {b : Bool} (r : Rl K m H x v) (e : truA h x = some b) : TruV K.K v H b := by
  cases r with
  | non =>
    cases e
    exact rfl
  | bl c =>
    cases e
    exact rfl
  | int i =>
    cases e
    exact rfl
  | str y =>
    have e' : (if y.length ≤ 100000 then some ((y.length : Int) != 0) else none) = some b := e
    split at e'
    · cases e'
      exact ⟨le_line (by assumption), rfl⟩
    · cases e'
  | tup s ra =>
    cases e
    exact .inr (.inl ⟨_, s, by rw [ra.emp]⟩)
  | loc hn =>
    rename_i n a
    have e : truO h[n]? = some b := e
    cases q : h[n]? with
    | none =>
      rw [q] at e
      cases e
    | some o =>
      rw [q] at e
      cases o with
      | lst xs =>
        cases e
        obtain ⟨vs, h1, h2⟩ := hr.lstA hn q
        exact .inl ⟨vs, SqL.of h1, by rw [h2.emp]⟩
      | dK kvs =>
        cases e
        obtain ⟨vs, h1, h2⟩ := hr.dKA hn q
        refine .inr (.inr ⟨vs, h1, ?_⟩)
        cases h2 <;> rfl
      | ins C fs => cases e
  | cls c => cases e
  | ty n => cases e
  | fz n => cases e
def aTru (e : AE) : AT := fun ρ h => (e ρ h).bind fun x h1 => match truA h1 x with
  | some b => .ok b h1
  | none => .bad
theorem dt_tru (ha : DE X cl W a ea) (he : ∀ whole, isTrue a X.env whole = (do let v ← whole; standAt a.pos; holding [v] (truthy v))) : DT X cl W a (aTru ea) :=
  ptM (pt_truth ha he) fun σ H Q ⟨m, ρ, h, hr, rs, p⟩ => ⟨m, ρ, h, hr, rs, Post.bind p fun x h1 m1 v1 H1 e1 f1 hr1 r1 p1 => by
    cases q : truA h1 x with
    | none =>
      rw [q] at p1
      exact p1.elim
    | some b =>
      rw [q] at p1
      exact ⟨b, tru_rel hr1 r1 q, p1.fin0 hr1 rfl⟩⟩
def aAnd (t u : AT) : AT := fun ρ h => (t ρ h).bind fun b h1 => match b with
  | true => u ρ h1
  | false => .ok false h1
def aOr (t u : AT) : AT := fun ρ h => (t ρ h).bind fun b h1 => match b with
  | true => .ok true h1
  | false => u ρ h1
def aNotT (t : AT) : AT := fun ρ h => (t ρ h).bind fun b h1 => .ok (!b) h1
theorem dw_and1 {tA : AT} (ha : DT X cl W a tA) : DW X cl W (.BoolOp .And [a] pos) tA := pw_and1 ha
theorem dw_or1 {tA : AT} (ha : DT X cl W a tA) : DW X cl W (.BoolOp .Or [a] pos) tA := pw_or1 ha
theorem dw_and {rest : List Expr} {tA tB : AT} (ha : DT X cl W a tA) (hb : DW X cl W (.BoolOp .And (b :: rest) pos) tB) : DW X cl W (.BoolOp .And (a :: b :: rest) pos) (aAnd tA tB) :=
  pwM (pw_and ha hb) fun σ H Q ⟨m, ρ, h, hr, rs, p⟩ => ⟨m, ρ, h, hr, rs, Post.bind p fun x h1 m1 v1 H1 e1 f1 hr1 r1 p1 => by
    cases r1
    cases x with
    | true => exact iteT ⟨m1, ρ, h1, hr1, rs.fw hr f1, p1⟩
    | false => exact iteF (p1.fin0 hr1 rfl)⟩
theorem dw_or {rest : List Expr} {tA tB : AT} (ha : DT X cl W a tA) (hb : DW X cl W (.BoolOp .Or (b :: rest) pos) tB) : DW X cl W (.BoolOp .Or (a :: b :: rest) pos) (aOr tA tB) :=
  pwM (pw_or ha hb) fun σ H Q ⟨m, ρ, h, hr, rs, p⟩ => ⟨m, ρ, h, hr, rs, Post.bind p fun x h1 m1 v1 H1 e1 f1 hr1 r1 p1 => by
    cases r1
    cases x with
    | true => exact iteT (p1.fin0 hr1 rfl)
    | false => exact iteF ⟨m1, ρ, h1, hr1, rs.fw hr f1, p1⟩⟩
theorem dt_w {tA : AT} (h : DW X cl W a tA) : DT X cl W a tA := h.pt
theorem dt_not {tA : AT} (ha : DT X cl W a tA) : DT X cl W (.UnaryOp .Not a pos) (aNotT tA) :=
  ptM (pt_not ha) fun σ H Q ⟨m, ρ, h, hr, rs, p⟩ => ⟨m, ρ, h, hr, rs, Post.bind p fun x h1 m1 v1 H1 e1 f1 hr1 r1 p1 => by
    cases r1
    exact p1.fin0 hr1 rfl⟩
def aIf (t : AT) (a b : AE) : AE := fun ρ h => (t ρ h).bind fun c h1 => match c with
  | true => a ρ h1
  | false => b ρ h1
theorem de_if {tA : AT} (hc : DT X cl W c tA) (ha : DE X cl W a ea) (hb : DE X cl W b eb) : DE X cl W (.IfExp c a b pos) (aIf tA ea eb) :=
  peM (pe_ifExp hc ha hb) fun σ H Q ⟨m, ρ, h, hr, rs, p⟩ => ⟨m, ρ, h, hr, rs, Post.bind p fun x h1 m1 v1 H1 e1 f1 hr1 r1 p1 => by
    cases r1
    cases x with
    | true => exact iteT ⟨m1, ρ, h1, hr1, rs.fw hr f1, p1⟩
    | false => exact iteF ⟨m1, ρ, h1, hr1, rs.fw hr f1, p1⟩⟩
/-! ### and, or, not as values -/
def aOrV (a b : AE) : AE := fun ρ h => (a ρ h).bind fun x h1 => match truA h1 x with
  | some true => .ok x h1
  | some false => b ρ h1
  | none => .bad
def aAndV (a b : AE) : AE := fun ρ h => (a ρ h).bind fun x h1 => match truA h1 x with
  | some true => b ρ h1
  | some false => .ok x h1
  | none => .bad
def aNotV (a : AE) : AE := fun ρ h => (a ρ h).bind fun x h1 => match truA h1 x with
  | some b => .ok (.bl (!b)) h1
  | none => .bad
theorem de_or {rest : List Expr} (ha : DE X cl W a ea) (hb : DE X cl W (.BoolOp .Or (b :: rest) pos) eb) : DE X cl W (.BoolOp .Or (a :: b :: rest) pos) (aOrV ea eb) :=
  peM (pe_orT ha hb) fun σ H Q ⟨m, ρ, h, hr, rs, p⟩ => ⟨m, ρ, h, hr, rs, Post.bind p fun x h1 m1 v1 H1 e1 f1 hr1 r1 p1 => by
    cases q : truA h1 x with
    | none =>
      rw [q] at p1
      exact p1.elim
    | some k =>
      rw [q] at p1
      refine ⟨k, tru_rel hr1 r1 q, ?_⟩
      cases k with
      | true => exact iteT (p1.fin0 hr1 r1)
      | false => exact iteF ⟨m1, ρ, h1, hr1, rs.fw hr f1, p1⟩⟩
theorem de_and {rest : List Expr} (ha : DE X cl W a ea) (hb : DE X cl W (.BoolOp .And (b :: rest) pos) eb) : DE X cl W (.BoolOp .And (a :: b :: rest) pos) (aAndV ea eb) :=
  peM (pe_andT ha hb) fun σ H Q ⟨m, ρ, h, hr, rs, p⟩ => ⟨m, ρ, h, hr, rs, Post.bind p fun x h1 m1 v1 H1 e1 f1 hr1 r1 p1 => by
    cases q : truA h1 x with
    | none =>
      rw [q] at p1
      exact p1.elim
    | some k =>
      rw [q] at p1
      refine ⟨k, tru_rel hr1 r1 q, ?_⟩
      cases k with
      | true => exact iteT ⟨m1, ρ, h1, hr1, rs.fw hr f1, p1⟩
      | false => exact iteF (p1.fin0 hr1 r1)⟩
theorem de_not (ha : DE X cl W a ea) : DE X cl W (.UnaryOp .Not a pos) (aNotV ea) :=
  peM (pe_notT ha) fun σ H Q ⟨m, ρ, h, hr, rs, p⟩ => ⟨m, ρ, h, hr, rs, Post.bind p fun x h1 m1 v1 H1 e1 f1 hr1 r1 p1 => by
    cases q : truA h1 x with
    | none =>
      rw [q] at p1
      exact p1.elim
    | some k =>
      rw [q] at p1
      exact ⟨k, tru_rel hr1 r1 q, p1.fin0 hr1 (.bl _)⟩⟩
theorem de_one {op} (ha : DE X cl W a ea) : DE X cl W (.BoolOp op [a] pos) ea := pe_one ha
end
end SA
set_option Elab.async false
set_option linter.all false
set_option maxRecDepth 100000
set_option maxHeartbeats 4000000
/-! SC: operators, subscripts, builtins. -/
namespace SA
open PySem PySem.Spec PyProof.Rows L2
theorem opr_or {X : Cx} {f : Value → Value → Sem Value} {r r' : R2} (h : OpR X f r) (h' : OpR X f r') : OpR X f (fun x y H Q => r x y H Q ∨ r' x y H Q) := fun pins s σ H x y v u Q I rx ry q => q.elim (h pins s σ H x y v u Q I rx ry) (h' pins s σ H x y v u Q I rx ry)
theorem cr_or {X : Cx} {f : Value} {r r' : List V → Hp → VK → Prop} (h : CallR X f r) (h' : CallR X f r') : CallR X f (fun xs H Q => r xs H Q ∨ r' xs H Q) := fun pins s σ H xs us Q I rx q => q.elim (h pins s σ H xs us Q I rx) (h' pins s σ H xs us Q I rx)
theorem pi_or {X : Cx} {tg it : Expr} {w w' : TI} (h : PI X tg it w) (h' : PI X tg it w') : PI X tg it (fun σ H R => w σ H R ∨ w' σ H R) := ⟨fun pins s σ H R I q => q.elim (h.run pins s σ H R I) (h'.run pins s σ H R I)⟩
theorem slr_or {X : Cx} {r r' : V → Option Int → Option Int → Hp → VK → Prop} (h : SlR X r) (h' : SlR X r') : SlR X (fun x lo hi H Q => r x lo hi H Q ∨ r' x lo hi H Q) := fun pins s σ H x v vl vu lo hi sl Q I rx hs pl pu q => q.elim (h pins s σ H x v vl vu lo hi sl Q I rx hs pl pu) (h' pins s σ H x v vl vu lo hi sl Q I rx hs pl pu)
def lstAt (h : AH) (n : Nat) : Option (List A) := match h[n]? with
  | some (.lst xs) => some xs
  | _ => none
def dictAt (h : AH) (n : Nat) : Option (List (Key × A)) := match h[n]? with
  | some (.dK xs) => some xs
  | _ => none
def objAt (h : AH) (n : Nat) : Option (Nat × List (Str × A)) := match h[n]? with
  | some (.ins C fs) => some (C, fs)
  | _ => none
theorem lstAt_of {h : AH} {n : Nat} {xs : List A} (e : lstAt h n = some xs) : h[n]? = some (.lst xs) := by
  unfold lstAt at e
  cases q : h[n]? with
  | none =>
    rw [q] at e
    cases e
  | some o =>
    rw [q] at e
    cases o with
    | lst ys =>
      cases e
      rfl
    | dK k => cases e
    | ins C f => cases e
theorem dictAt_of {h : AH} {n : Nat} {xs : List (Key × A)} (e : dictAt h n = some xs) : h[n]? = some (.dK xs) := by
  unfold dictAt at e
  cases q : h[n]? with
  | none =>
    rw [q] at e
    cases e
  | some o =>
    rw [q] at e
    cases o with
    | dK ys =>
      cases e
      rfl
    | lst k => cases e
    | ins C f => cases e
theorem objAt_of {h : AH} {n C : Nat} {xs : List (Str × A)} (e : objAt h n = some (C, xs)) : h[n]? = some (.ins C xs) := by
  unfold objAt at e
  cases q : h[n]? with
  | none =>
    rw [q] at e
    cases e
  | some o =>
    rw [q] at e
    cases o with
    | ins D ys =>
      cases e
      rfl
    | lst k => cases e
    | dK C => cases e
section
variable {K : Gx} {W : WX} {m : List Addr} {σ : L2.St} {h : AH} {H : Hp}
/-- a guarded answer -/
def ifB (b : Bool) (r : Res A) : Res A := match b with
  | true => r
  | false => .bad
theorem ifB_p {β : Type} {R : List Addr → Hp → A → β → Prop} {Q : β → Hp → Prop} {b : Bool} {r : Res A} (p : Post K W R m σ H (ifB b r) Q) : b = true ∧ Post K W R m σ H r Q := by
  cases b with
  | true => exact ⟨rfl, p⟩
  | false => exact p.elim
def withO {α : Type} (o : Option α) (k : α → Res A) : Res A := match o with
  | some a => k a
  | none => .bad
theorem withO_p {α β : Type} {R : List Addr → Hp → A → β → Prop} {Q : β → Hp → Prop} {o : Option α} {k : α → Res A} (p : Post K W R m σ H (withO o k) Q) : ∃ a, o = some a ∧ Post K W R m σ H (k a) Q := by
  cases o with
  | some a => exact ⟨a, rfl, p⟩
  | none => exact p.elim
end
/-! ### + -/
def fAdd : A → A → AH → Res A
  | .int i, .int j, h => .ok (.int (i + j)) h
  | .str a, .str b, h => ifB (decide (a.length + b.length ≤ 100000)) (.ok (.str (a ++ b)) h)
  | .tup a, .tup b, h => ifB (decide (a.length + b.length ≤ 100000)) (.ok (.tup (a ++ b)) h)
  | .loc n, .loc k, h => withO (lstAt h n) fun xs => withO (lstAt h k) fun ys => ifB (decide (xs.length + ys.length ≤ 100000)) (.ok (.loc h.length) (h ++ [.lst (xs ++ ys)]))
  | _, _, _ => .bad
def rAddU (K : PySem.W.Frag) : R2 := fun x y H Q => rI0 (fun i j => .int (i + j)) x y H Q ∨ (∃ i j, x = .str i ∧ y = .str j ∧ i.length + j.length ≤ sizeLine ∧ Q (.str (i ++ j)) H) ∨ rCatA K x y H Q ∨ rCat x y H Q
theorem op_addU {X : Cx} : OpR X (binaryOp .Add) (rAddU X.K) := opr_or op_add (opr_or op_add_str (opr_or op_catA op_cat))
theorem Ra.nilOf {K : Gx} {m : List Addr} {H : Hp} {vs : List V} (r : Ra K m H [] vs) : vs = [] := by
  cases r
  rfl
theorem sim_add {K : Gx} : SimR K (rAddU K.K) fAdd := by
  intro W m σ h H x y u v Q hr rx ry p
  cases rx with
  | int i =>
    cases ry with
    | int j => exact .inl ⟨i, j, rfl, rfl, p.fin0 hr (.int _)⟩
    | _ => exact p.elim
  | str i =>
    cases ry with
    | str j =>
      obtain ⟨z, p⟩ := ifB_p p
      exact .inr (.inl ⟨i, j, rfl, rfl, le_line (of_decide_eq_true z), p.fin0 hr (.str _)⟩)
    | _ => exact p.elim
  | tup s1 r1 =>
    cases ry with
    | tup s2 r2 =>
      obtain ⟨z, p⟩ := ifB_p p
      have z := of_decide_eq_true z
      rw [r1.len, r2.len] at z
      refine .inr (.inr (.inl ⟨_, _, _, _, rfl, rfl, s1, s2, le_line z, fun e => ?_, fun _ e => ?_, fun _ _ q hq => ?_⟩))
      · subst e
        cases r1
        exact p.fin0 hr (.tup s2 r2)
      · subst e
        cases r2
        rw [List.append_nil] at p
        exact p.fin0 hr (.tup s1 r1)
      · exact p.fin (Fw.new0 hq _) (hr.new0 hq _) (.tup (SqT.of upd_same) ((r1.app r2).fw hr (Fw.new0 hq _)))
    | _ => exact p.elim
  | loc h1 =>
    cases ry with
    | loc h2 =>
      obtain ⟨xs, e1, p⟩ := withO_p p
      obtain ⟨ys, e2, p⟩ := withO_p p
      obtain ⟨z, p⟩ := ifB_p p
      have z := of_decide_eq_true z
      obtain ⟨vs, a1, r1⟩ := hr.lstA h1 (lstAt_of e1)
      obtain ⟨ws, a2, r2⟩ := hr.lstA h2 (lstAt_of e2)
      rw [r1.len, r2.len] at z
      refine .inr (.inr (.inr ⟨_, _, vs, ws, rfl, rfl, a1, a2, le_line z, fun q hq => ?_⟩))
      obtain ⟨n1, n2, n3⟩ := newLst hr hq (r1.app r2)
      exact p.fin n2 n1 n3
    | _ => exact p.elim
  | _ => exact p.elim
/-! ### ints -/
def fInt (g : Int → Int → Int) : A → A → AH → Res A
  | .int i, .int j, h => .ok (.int (g i j)) h
  | _, _, _ => .bad
def fIntC (C : Int → Int → Bool) (g : Int → Int → Int) : A → A → AH → Res A
  | .int i, .int j, h => ifB (C i j) (.ok (.int (g i j)) h)
  | _, _, _ => .bad
def fCmp (g : Int → Int → Bool) : A → A → AH → Res A
  | .int i, .int j, h => .ok (.bl (g i j)) h
  | _, _, _ => .bad
theorem sim_int {K : Gx} {g : Int → Int → Int} : SimR K (rI0 fun i j => .int (g i j)) (fInt g) := by
  intro W m σ h H x y u v Q hr rx ry p
  cases rx with
  | int i =>
    cases ry with
    | int j => exact ⟨i, j, rfl, rfl, p.fin0 hr (.int _)⟩
    | _ => exact p.elim
  | _ => exact p.elim
theorem sim_intC {K : Gx} {C : Int → Int → Bool} {P : Int → Int → Prop} {g : Int → Int → Int} (hc : ∀ i j, C i j = true → P i j) : SimR K (rI P fun i j => .int (g i j)) (fIntC C g) := by
  intro W m σ h H x y u v Q hr rx ry p
  cases rx with
  | int i =>
    cases ry with
    | int j =>
      obtain ⟨z, p⟩ := ifB_p p
      exact ⟨i, j, rfl, rfl, hc _ _ z, p.fin0 hr (.int _)⟩
    | _ => exact p.elim
  | _ => exact p.elim
theorem sim_cmp {K : Gx} {g : Int → Int → Bool} : SimR K (rI0 fun i j => .bl (g i j)) (fCmp g) := by
  intro W m σ h H x y u v Q hr rx ry p
  cases rx with
  | int i =>
    cases ry with
    | int j => exact ⟨i, j, rfl, rfl, p.fin0 hr (.bl _)⟩
    | _ => exact p.elim
  | _ => exact p.elim
def fSub := fInt fun i j => i - j
def fLt := fCmp fun i j => decide (i < j)
def fLe := fCmp fun i j => decide (i ≤ j)
def fGt := fCmp fun i j => decide (j < i)
def fGe := fCmp fun i j => decide (j ≤ i)
def fMod := fIntC (fun _ j => decide (0 < j)) fun i j => i % j
def fDiv := fIntC (fun _ j => decide (0 < j) && decide (j.natAbs.log2 < 9000)) fun i j => i / j
def fPow := fIntC (fun i j => decide (0 ≤ j) && decide ((Builtin.Int.intBits i : Int) * j ≤ 2 ^ 27)) fun i j => i ^ j.toNat
def fMul : A → A → AH → Res A
  | .int i, .int j, h => ifB (decide (i.natAbs.log2 + j.natAbs.log2 < 1000000)) (.ok (.int (i * j)) h)
  | .loc n, .int k, h => withO (lstAt h n) fun xs => ifB (decide (0 ≤ k) && (decide (k ≤ 100000) && decide (xs.length * k.toNat ≤ 100000))) (.ok (.loc h.length) (h ++ [.lst (List.replicate k.toNat xs).flatten]))
  | _, _, _ => .bad
theorem sim_sub {K : Gx} : SimR K (rI0 fun i j => .int (i - j)) fSub := sim_int
theorem sim_lt {K : Gx} : SimR K (rI0 fun i j => .bl (decide (i < j))) fLt := sim_cmp
theorem sim_le {K : Gx} : SimR K (rI0 fun i j => .bl (decide (i ≤ j))) fLe := sim_cmp
theorem sim_gt {K : Gx} : SimR K (rI0 fun i j => .bl (decide (j < i))) fGt := sim_cmp
theorem sim_ge {K : Gx} : SimR K (rI0 fun i j => .bl (decide (j ≤ i))) fGe := sim_cmp
theorem sim_mod {K : Gx} : SimR K (rI (fun _ j => 0 < j) fun i j => .int (i % j)) fMod := sim_intC fun _ _ z => of_decide_eq_true z
theorem sim_div {K : Gx} : SimR K (rI CDivW fun i j => .int (i / j)) fDiv := sim_intC fun _ _ z => ⟨of_decide_eq_true (Bool.and_eq_true_iff.mp z).1, of_decide_eq_true (Bool.and_eq_true_iff.mp z).2⟩
theorem op_powU {X : Cx} : OpR X (binaryOp .Pow) (rI (fun i j => 0 ≤ j ∧ (Builtin.Int.intBits i : Int) * j ≤ 2 ^ 27) fun i j => .int (i ^ j.toNat)) := opI fun _ _ _ _ _ _ _ hc q => pow_int hc.1 hc.2 q
theorem sim_pow {K : Gx} : SimR K (rI (fun i j => 0 ≤ j ∧ (Builtin.Int.intBits i : Int) * j ≤ 2 ^ 27) fun i j => .int (i ^ j.toNat)) fPow := sim_intC fun _ _ z => by
  obtain ⟨z1, z2⟩ := Bool.and_eq_true_iff.mp z
  exact ⟨of_decide_eq_true z1, of_decide_eq_true z2⟩
def rMulU : R2 := fun x y H Q => rI CMulW (fun i j => .int (i * j)) x y H Q ∨ rRep x y H Q
theorem op_mulU {X : Cx} : OpR X (binaryOp .Mult) rMulU := opr_or op_mulW op_rep
theorem ra_rep {K : Gx} {m : List Addr} {H : Hp} {xs : List A} {vs : List V} (r : Ra K m H xs vs) : ∀ n : Nat, Ra K m H (List.replicate n xs).flatten (List.replicate n vs).flatten
  | 0 => .nil
  | n + 1 => by
    rw [List.replicate_succ, List.replicate_succ, List.flatten_cons, List.flatten_cons]
    exact r.app (ra_rep r n)
theorem sim_mul {K : Gx} : SimR K rMulU fMul := by
  intro W m σ h H x y u v Q hr rx ry p
  cases rx with
  | int i =>
    cases ry with
    | int j =>
      obtain ⟨z, p⟩ := ifB_p p
      have z : i.natAbs.log2 + j.natAbs.log2 < 1000000 := of_decide_eq_true z
      exact .inl ⟨i, j, rfl, rfl, z, p.fin0 hr (.int _)⟩
    | _ => exact p.elim
  | loc h1 =>
    cases ry with
    | int k =>
      obtain ⟨xs, e1, p⟩ := withO_p p
      obtain ⟨z, p⟩ := ifB_p p
      obtain ⟨z1, z2⟩ := Bool.and_eq_true_iff.mp z
      obtain ⟨z2, z3⟩ := Bool.and_eq_true_iff.mp z2
      have z1 := of_decide_eq_true z1
      have z2 := of_decide_eq_true z2
      have z3 := of_decide_eq_true z3
      obtain ⟨vs, a1, r1⟩ := hr.lstA h1 (lstAt_of e1)
      rw [r1.len] at z3
      refine .inr ⟨_, k, vs, rfl, rfl, a1, by omega, by omega, le_line z3, fun q hq => ?_⟩
      obtain ⟨n1, n2, n3⟩ := newLst hr hq (ra_rep r1 k.toNat)
      exact p.fin n2 n1 n3
    | _ => exact p.elim
  | _ => exact p.elim
/-! ### == -/
mutual
def toDW (f : Nat → Option PyData) : A → Option PyData
  | .non => some .none
  | .bl b => some (.bool b)
  | .int i => some (.int i)
  | .str x => some (.str x)
  | .tup xs => (toDWs f xs).map .tuple
  | .loc k => f k
  | .cls _ => none
  | .ty _ => none
  | .fz _ => none
def toDWs (f : Nat → Option PyData) : List A → Option (List PyData)
  | [] => some []
  | x :: xs => (toDW f x).bind fun d => (toDWs f xs).map (d :: ·)
end
def toD : Nat → AH → A → Option PyData
  | 0, _, a => toDW (fun _ => none) a
  | n + 1, h, a => toDW (fun k => (rdAt h k).bind fun xs => (toDL (toD n h) xs).map .list) a
where toDL (g : A → Option PyData) : List A → Option (List PyData)
  | [] => some []
  | x :: xs => (g x).bind fun d => (toDL g xs).map (d :: ·)
mutual
theorem toDW_dp {K : Gx} {m : List Addr} {H : Hp} {f : Nat → Option PyData} (hf : ∀ k a d, m[k]? = some a → f k = some d → Dp K.K H (.ref a) d) : ∀ (x : A) (v : V) (d : PyData), Rl K m H x v → toDW f x = some d → Dp K.K H v d
  | .non, _, _, r, e => by cases r; cases e; exact .non
  | .bl b, _, _, r, e => by cases r; cases e; exact .bl b
  | .int i, _, _, r, e => by cases r; cases e; exact .int i
  | .str x, _, _, r, e => by cases r; cases e; exact .str x
  | .tup xs, _, d, r, e => by
    cases r with
    | tup s ra =>
      have e : (toDWs f xs).map PyData.tuple = some d := e
      obtain ⟨ds, e1, e2⟩ := Option.map_eq_some_iff.mp e
      subst e2
      exact .tup s (toDWs_dp hf xs _ ds ra e1)
  | .loc k, _, d, r, e => by
    cases r with
    | loc hk => exact hf k _ d hk e
  | .cls _, _, _, _, e => nomatch e
  | .ty _, _, _, _, e => nomatch e
  | .fz _, _, _, _, e => nomatch e
theorem toDWs_dp {K : Gx} {m : List Addr} {H : Hp} {f : Nat → Option PyData} (hf : ∀ k a d, m[k]? = some a → f k = some d → Dp K.K H (.ref a) d) : ∀ (xs : List A) (vs : List V) (ds : List PyData), Ra K m H xs vs → toDWs f xs = some ds → DpAll K.K H vs ds
  | [], _, _, r, e => by cases r; cases e; exact .nil
  | x :: xs, _, ds, r, e => by
    cases r with
    | cons r1 r2 =>
      have e : ((toDW f x).bind fun d => (toDWs f xs).map (d :: ·)) = some ds := e
      obtain ⟨d, e1, e2⟩ := Option.bind_eq_some_iff.mp e
      obtain ⟨ds', e3, e4⟩ := Option.map_eq_some_iff.mp e2
      subst e4
      exact .cons (toDW_dp hf x _ d r1 e1) (toDWs_dp hf xs _ ds' r2 e3)
end
theorem toDL_dp {K : Gx} {m : List Addr} {H : Hp} {g : A → Option PyData} (hg : ∀ x v d, Rl K m H x v → g x = some d → Dp K.K H v d) : ∀ (xs : List A) (vs : List V) (ds : List PyData), Ra K m H xs vs → toD.toDL g xs = some ds → DpAll K.K H vs ds
  | [], _, _, r, e => by cases r; cases e; exact .nil
  | x :: xs, _, ds, r, e => by
    cases r with
    | cons r1 r2 =>
      have e : ((g x).bind fun d => (toD.toDL g xs).map (d :: ·)) = some ds := e
      obtain ⟨d, e1, e2⟩ := Option.bind_eq_some_iff.mp e
      obtain ⟨ds', e3, e4⟩ := Option.map_eq_some_iff.mp e2
      subst e4
      exact .cons (hg x _ d r1 e1) (toDL_dp hg xs _ ds' r2 e3)
theorem toD_dp {K : Gx} {m : List Addr} {h : AH} {H : Hp} (hr : HR K m h H) : ∀ (n : Nat) (x : A) (v : V) (d : PyData), Rl K m H x v → toD n h x = some d → Dp K.K H v d
  | 0, x, v, d, r, e => toDW_dp (fun _ _ _ _ z => by cases z) x v d r e
  | n + 1, x, v, d, r, e => toDW_dp (fun k a d hk z => by
    obtain ⟨xs, e1, e2⟩ := Option.bind_eq_some_iff.mp z
    obtain ⟨ds, e3, e4⟩ := Option.map_eq_some_iff.mp e2
    subst e4
    obtain ⟨vs, a1, ra⟩ := hr.rdA hk e1
    exact .lst a1 (toDL_dp (toD_dp hr n) xs vs ds ra e3)) x v d r e
def eqStr (a b : Str) : Bool := a.cps.toList == b.cps.toList
theorem eqStr_iff {a b : Str} : eqStr a b = true ↔ a = b := by
  unfold eqStr
  rw [beq_iff_eq]
  constructor
  · intro e
    cases a with
    | mk a =>
      cases b with
      | mk b =>
        congr 1
        exact Array.toList_inj.mp e
  · rintro rfl
    rfl
theorem eqStr_dec (a b : Str) : decide (V.str a = V.str b) = eqStr a b := by
  rw [Bool.eq_iff_iff, decide_eq_true_iff, eqStr_iff]
  exact ⟨fun z => V.str.inj z, fun z => by rw [z]⟩
/-- == (d: deep) told for any two -/
def eqA (neg : Bool) : A → A → AH → Res A
  | .int i, .int j, h => .ok (.bl (if neg then !decide (i = j) else decide (i = j))) h
  | .str a, .str b, h => .ok (.bl (if neg then !eqStr a b else eqStr a b)) h
  | .bl a, .bl b, h => .ok (.bl (if neg then !(a == b) else (a == b))) h
  | x, y, h => withO (toD 8 h x) fun d => withO (toD 8 h y) fun e => ifB (SeqAt.shaped d && SeqAt.shaped e) (.ok (.bl (if neg then !PyData.eqv d e else PyData.eqv d e)) h)
def rEqU (K : PySem.W.Frag) (neg : Bool) : R2 := fun x y H Q => (if neg then rNe x y H Q else rEq x y H Q) ∨ (if neg then rNeD K x y H Q else rEqD K x y H Q)
theorem op_eqU {X : Cx} (hu : X.A.units + 64 < cLine) : OpR X (compareOp .Eq) (rEqU X.K false) := opr_or op_eq (op_eqD hu)
theorem op_neU {X : Cx} (hu : X.A.units + 64 < cLine) : OpR X (compareOp .NotEq) (rEqU X.K true) := opr_or op_ne (op_neD hu)
theorem sim_eq {K : Gx} {neg : Bool} : SimR K (rEqU K.K neg) (eqA neg) := by
  intro W m σ h H x y u v Q hr rx ry p
  have deep : ∀ (x y : A) (u v : V), Rl K m H x u → Rl K m H y v → Post K W (Rl K) m σ H (withO (toD 8 h x) fun d => withO (toD 8 h y) fun e => ifB (SeqAt.shaped d && SeqAt.shaped e) (.ok (.bl (if neg then !PyData.eqv d e else PyData.eqv d e)) h)) Q → rEqU K.K neg u v H Q := by
    intro x y u v rx ry p
    obtain ⟨d, e1, p⟩ := withO_p p
    obtain ⟨e, e2, p⟩ := withO_p p
    obtain ⟨z, p⟩ := ifB_p p
    obtain ⟨z1, z2⟩ := Bool.and_eq_true_iff.mp z
    refine .inr ?_
    cases neg with
    | true => exact ⟨d, e, toD_dp hr 8 x u d rx e1, toD_dp hr 8 y v e ry e2, z1, z2, p.fin0 hr (.bl _)⟩
    | false => exact ⟨d, e, toD_dp hr 8 x u d rx e1, toD_dp hr 8 y v e ry e2, z1, z2, p.fin0 hr (.bl _)⟩
  have ry' := ry
  cases rx with
  | int i =>
    cases ry with
    | int j =>
      refine .inl ?_
      have ed : decide (V.int i = V.int j) = decide (i = j) := decide_eq_decide.mpr ⟨fun z => V.int.inj z, fun z => by rw [z]⟩
      cases neg with
      | true =>
        refine ⟨rfl, ?_⟩
        rw [ed]
        exact p.fin0 hr (.bl _)
      | false =>
        refine ⟨rfl, ?_⟩
        rw [ed]
        exact p.fin0 hr (.bl _)
    | _ => exact deep _ _ _ _ (.int i) ry' p
  | str i =>
    cases ry with
    | str j =>
      refine .inl ?_
      cases neg with
      | true =>
        refine ⟨rfl, ?_⟩
        rw [eqStr_dec]
        exact p.fin0 hr (.bl _)
      | false =>
        refine ⟨rfl, ?_⟩
        rw [eqStr_dec]
        exact p.fin0 hr (.bl _)
    | _ => exact deep _ _ _ _ (.str i) ry' p
  | bl i =>
    cases ry with
    | bl j =>
      refine .inl ?_
      have ed : decide (V.bl i = V.bl j) = (i == j) := by cases i <;> cases j <;> rfl
      cases neg with
      | true =>
        refine ⟨rfl, ?_⟩
        rw [ed]
        exact p.fin0 hr (.bl _)
      | false =>
        refine ⟨rfl, ?_⟩
        rw [ed]
        exact p.fin0 hr (.bl _)
    | _ => exact deep _ _ _ _ (.bl i) ry' p
  | non => exact deep _ _ _ _ .non ry p
  | tup s r => exact deep _ _ _ _ (.tup s r) ry p
  | loc e => exact deep _ _ _ _ (.loc e) ry p
  | cls c => exact deep _ _ _ _ (.cls c) ry p
  | ty n => exact deep _ _ _ _ (.ty n) ry p
  | fz n => exact deep _ _ _ _ (.fz n) ry p
/-! ### is None -/
def isA (neg : Bool) : A → A → AH → Res A
  | .non, .non, h => .ok (.bl (!neg)) h
  | _, .non, h => .ok (.bl neg) h
  | _, _, _ => .bad
theorem sim_isN {K : Gx} : SimR K (fun x y H Q => y = .non ∧ Q (.bl (decide (x = .non))) H) (isA false) := by
  intro W m σ h H x y u v Q hr rx ry p
  cases ry with
  | non =>
    refine ⟨rfl, ?_⟩
    cases rx <;> exact p.fin0 hr (.bl _)
  | _ => cases rx <;> exact p.elim
theorem sim_notN {K : Gx} : SimR K (fun x y H Q => y = .non ∧ Q (.bl (!decide (x = .non))) H) (isA true) := by
  intro W m σ h H x y u v Q hr rx ry p
  cases ry with
  | non =>
    refine ⟨rfl, ?_⟩
    cases rx <;> exact p.fin0 hr (.bl _)
  | _ => cases rx <;> exact p.elim
end SA
set_option Elab.async false
set_option linter.all false
set_option maxRecDepth 100000
set_option maxHeartbeats 4000000
/-! SD: in, subscripts, slices, attributes, builtins and their methods. -/
namespace SA
open PySem PySem.Spec PyProof.Rows L2
/-! ### keys -/
def keyA : A → Option Key
  | .int i => some (.inl i)
  | .str x => some (.inr x)
  | _ => none
def keyEq : Key → Key → Bool
  | .inl i, .inl j => i == j
  | .inr a, .inr b => eqStr a b
  | _, _ => false
theorem keyEq_iff {a b : Key} : keyEq a b = true ↔ a = b := by
  cases a with
  | inl i =>
    cases b with
    | inl j =>
      show (i == j) = true ↔ _
      rw [beq_iff_eq]
      exact ⟨fun z => by rw [z], fun z => Sum.inl.inj z⟩
    | inr y => exact ⟨fun z => (by cases z), fun z => (by cases z)⟩
  | inr x =>
    cases b with
    | inl j => exact ⟨fun z => (by cases z), fun z => (by cases z)⟩
    | inr y =>
      show eqStr x y = true ↔ _
      rw [eqStr_iff]
      exact ⟨fun z => by rw [z], fun z => Sum.inr.inj z⟩
theorem keyEq_dec (a b : Key) : decide (a = b) = keyEq a b := by
  rw [Bool.eq_iff_iff, decide_eq_true_iff, keyEq_iff]
def valA : List (Key × A) → Key → Option A
  | [], _ => none
  | (j, a) :: r, k => match keyEq j k with
    | true => some a
    | false => valA r k
/-- in its place, or at the end -/
def putA (kvs : List (Key × A)) (k : Key) (a : A) : List (Key × A) := match kvs.any fun kv => keyEq kv.1 k with
  | true => kvs.map fun kv => match keyEq kv.1 k with
    | true => (kv.1, a)
    | false => kv
  | false => kvs ++ [(k, a)]
def dropA : List (Key × A) → Key → List (Key × A)
  | [], _ => []
  | (j, b) :: r, k => match keyEq j k with
    | true => dropA r k
    | false => (j, b) :: dropA r k
section
variable {K : Gx} {m : List Addr} {h : AH} {H : Hp}
theorem Rl.key {x : A} {v : V} {k : Key} (r : Rl K m H x v) (e : keyA x = some k) : v = kV k := by
  cases r with
  | int i =>
    cases e
    rfl
  | str i =>
    cases e
    rfl
  | _ => cases e
theorem Rf.any {k : Key} : ∀ {fs : List (Key × A)} {ws : List (Key × V)}, Rf K m H fs ws → (ws.any fun kv => decide (kv.1 = k)) = fs.any fun kv => keyEq kv.1 k
  | _, _, .nil => rfl
  | (j, b) :: r, (j', w) :: ws, .cons ⟨e, rl⟩ t => by
    cases e
    rw [List.any_cons, List.any_cons, Rf.any t, keyEq_dec]
theorem Rf.mapK {k : Key} {a : A} {v : V} (q : Rl K m H a v) : ∀ {fs : List (Key × A)} {ws : List (Key × V)}, Rf K m H fs ws → Rf K m H (fs.map fun kv => match keyEq kv.1 k with | true => (kv.1, a) | false => kv) (ws.map fun kv => if kv.1 = k then (kv.1, v) else kv)
  | _, _, .nil => .nil
  | (j, b) :: r, (j', w) :: ws, .cons ⟨e, rl⟩ t => by
    cases e
    refine .cons ?_ (Rf.mapK q t)
    show (match keyEq j k with | true => (j, a) | false => (j, b)).1 = (if j = k then (j, v) else (j, w)).1 ∧ Rl K m H (match keyEq j k with | true => (j, a) | false => (j, b)).2 (if j = k then (j, v) else (j, w)).2
    cases z : keyEq j k with
    | true =>
      rw [if_pos (keyEq_iff.mp z)]
      exact ⟨rfl, q⟩
    | false =>
      rw [if_neg fun y => by rw [keyEq_iff.mpr y] at z; cases z]
      exact ⟨rfl, rl⟩
theorem Rf.app {κ : Type} : ∀ {fs gs : List (κ × A)} {ws us : List (κ × V)}, Rf K m H fs ws → Rf K m H gs us → Rf K m H (fs ++ gs) (ws ++ us)
  | _, _, _, _, .nil, r => r
  | _, _, _, _, .cons a b, r => .cons a (Rf.app b r)
theorem Rf.putK {k : Key} {a : A} {v : V} (q : Rl K m H a v) {fs : List (Key × A)} {ws : List (Key × V)} (r : Rf K m H fs ws) : Rf K m H (putA fs k a) (L2.putK ws k v) := by
  unfold putA L2.putK
  rw [r.any]
  cases z : fs.any fun kv => keyEq kv.1 k with
  | true =>
    rw [if_pos rfl]
    exact r.mapK q
  | false =>
    rw [if_neg (by decide)]
    exact r.app (.cons ⟨rfl, q⟩ .nil)
theorem Rf.val {k : Key} : ∀ {fs : List (Key × A)} {ws : List (Key × V)}, Rf K m H fs ws → (∀ a, valA fs k = some a → ∃ v, valV ws k = some v ∧ Rl K m H a v) ∧ (valA fs k = none → valV ws k = none)
  | _, _, .nil => ⟨fun _ e => (by cases e), fun _ => rfl⟩
  | (j, b) :: r, (j', w) :: ws, .cons ⟨e, rl⟩ t => by
    cases e
    obtain ⟨i1, i2⟩ := Rf.val (k := k) t
    cases q : keyEq j k with
    | true =>
      have e1 : valA ((j, b) :: r) k = some b := by
        unfold valA
        rw [q]
      have e2 : valV ((j, w) :: ws) k = some w := valV_pos (keyEq_iff.mp q)
      rw [e1, e2]
      exact ⟨fun a z => (by cases z; exact ⟨w, rfl, rl⟩), fun z => (by cases z)⟩
    | false =>
      have e1 : valA ((j, b) :: r) k = valA r k := by
        show (match keyEq j k with | true => some b | false => valA r k) = valA r k
        rw [q]
      have e2 : valV ((j, w) :: ws) k = valV ws k := valV_neg fun z => by
        have := keyEq_iff.mpr z
        rw [show (j, w).1 = j from rfl] at this
        rw [q] at this
        cases this
      rw [e1, e2]
      exact ⟨i1, i2⟩
end
/-! ### in -/
def flatA : A → Bool
  | .non => true
  | .bl _ => true
  | .int _ => true
  | .str _ => true
  | _ => false
def eqF : A → A → Bool
  | .non, .non => true
  | .bl a, .bl b => a == b
  | .bl a, .int b => (if a then 1 else 0) == b
  | .int a, .bl b => a == (if b then 1 else 0)
  | .int a, .int b => a == b
  | .str a, .str b => eqStr a b
  | _, _ => false
def inF (x : A) : List A → Bool
  | [] => false
  | y :: ys => eqF y x || inF x ys
theorem flat_rel {K : Gx} {m : List Addr} {H : Hp} {x : A} {v : V} (r : Rl K m H x v) (e : flatA x = true) : flatV v = true := by
  cases r <;> first | rfl | cases e
theorem flats_rel {K : Gx} {m : List Addr} {H : Hp} : ∀ {xs : List A} {vs : List V}, Ra K m H xs vs → xs.all flatA = true → vs.all flatV = true
  | _, _, .nil, _ => rfl
  | _, _, .cons a b, e => by
    rw [List.all_cons, Bool.and_eq_true] at e ⊢
    exact ⟨flat_rel a e.1, flats_rel b e.2⟩
theorem beqS (a b : Str) : (a == b) = eqStr a b := by
  rw [Bool.eq_iff_iff, beq_iff_eq, eqStr_iff]
theorem eqF_rel {K : Gx} {m : List Addr} {H : Hp} {x y : A} {v w : V} (r : Rl K m H x v) (q : Rl K m H y w) (fx : flatA x = true) (fy : flatA y = true) : eqV v w = eqF x y := by
  cases r with
  | str a =>
    cases q with
    | str b => exact beqS a b
    | _ => first | rfl | cases fy
  | non => cases q <;> first | rfl | cases fy
  | bl b => cases q <;> first | rfl | cases fy
  | int b => cases q <;> first | rfl | cases fy
  | _ => cases fx
theorem inF_rel {K : Gx} {m : List Addr} {H : Hp} {x : A} {v : V} (r : Rl K m H x v) (fx : flatA x = true) : ∀ {xs : List A} {vs : List V}, Ra K m H xs vs → xs.all flatA = true → inV v vs = inF x xs
  | _, _, .nil, _ => rfl
  | _, _, .cons (x := y) (xs := ys) (v := w) (vs := ws) a b, e => by
    rw [List.all_cons, Bool.and_eq_true] at e
    have ih := inF_rel r fx b e.2
    show (eqV w v || inV v ws) = (eqF y x || inF x ys)
    rw [ih, eqF_rel a r e.1 fx]
def negB (neg b : Bool) : Bool := match neg with
  | true => !b
  | false => b
def inSeq (neg : Bool) (x : A) (xs : List A) (h : AH) : Res A := ifB (flatA x && xs.all flatA) (.ok (.bl (negB neg (inF x xs))) h)
def inObj (neg : Bool) (x : A) (o : Option AO) (h : AH) : Res A := match o with
  | some (.lst xs) => inSeq neg x xs h
  | some (.dK kvs) => withO (keyA x) fun k => .ok (.bl (negB neg (valA kvs k).isSome)) h
  | _ => .bad
def inStr (neg : Bool) (c z : Str) (h : AH) : Res A := match c.cps.toList with
  | [k] => .ok (.bl (negB neg (z.cps.toList.contains k))) h
  | _ => .bad
def fIn (neg : Bool) (x y : A) (h : AH) : Res A := match y with
  | .tup xs => inSeq neg x xs h
  | .loc n => inObj neg x h[n]? h
  | .str z => match x with
    | .str c => inStr neg c z h
    | _ => .bad
  | _ => .bad
def rSign (neg : Bool) : R2 := fun x y H Q => ∃ (c : Nat) (z : Str), x = .str ⟨#[c]⟩ ∧ y = .str z ∧ Q (.bl (if neg then !decide (c ∈ z.cps.toList) else decide (c ∈ z.cps.toList))) H
def rDIn (neg : Bool) : R2 := fun y x H Q => ∃ a o, x = .ref a ∧ DGet H a y o ∧ Q (.bl (if neg then !o.isSome else o.isSome)) H
def rInU (K : PySem.W.Frag) (neg : Bool) : R2 := fun x y H Q => rIn K neg x y H Q ∨ rSign neg x y H Q ∨ rDIn neg x y H Q
theorem op_din {X : Cx} (hu : X.A.units + 1 < cLine) : OpR X (compareOp .In) (rDIn false) := fun pins s σ H y x u v Q I ry rx ⟨a, o, e, g, q⟩ => by
  subst e
  cases rx
  exact d_in hu I g ry fun s3 I3 => ⟨.bl o.isSome, H, I3, rfl, q⟩
theorem op_dnin {X : Cx} (hu : X.A.units + 1 < cLine) : OpR X (compareOp .NotIn) (rDIn true) := fun pins s σ H y x u v Q I ry rx ⟨a, o, e, g, q⟩ => by
  subst e
  cases rx
  exact d_notIn hu I g ry fun s3 I3 => ⟨.bl (!o.isSome), H, I3, rfl, q⟩
theorem op_inU {X : Cx} (hu : X.A.units + 1 < cLine) : OpR X (compareOp .In) (rInU X.K false) := opr_or op_in_seq (opr_or op_in_sign (op_din hu))
theorem op_ninU {X : Cx} (hu : X.A.units + 1 < cLine) : OpR X (compareOp .NotIn) (rInU X.K true) := opr_or op_notIn_seq (opr_or op_notIn_sign (op_dnin hu))
theorem negB_if (neg b : Bool) : negB neg b = if neg then !b else b := by cases neg <;> rfl
theorem sim_in {K : Gx} {neg : Bool} : SimR K (rInU K.K neg) (fIn neg) := by
  intro W m σ h H x y u v Q hr rx ry p
  have seq : ∀ (xs : List A) (vs : List V) (a : Addr), v = .ref a → (SqL K.K H a vs ∨ SqT K.K H a vs) → Ra K m H xs vs → Post K W (Rl K) m σ H (inSeq neg x xs h) Q → rInU K.K neg u v H Q := by
    intro xs vs a e hs ra p
    obtain ⟨z, p⟩ := ifB_p p
    obtain ⟨z1, z2⟩ := Bool.and_eq_true_iff.mp z
    refine .inl ⟨a, vs, e, hs, flat_rel rx z1, flats_rel ra z2, ?_⟩
    rw [inF_rel rx z1 ra z2, ← negB_if]
    exact p.fin0 hr (.bl _)
  cases ry with
  | tup s r => exact seq _ _ _ rfl (.inr s) r p
  | loc hn =>
    rename_i n a
    have p : Post K W (Rl K) m σ H (inObj neg x h[n]? h) Q := p
    cases q : h[n]? with
    | none =>
      rw [q] at p
      exact p.elim
    | some o =>
      rw [q] at p
      cases o with
      | lst xs =>
        obtain ⟨vs, e1, e2⟩ := hr.lstA hn q
        exact seq xs vs _ rfl (.inl (SqL.of e1)) e2 p
      | dK kvs =>
        obtain ⟨ws, e1, e2⟩ := hr.dKA hn q
        obtain ⟨k, ek, p⟩ := withO_p p
        have eu := rx.key ek
        subst eu
        refine .inr (.inr ⟨a, valV ws k, rfl, DGet.k e1, ?_⟩)
        have es : (valV ws k).isSome = (valA kvs k).isSome := by
          obtain ⟨i1, i2⟩ := Rf.val (k := k) e2
          cases c : valA kvs k with
          | none =>
            rw [i2 c]
            rfl
          | some a =>
            obtain ⟨v, e, _⟩ := i1 a c
            rw [e]
            rfl
        rw [es, ← negB_if]
        exact p.fin0 hr (.bl _)
      | ins C fs => exact p.elim
  | str z =>
    cases rx with
    | str c =>
      have p : Post K W (Rl K) m σ H (inStr neg c z h) Q := p
      unfold inStr at p
      split at p
      · rename_i k e
        have ec : c = ⟨#[k]⟩ := by
          cases c with
          | mk c =>
            congr 1
            apply Array.toList_inj.mp
            exact e
        subst ec
        refine .inr (.inl ⟨k, z, rfl, rfl, ?_⟩)
        have es : decide (k ∈ z.cps.toList) = z.cps.toList.contains k := by
          rw [Bool.eq_iff_iff, decide_eq_true_iff, List.contains_iff_mem]
        rw [es, ← negB_if]
        exact p.fin0 hr (.bl _)
      · exact p.elim
    | _ => exact p.elim
  | _ => exact p.elim
/-! ### subscripts -/
def ixObj (y : A) (o : Option AO) (h : AH) : Res A := match o with
  | some (.lst xs) => match y with
    | .int i => withO (atI xs i) fun a => .ok a h
    | _ => .bad
  | some (.dK kvs) => withO (keyA y) fun k => withO (valA kvs k) fun a => .ok a h
  | _ => .bad
def fIx : A → A → AH → Res A
  | .tup xs, .int i, h => withO (atI xs i) fun a => .ok a h
  | .str z, .int i, h => ifB (decide (z.length ≤ 100000)) (withO (atI z.cps.toList i) fun c => .ok (.str ⟨#[c]⟩) h)
  | .loc n, y, h => ixObj y h[n]? h
  | .fz ns, .int i, h => withO (atI ns i) fun a => .ok (.int a) h
  | _, _, _ => .bad
def rDGetR : R2 := fun x y H Q => ∃ a v, x = .ref a ∧ DGet H a y (some v) ∧ Q v H
theorem ix_dict {X : Cx} (hu : X.A.units + 1 < cLine) : IxR X rDGetR := fun value slice pins s σ H x y v u Q I rx ry ⟨a, w, e, g, q⟩ hs => by
  subst e
  cases rx
  exact tail_any (dict_typeIs I g) PySem.F.slot_dict_getitem.lookup (d_getItem hu I g ry fun w' s3 I3 rw' => ⟨w, H, I3, rw', q⟩) hs
def rIxU (K : PySem.W.Frag) : R2 := fun x y H Q => rIx K x y H Q ∨ rDGetR x y H Q
theorem ix_U {X : Cx} (hu : X.A.units + 1 < cLine) : IxR X (rIxU X.K) := ix_seq.or (ix_dict hu)
theorem Ra.atI {K : Gx} {m : List Addr} {H : Hp} {xs : List A} {vs : List V} {i : Int} {x : A} (r : Ra K m H xs vs) (e : L2.atI xs i = some x) : ∃ v, L2.atI vs i = some v ∧ Rl K m H x v := by
  unfold L2.atI at e ⊢
  obtain ⟨j, e1, e2⟩ := Option.bind_eq_some_iff.mp e
  obtain ⟨v, e3, e4⟩ := r.get e2
  refine ⟨v, ?_, e4⟩
  rw [← r.len, e1]
  exact e3
theorem atI_map {α β : Type} {f : α → β} {xs : List α} {i : Int} {a : α} (e : L2.atI xs i = some a) : L2.atI (xs.map f) i = some (f a) := by
  unfold L2.atI at e ⊢
  rw [List.length_map]
  obtain ⟨j, e1, e2⟩ := Option.bind_eq_some_iff.mp e
  rw [e1, Option.bind_some, List.getElem?_map, e2]
  rfl
theorem sim_ix {K : Gx} : SimR K (rIxU K.K) fIx := by
  intro W m σ h H x y u v Q hr rx ry p
  cases rx with
  | fz s =>
    cases ry with
    | int i =>
      obtain ⟨b, e, p⟩ := withO_p p
      exact .inl (.inl ⟨_, _, i, .int b, rfl, rfl, s.sq, atI_map e, p.fin0 hr (.int b)⟩)
    | _ => exact p.elim
  | tup s ra =>
    cases ry with
    | int i =>
      obtain ⟨a, e, p⟩ := withO_p p
      obtain ⟨v, e1, e2⟩ := ra.atI e
      exact .inl (.inr (.inl ⟨_, _, i, v, rfl, rfl, s, e1, p.fin0 hr e2⟩))
    | _ => exact p.elim
  | str z =>
    cases ry with
    | int i =>
      obtain ⟨z1, p⟩ := ifB_p p
      obtain ⟨c, e, p⟩ := withO_p p
      exact .inl (.inr (.inr ⟨z, i, c, rfl, rfl, le_line (of_decide_eq_true z1), e, p.fin0 hr (.str _)⟩))
    | _ => exact p.elim
  | loc hn =>
    rename_i n a
    have p : Post K W (Rl K) m σ H (ixObj y h[n]? h) Q := by cases ry <;> exact p
    cases q : h[n]? with
    | none =>
      rw [q] at p
      exact p.elim
    | some o =>
      rw [q] at p
      cases o with
      | lst xs =>
        obtain ⟨vs, e1, e2⟩ := hr.lstA hn q
        cases ry with
        | int i =>
          obtain ⟨b, e, p⟩ := withO_p p
          obtain ⟨v, e3, e4⟩ := e2.atI e
          exact .inl (.inl ⟨a, vs, i, v, rfl, rfl, SqL.of e1, e3, p.fin0 hr e4⟩)
        | _ => exact p.elim
      | dK kvs =>
        obtain ⟨ws, e1, e2⟩ := hr.dKA hn q
        obtain ⟨k, ek, p⟩ := withO_p p
        obtain ⟨b, eb, p⟩ := withO_p p
        have eu := ry.key ek
        subst eu
        obtain ⟨w, e3, e4⟩ := (Rf.val (k := k) e2).1 b eb
        refine .inr ⟨a, w, rfl, ?_, p.fin0 hr e4⟩
        rw [← e3]
        exact DGet.k e1
      | ins C fs => exact p.elim
  | _ => cases ry <;> exact p.elim
/-! ### slices -/
abbrev AP := AS → AH → Res (Option Int)
def RP (_ : List Addr) (_ : Hp) (a b : Option Int) : Prop := a = b
abbrev DP (X : Cx) (cl : Nat → Addr) (W : WX) (e : Option Expr) (ev : AP) : Prop := PO X e (tOf ⟨X.K, cl⟩ W RP ev)
def aNoPart : AP := fun _ h => .ok none h
def aPart (e : AE) : AP := fun ρ h => (e ρ h).bind fun x h1 => match x with
  | .int i => .ok (some i) h1
  | _ => .bad
def cutA {α : Type} (xs : List α) (lo hi : Option Int) : List α := (xs.drop (HT.sIx xs.length 0 lo)).take (HT.sIx xs.length xs.length hi - HT.sIx xs.length 0 lo)
def fSl : A → Option Int → Option Int → AH → Res A
  | .tup xs, lo, hi, h => .ok (.tup (cutA xs lo hi)) h
  | .str z, lo, hi, h => ifB (decide (z.length ≤ 100000)) (.ok (.str ⟨(cutA z.cps.toList lo hi).toArray⟩) h)
  | .loc n, lo, hi, h => withO (rdAt h n) fun xs => .ok (.loc h.length) (h ++ [.lst (cutA xs lo hi)])
  | _, _, _, _ => .bad
def aSl (e : AE) (lo hi : AP) : AE := fun ρ h => (e ρ h).bind fun x h1 => (lo ρ h1).bind fun l h2 => (hi ρ h2).bind fun u h3 => fSl x l u h3
def rSlU (K : PySem.W.Frag) : V → Option Int → Option Int → Hp → VK → Prop := fun x lo hi H Q => rSlL K x lo hi H Q ∨ rSlA K x lo hi H Q ∨ rSlS x lo hi H Q
theorem sl_U {X : Cx} : SlR X (rSlU X.K) := sl_list.or (sl_tupA.or sl_str)
theorem Ra.cut {K : Gx} {m : List Addr} {H : Hp} {xs : List A} {vs : List V} (r : Ra K m H xs vs) (lo hi : Option Int) : Ra K m H (cutA xs lo hi) (cutV vs lo hi) := by
  unfold cutA cutV
  rw [r.len]
  exact (r.drop _).take _
section
variable {X : Cx} {cl : Nat → Addr} {W : WX} {e : Expr} {ee : AE}
theorem dp_none : DP X cl W none aNoPart := ⟨fun pins s σ H Q I ⟨m, ρ, h, hr, rs, p⟩ => po_none.run pins s σ H Q I (p.fin0 hr rfl)⟩
theorem dp_some (he : DE X cl W e ee) : DP X cl W (some e) (aPart ee) := ⟨fun pins s σ H Q I ⟨m, ρ, h, hr, rs, p⟩ => (po_some he).run pins s σ H Q I ⟨m, ρ, h, hr, rs, Post.bind p fun x h1 m1 v1 H1 e1 f1 hr1 r1 p1 => by
  cases r1 with
  | int i => exact ⟨i, rfl, p1.fin0 hr1 rfl⟩
  | _ => exact p1.elim⟩⟩
theorem sim_sl {K : Gx} {m : List Addr} {σ : L2.St} {h : AH} {H : Hp} {x : A} {u : V} {lo hi : Option Int} {Q : VK} (hr : HR K m h H) (rx : Rl K m H x u) (p : Post K W (Rl K) m σ H (fSl x lo hi h) Q) : rSlU K.K u lo hi H Q := by
  cases rx with
  | tup s ra =>
    refine .inr (.inl ⟨_, _, rfl, s, fun z => ?_, fun _ q hq => ?_⟩)
    · refine p.fin0 hr (.tup s ?_)
      have := ra.cut lo hi
      unfold cutV at this
      rw [z.1, z.2] at this
      simpa using this
    · exact p.fin (Fw.new0 hq _) (hr.new0 hq _) (.tup (SqT.of upd_same) ((ra.cut lo hi).fw hr (Fw.new0 hq _)))
  | str z =>
    obtain ⟨z1, p⟩ := ifB_p p
    refine .inr (.inr ⟨z, rfl, le_line (of_decide_eq_true z1), ?_⟩)
    exact p.fin0 hr (.str _)
  | loc hn =>
    obtain ⟨xs, e1, p⟩ := withO_p p
    obtain ⟨vs, a1, r1⟩ := hr.rdA hn e1
    refine .inl ⟨_, vs, rfl, a1, fun q hq => ?_⟩
    obtain ⟨n1, n2, n3⟩ := newLst hr hq (r1.cut lo hi)
    exact p.fin n2 n1 n3
  | _ => exact p.elim
theorem de_sl {lo hi : Option Expr} {el eh : AP} {p2 pos : Pos} (he : DE X cl W e ee) (hl : DP X cl W lo el) (hu : DP X cl W hi eh) : DE X cl W (.Subscript e (.Slice lo hi none p2) pos) (aSl ee el eh) :=
  peM (pe_slice sl_U he hl hu) fun σ H Q ⟨m, ρ, h, hr, rs, p⟩ => ⟨m, ρ, h, hr, rs, Post.bind p fun x h1 m1 v1 H1 e1 f1 hr1 r1 p1 => ⟨m1, ρ, h1, hr1, rs.fw hr f1, Post.bind p1 fun l h2 m2 v2 H2 e2 f2 hr2 r2 p2 => by
    cases r2
    exact ⟨m2, ρ, h2, hr2, (rs.fw hr f1).fw hr1 f2, Post.bind p2 fun l2 h3 m3 v3 H3 e3 f3 hr3 r3 p3 => by
      cases r3
      exact sim_sl hr3 (r1.fw hr1 (f2.trans f3)) p3⟩⟩⟩
theorem de_ix {a b : Expr} {ea eb : AE} {pos : Pos} (hu : X.A.units + 1 < cLine) (ha : DE X cl W a ea) (hb : DE X cl W b eb) (hs : PlainIx b) : DE X cl W (.Subscript a b pos) (aBin fIx ea eb) := peM (pe_ix (ix_U hu) ha hb hs) fun _ _ _ q => sim_op sim_ix q
end
/-! ### attributes -/
def fFld (Cs : List Nat) (f : Str) (x : A) (h : AH) : Res A := match x with
  | .loc n => withO (objAt h n) fun o => ifB (Cs.contains o.1) (withO (o.2.lookup f) fun a => .ok a h)
  | _ => .bad
section
variable {X : Cx} {cl : Nat → Addr} {W : WX} {e : Expr} {ee : AE} {f : Str} {pos : Pos}
theorem de_fld {Cs : List Nat} (hC : ∀ C ∈ Cs, Cls X.K (cl C) ∧ NoAttr X.K (cl C) f) (he : DE X cl W e ee) (hb : attributeBase e f X.env (eval e X.env) = eval e X.env) : DE X cl W (.Attribute e f pos) (aUn (fFld Cs f) ee) :=
  peM (pe_fld he hb) fun σ H Q ⟨m, ρ, h, hr, rs, p⟩ => ⟨m, ρ, h, hr, rs, Post.bind p fun x h1 m1 v1 H1 e1 f1 hr1 r1 p1 => by
    cases r1 with
    | loc hn =>
      obtain ⟨⟨C, fs⟩, eo, p1⟩ := withO_p p1
      obtain ⟨z, p1⟩ := ifB_p p1
      obtain ⟨b, eb, p1⟩ := withO_p p1
      obtain ⟨dx, ws, h2, h3⟩ := hr1.insA hn (objAt_of eo)
      obtain ⟨v, h4, h5⟩ := h3.look eb
      obtain ⟨c1, c2⟩ := hC C (List.contains_iff_mem.mp z)
      exact ⟨_, _, dx, ws, v, rfl, h2, c1, c2, h4, p1.fin0 hr1 h5⟩
    | _ => exact p1.elim⟩
end
/-! ### calls of builtins -/
def aCall (f : List A → AH → Res A) (es : AL) : AE := fun ρ h => (es ρ h).bind f
def aMeth (f : A → List A → AH → Res A) (o : AE) (es : AL) : AE := fun ρ h => (o ρ h).bind fun x h1 => (es ρ h1).bind fun xs h2 => f x xs h2
/-- a value of a builtin type -/
def tyA (T : String) (h : AH) : A → Bool
  | .str _ => T == "str"
  | .int _ => T == "int"
  | .loc n => match h[n]? with
    | some (.lst _) => T == "list"
    | some (.dK _) => T == "dict"
    | _ => false
  | _ => false
theorem tyA_rel {K : Gx} {m : List Addr} {h : AH} {H : Hp} {T : String} {x : A} {v : V} (hr : HR K m h H) (r : Rl K m H x v) (e : tyA T h x = true) : tyV K.K T v H := by
  cases r with
  | str i => exact beq_iff_eq.mp e
  | int i => exact beq_iff_eq.mp e
  | loc hn =>
    rename_i n a
    unfold tyA at e
    simp only at e
    cases q : h[n]? with
    | none =>
      rw [q] at e
      cases e
    | some o =>
      rw [q] at e
      cases o with
      | lst xs =>
        obtain ⟨vs, e1, _⟩ := hr.lstA hn q
        exact .inl ⟨beq_iff_eq.mp e, vs, SqL.of e1⟩
      | dK kvs =>
        obtain ⟨vs, e1, _⟩ := hr.dKA hn q
        exact .inr (.inr (.inl ⟨beq_iff_eq.mp e, .inl ⟨vs, e1⟩⟩))
      | ins C fs => cases e
  | _ => cases e
/-- a method that is asked with its type looked at first -/
def aBM (T : String) (f : A → List A → AH → Res A) (o : AE) (es : AL) : AE := fun ρ h => (o ρ h).bind fun x h1 => ifB (tyA T h1 x) ((es ρ h1).bind fun xs h2 => f x xs h2)
def aBM0 (T : String) (f : A → List A → AH → Res A) (o : AE) : AE := fun ρ h => (o ρ h).bind fun x h1 => ifB (tyA T h1 x) (f x [] h1)
abbrev SimM (K : Gx) (r : V → List V → Hp → VK → Prop) (f : A → List A → AH → Res A) : Prop := ∀ (W : WX) (m : List Addr) (σ : L2.St) (h : AH) (H : Hp) (x : A) (u : V) (xs : List A) (us : List V) (Q : VK), HR K m h H → Rl K m H x u → Ra K m H xs us → Post K W (Rl K) m σ H (f x xs h) Q → r u us H Q
section
variable {X : Cx} {cl : Nat → Addr} {W : WX} {e o : Expr} {es : List Expr} {eo : AE} {er : AL} {p pos apos cpos : Pos} {x : Str}
theorem de_callB {id : String} {r : List V → Hp → VK → Prop} {f : List A → AH → Res A} (s : SimC ⟨X.K, cl⟩ r f) (hc : CallR X (.builtin id) r) (hg : Gl X x) (hm : X.mg x = none) (hv : bootBuiltins x = some (.builtin id)) (ha : DA X cl W (e :: es) er) (hn : x ≠ "__name__" := by decide) (hdb : (x == ("__debug__" : Str)) = false := by decide)
    (he : starEach (e :: es) X.env = (false, eval e X.env) :: starEach es X.env := by rfl) (hpl : (backTo pos (starEach es X.env)).any (·.1) = false := by rfl) : DE X cl W (.Call (.Name x p) (e :: es) [] pos) (aCall f er) :=
  peM (pe_callB hc hg hm hv ha hn hdb he hpl) fun σ H Q ⟨m, ρ, h, hr, rs, p⟩ => ⟨m, ρ, h, hr, rs, Post.bind p fun xs h1 m1 v1 H1 e1 f1 hr1 r1 p1 => s W m1 σ h1 H1 xs v1 Q hr1 r1 p1⟩
theorem de_callTy {T : String} {r : List V → Hp → VK → Prop} {f : List A → AH → Res A} (s : SimC ⟨X.K, cl⟩ r f) (hc : CallR X (.type T) r) (hg : Gl X x) (hm : X.mg x = none) (hv : bootBuiltins x = some (.type T)) (ha : DA X cl W (e :: es) er) (hn : x ≠ "__name__" := by decide) (hdb : (x == ("__debug__" : Str)) = false := by decide)
    (he : starEach (e :: es) X.env = (false, eval e X.env) :: starEach es X.env := by rfl) (hpl : (backTo pos (starEach es X.env)).any (·.1) = false := by rfl) : DE X cl W (.Call (.Name x p) (e :: es) [] pos) (aCall f er) :=
  peM (pe_callTy hc hg hm hv ha hn hdb he hpl) fun σ H Q ⟨m, ρ, h, hr, rs, p⟩ => ⟨m, ρ, h, hr, rs, Post.bind p fun xs h1 m1 v1 H1 e1 f1 hr1 r1 p1 => s W m1 σ h1 H1 xs v1 Q hr1 r1 p1⟩
theorem de_bm {T id : String} {name : Str} {r : V → List V → Hp → VK → Prop} {f : A → List A → AH → Res A} (s : SimM ⟨X.K, cl⟩ r f) (pa : PlainAttrs T) (slot : Slot T name id) (hty : typeOf (.builtin id) = pure (.type "method_descriptor")) (hm : MtR X id r) (ho : DE X cl W o eo) (ha : DA X cl W (e :: es) er)
    (hbase : attributeBase o name X.env (eval o X.env) = eval o X.env := by rfl)
    (hfew : ((backTo cpos (starEach (e :: es) X.env)).all (fun x => !x.1) && (backToKw cpos (keywordEach [] X.env)).all (fun x => x.1.isSome) && decide ((e :: es).length + ([] : List Keyword).length + (if ([] : List Keyword).isEmpty then 0 else 1) < 30)) = true := by rfl)
    (hline : (apos.endLine == cpos.line) = true := by rfl) (hs : starEach (e :: es) X.env = (false, eval e X.env) :: starEach es X.env := by rfl) (hplain : (backTo cpos (starEach es X.env)).any (·.1) = false := by rfl) : DE X cl W (.Call (.Attribute o name apos) (e :: es) [] cpos) (aBM T f eo er) :=
  peM (pe_bm pa slot hty hm ho ha hbase hfew hline hs hplain) fun σ H Q ⟨m, ρ, h, hr, rs, p⟩ => ⟨m, ρ, h, hr, rs, Post.bind p fun x h1 m1 v1 H1 e1 f1 hr1 r1 p1 => by
    obtain ⟨z, p1⟩ := ifB_p p1
    exact ⟨tyA_rel hr1 r1 z, m1, ρ, h1, hr1, rs.fw hr f1, Post.bind p1 fun xs h2 m2 vs H2 e2 f2 hr2 r2 p2 => s W m2 σ h2 H2 x v1 xs vs Q hr2 (r1.fw hr1 f2) r2 p2⟩⟩
theorem de_bm0 {T id : String} {name : Str} {r : V → List V → Hp → VK → Prop} {f : A → List A → AH → Res A} (s : SimM ⟨X.K, cl⟩ r f) (pa : PlainAttrs T) (slot : Slot T name id) (hty : typeOf (.builtin id) = pure (.type "method_descriptor")) (hm : MtR X id r) (ho : DE X cl W o eo)
    (hbase : attributeBase o name X.env (eval o X.env) = eval o X.env := by rfl) (hline : (apos.endLine == cpos.line) = true := by rfl) : DE X cl W (.Call (.Attribute o name apos) [] [] cpos) (aBM0 T f eo) :=
  peM (pe_bm0 pa slot hty hm ho hbase hline) fun σ H Q ⟨m, ρ, h, hr, rs, p⟩ => ⟨m, ρ, h, hr, rs, Post.bind p fun x h1 m1 v1 H1 e1 f1 hr1 r1 p1 => by
    obtain ⟨z, p1⟩ := ifB_p p1
    exact ⟨tyA_rel hr1 r1 z, s W m1 σ h1 H1 x v1 [] [] Q hr1 r1 .nil p1⟩⟩
end
end SA
set_option Elab.async false
set_option linter.all false
set_option maxRecDepth 100000
set_option maxHeartbeats 4000000
/-! SE: statements, calls of defs. -/
namespace SA
open PySem PySem.Spec PyProof.Rows L2
def PostS (K : Gx) (W : WX) (m : List Addr) (H : Hp) (fl : Fl) (D : Ends) : Prop := match fl with
  | .nx ρ h' => ∀ m' σ' H', Fw m H m' H' → HR K m' h' H' → RS K m' H' ρ σ' → D.nx σ' H'
  | .rt a h' => ∀ m' v H', Fw m H m' H' → HR K m' h' H' → Rl K m' H' a v → D.rt v H'
  | .bk ρ h' => ∀ m' σ' H', Fw m H m' H' → HR K m' h' H' → RS K m' H' ρ σ' → D.bk σ' H'
  | .ct ρ h' => ∀ m' σ' H', Fw m H m' H' → HR K m' h' H' → RS K m' H' ρ σ' → D.ct σ' H'
  | .exc c fs ρ h' => ∀ m' d σ' H', Fw m H m' H' → HR K m' h' H' → RS K m' H' ρ σ' → XD K m' H' fs d → W (.ref (K.cl c)) d σ' H'
  | .bad => False
def tOfS (K : Gx) (W : WX) (ev : AC) : TS := fun D σ H => ∃ m ρ h, HR K m h H ∧ RS K m H ρ σ ∧ PostS K W m H (ev ρ h) D
abbrev DS (X : Cx) (cl : Nat → Addr) (W : WX) (st : Stmt) (ev : AC) : Prop := PS X st (tOfS ⟨X.K, cl⟩ W ev)
abbrev DB (X : Cx) (cl : Nat → Addr) (W : WX) (st : List Stmt) (ev : AC) : Prop := PSs X st (tOfS ⟨X.K, cl⟩ W ev)
def bindS {α : Type} (r : Res α) (ρ : AS) (k : α → AH → Fl) : Fl := match r with
  | .ok a h => k a h
  | .exc c fs h => .exc c fs ρ h
  | .bad => .bad
section
variable {α β : Type} {K : Gx} {W : WX} {R : List Addr → Hp → α → β → Prop} {m m1 : List Addr} {σ : L2.St} {h h1 : AH} {H H1 : Hp} {Q : β → Hp → Prop} {ρ : AS} {D : Ends}
theorem PostS.fw {fl : Fl} (p : PostS K W m H fl D) (f : Fw m H m1 H1) : PostS K W m1 H1 fl D := by
  cases fl with
  | nx ρ h' => exact fun m' v H' g => p m' v H' (f.trans g)
  | rt a h' => exact fun m' v H' g => p m' v H' (f.trans g)
  | bk ρ h' => exact fun m' v H' g => p m' v H' (f.trans g)
  | ct ρ h' => exact fun m' v H' g => p m' v H' (f.trans g)
  | exc c fs ρ h' => exact fun m' v σ' H' g => p m' v σ' H' (f.trans g)
  | bad => exact p
theorem PostS.bind {r : Res α} {k : α → AH → Fl} (p : PostS K W m H (bindS r ρ k) D) (hr : HR K m h H) (rs : RS K m H ρ σ)
    (q : ∀ a h1 m1 v1 H1, r = .ok a h1 → Fw m H m1 H1 → HR K m1 h1 H1 → R m1 H1 a v1 → PostS K W m1 H1 (k a h1) D → Q v1 H1) : Post K W R m σ H r Q := by
  cases r with
  | ok a h' => exact fun m' v H' g hr rl => q a h' m' v H' rfl g hr rl (PostS.fw (fl := k a h') p g)
  | exc c fs h' => exact fun m' d H' g hr' x => p m' d σ H' g hr' (rs.fw hr g) x
  | bad => exact p
theorem PostS.nx (p : PostS K W m H (.nx ρ h) D) (hr : HR K m h H) (rs : RS K m H ρ σ) : D.nx σ H := p m σ H (Fw.refl m H) hr rs
end
/-! ### simple statements -/
def aPass : AC := fun ρ h => .nx ρ h
def aExpr (e : AE) : AC := fun ρ h => bindS (e ρ h) ρ fun _ h1 => .nx ρ h1
def aRet (e : AE) : AC := fun ρ h => bindS (e ρ h) ρ fun a h1 => .rt a h1
def aRetN : AC := fun _ h => .rt .non h
def aSet (i : Nat) (e : AE) : AC := fun ρ h => bindS (e ρ h) ρ fun a h1 => .nx (ρ.set i (some a)) h1
def aSeq (s t : AC) : AC := fun ρ h => match s ρ h with
  | .nx ρ' h' => t ρ' h'
  | .rt a h' => .rt a h'
  | .bk ρ' h' => .bk ρ' h'
  | .ct ρ' h' => .ct ρ' h'
  | .exc c fs ρ' h' => .exc c fs ρ' h'
  | .bad => .bad
def aIfS (t : AT) (s u : AC) : AC := fun ρ h => bindS (t ρ h) ρ fun b h1 => match b with
  | true => s ρ h1
  | false => u ρ h1
section
variable {X : Cx} {cl : Nat → Addr} {W : WX} {e c : Expr} {ee : AE} {tc : AT} {pos : Pos} {st : Stmt} {sts a b : List Stmt} {es et : AC}
theorem ds_pass : DS X cl W (.Pass pos) aPass := psM ps_pass fun D σ H ⟨m, ρ, h, hr, rs, p⟩ => p.nx hr rs
theorem ds_break : DS X cl W (.Break pos) (fun ρ h => .bk ρ h) := psM ps_break fun D σ H ⟨m, ρ, h, hr, rs, p⟩ => p m σ H (Fw.refl m H) hr rs
theorem ds_continue : DS X cl W (.Continue pos) (fun ρ h => .ct ρ h) := psM ps_continue fun D σ H ⟨m, ρ, h, hr, rs, p⟩ => p m σ H (Fw.refl m H) hr rs
theorem ds_expr (he : DE X cl W e ee) (hs : swapsWith e none pos.line X.env = pure false := by rfl) : DS X cl W (.Expr e pos) (aExpr ee) :=
  psM (ps_expr he hs) fun D σ H ⟨m, ρ, h, hr, rs, p⟩ => ⟨m, ρ, h, hr, rs, PostS.bind p hr rs fun x h1 m1 v1 H1 e1 f1 hr1 r1 p1 => p1.nx hr1 (rs.fw hr f1)⟩
theorem ds_ret (he : DE X cl W e ee) : DS X cl W (.Return (some e) pos) (aRet ee) :=
  psM (ps_ret he) fun D σ H ⟨m, ρ, h, hr, rs, p⟩ => ⟨m, ρ, h, hr, rs, PostS.bind p hr rs fun x h1 m1 v1 H1 e1 f1 hr1 r1 p1 => p1 m1 v1 H1 (Fw.refl _ _) hr1 r1⟩
theorem ds_retN : DS X cl W (.Return none pos) aRetN := psM ps_retN fun D σ H ⟨m, ρ, h, hr, rs, p⟩ => p m .non H (Fw.refl m H) hr .non
theorem ds_set {i : Nat} {x : Str} {pos' : Pos} (hN : X.N.Nodup) (hi : X.N[i]? = some x) (hx : Loc X.env.scope x) (he : DE X cl W e ee) (hs : swapsWith e (some (.Name x pos')) pos.line X.env = pure false := by rfl) (hf : X.fn x = true ∨ X.env.scope.names.lookup x = some .local := by first | exact .inl rfl | exact .inr rfl | assumption) :
    DS X cl W (.Assign [.Name x pos'] e pos) (aSet i ee) :=
  psM (ps_set hN hi hx he hs hf) fun D σ H ⟨m, ρ, h, hr, rs, p⟩ => ⟨m, ρ, h, hr, rs, PostS.bind p hr rs fun x h1 m1 v1 H1 e1 f1 hr1 r1 p1 => p1.nx hr1 ((rs.fw hr f1).set r1 i)⟩
theorem db_nil : DB X cl W [] aPass := pssM pss_nil fun D σ H ⟨m, ρ, h, hr, rs, p⟩ => p.nx hr rs
theorem db_cons (h1 : DS X cl W st es) (h2 : DB X cl W sts et) : DB X cl W (st :: sts) (aSeq es et) :=
  pssM (pss_cons h1 h2) fun D σ H ⟨m, ρ, h, hr, rs, p⟩ => ⟨m, ρ, h, hr, rs, by
    unfold aSeq at p
    generalize es ρ h = fl at p ⊢
    cases fl with
    | nx ρ' h' => exact fun m' σ' H' g hr' rs' => ⟨m', ρ', h', hr', rs', PostS.fw p g⟩
    | _ => exact p⟩
theorem db_one (h1 : DS X cl W st es) : DB X cl W [st] es := pss_one h1
theorem ds_if (hc : DT X cl W c tc) (ha : DB X cl W a es) (hb : DB X cl W b et) : DS X cl W (.If c a b pos) (aIfS tc es et) :=
  psM (ps_if hc ha hb) fun D σ H ⟨m, ρ, h, hr, rs, p⟩ => ⟨m, ρ, h, hr, rs, PostS.bind p hr rs fun x h1 m1 v1 H1 e1 f1 hr1 r1 p1 => by
    cases r1
    cases x with
    | true => exact iteT ⟨m1, ρ, h1, hr1, rs.fw hr f1, p1⟩
    | false => exact iteF ⟨m1, ρ, h1, hr1, rs.fw hr f1, p1⟩⟩
end
/-! ### targets -/
abbrev AG := A → AS → AH → Option AS
abbrev AGs := List A → AS → AH → Option AS
def gOf (K : Gx) (g : AG) : TG := fun v σ H Q => ∃ m ρ h a ρ', HR K m h H ∧ RS K m H ρ σ ∧ Rl K m H a v ∧ g a ρ h = some ρ' ∧ ∀ σ', RS K m H ρ' σ' → Q σ' H
def gsOf (K : Gx) (g : AGs) : TGs := fun vs σ H Q => ∃ m ρ h as ρ', HR K m h H ∧ RS K m H ρ σ ∧ Ra K m H as vs ∧ g as ρ h = some ρ' ∧ ∀ σ', RS K m H ρ' σ' → Q σ' H
abbrev DG (X : Cx) (cl : Nat → Addr) (tg : Expr) (g : AG) : Prop := PG X tg (gOf ⟨X.K, cl⟩ g)
abbrev DGs (X : Cx) (cl : Nat → Addr) (tg : List Expr) (g : AGs) : Prop := PGs X tg (gsOf ⟨X.K, cl⟩ g)
theorem pgM {X : Cx} {e : Expr} {t u : TG} (h : PG X e t) (q : ∀ v σ H Q, u v σ H Q → t v σ H Q) : PG X e u := ⟨fun pins s σ H x v Q I r w => h.run pins s σ H x v Q I r (q x σ H Q w)⟩
theorem pgsM {X : Cx} {e : List Expr} {t u : TGs} (h : PGs X e t) (q : ∀ v σ H Q, u v σ H Q → t v σ H Q) : PGs X e u := ⟨fun pins s σ H x v Q I r w => h.run pins s σ H x v Q I r (q x σ H Q w)⟩
def gNm (i : Nat) : AG := fun a ρ _ => some (ρ.set i (some a))
def gsNil : AGs := fun as ρ _ => match as with
  | [] => some ρ
  | _ :: _ => none
def gsCons (g : AG) (r : AGs) : AGs := fun as ρ h => match as with
  | [] => none
  | a :: as => match g a ρ h with
    | some ρ' => r as ρ' h
    | none => none
def gTp (n : Nat) (r : AGs) : AG := fun a ρ h => match a with
  | .tup xs => match xs.length == n with
    | true => r xs ρ h
    | false => none
  | _ => none
def gLs (n : Nat) (r : AGs) : AG := fun a ρ h => match a with
  | .loc k => match lstAt h k with
    | some xs => match xs.length == n with
      | true => r xs ρ h
      | false => none
    | none => none
  | _ => none
section
variable {X : Cx} {cl : Nat → Addr} {W : WX} {e : Expr} {es : List Expr} {g : AG} {gs : AGs} {pos : Pos} {ee : AE}
theorem dg_name {i : Nat} {x : Str} (hN : X.N.Nodup) (hi : X.N[i]? = some x) (hx : Loc X.env.scope x) (hf : X.fn x = true ∨ X.env.scope.names.lookup x = some .local := by first | exact .inl rfl | exact .inr rfl | assumption) : DG X cl (.Name x pos) (gNm i) :=
  pgM (pg_name hN hi hx hf) fun v σ H Q ⟨m, ρ, h, a, ρ', hr, rs, ra, e, q⟩ => by
    cases e
    exact q _ (rs.set ra i)
theorem dgs_nil : DGs X cl [] gsNil := pgsM pgs_nil fun vs σ H Q ⟨m, ρ, h, as, ρ', hr, rs, ra, e, q⟩ => by
  cases ra with
  | nil =>
    cases e
    exact ⟨rfl, q _ rs⟩
  | cons _ _ => cases e
theorem dgs_cons (h1 : DG X cl e g) (h2 : DGs X cl es gs) (hs : (assignEach (e :: es) X.env).map (·.2) = assign e X.env :: (assignEach es X.env).map (·.2) := by rfl) : DGs X cl (e :: es) (gsCons g gs) :=
  pgsM (pgs_cons h1 h2 hs) fun vs σ H Q ⟨m, ρ, h, as, ρ', hr, rs, ra, e, q⟩ => by
    cases ra with
    | nil => cases e
    | @cons a as v vs r1 r2 =>
      have e : (match g a ρ h with | some ρ' => gs as ρ' h | none => none) = some ρ' := e
      cases z : g a ρ h with
      | none =>
        rw [z] at e
        cases e
      | some ρ1 =>
        rw [z] at e
        exact ⟨v, vs, rfl, m, ρ, h, a, ρ1, hr, rs, r1, z, fun σ1 rs1 => ⟨m, ρ1, h, as, ρ', hr, rs1, r2, e, q⟩⟩
theorem dg_tup {k : Nat} {n : Nat} (hc : X.calm = true) (h : DGs X cl es gs) (hn : (assignEach es X.env).length = n := by rfl) (hst : (assignEach es X.env).findIdx? (·.1) = none := by rfl) : DG X cl (.Tuple es k pos) (gTp n gs) :=
  pgM (pg_tup hc h hn hst) fun v σ H Q ⟨m, ρ, h, a, ρ', hr, rs, ra, e, q⟩ => by
    cases ra with
    | @tup ad vs xs s r =>
      have e : (match xs.length == n with | true => gs xs ρ h | false => none) = some ρ' := e
      cases z : xs.length == n with
      | false =>
        rw [z] at e
        cases e
      | true =>
        rw [z] at e
        exact ⟨ad, vs, rfl, s, by rw [← r.len]; exact beq_iff_eq.mp z, m, ρ, h, xs, ρ', hr, rs, r, e, q⟩
    | _ => cases e
theorem dg_lst {k : Nat} {n : Nat} (hc : X.calm = true) (h : DGs X cl es gs) (hn : (assignEach es X.env).length = n := by rfl) (hst : (assignEach es X.env).findIdx? (·.1) = none := by rfl) : DG X cl (.Tuple es k pos) (gLs n gs) :=
  pgM (pg_lst hc h hn hst) fun v σ H Q ⟨m, ρ, h, a, ρ', hr, rs, ra, e, q⟩ => by
    cases ra with
    | @loc k ad hk =>
      have e : (match lstAt h k with | some xs => (match xs.length == n with | true => gs xs ρ h | false => none) | none => none) = some ρ' := e
      cases l : lstAt h k with
      | none =>
        rw [l] at e
        cases e
      | some xs =>
        rw [l] at e
        have e : (match xs.length == n with | true => gs xs ρ h | false => none) = some ρ' := e
        obtain ⟨vs, a1, r⟩ := hr.lstA hk (lstAt_of l)
        cases z : xs.length == n with
        | false =>
          rw [z] at e
          cases e
        | true =>
          rw [z] at e
          exact ⟨ad, vs, rfl, SqL.of a1, by rw [← r.len]; exact beq_iff_eq.mp z, m, ρ, h, xs, ρ', hr, rs, r, e, q⟩
    | _ => cases e
def aAsg (g : AG) (e : AE) : AC := fun ρ h => bindS (e ρ h) ρ fun a h1 => match g a ρ h1 with
  | some ρ' => .nx ρ' h1
  | none => .bad
theorem ds_asg {tg : Expr} (he : DE X cl W e ee) (hg : DG X cl tg g) (hs : swapsWithSole [tg] e pos.line X.env = pure false := by rfl) (hw : swappedStores [tg] e X.env = pure none := by rfl) (h1 : (assignEach [tg] X.env).map (·.2) = [assign tg X.env] := by rfl) : DS X cl W (.Assign [tg] e pos) (aAsg g ee) :=
  psM (ps_asg he hg hs hw h1) fun D σ H ⟨m, ρ, h, hr, rs, p⟩ => ⟨m, ρ, h, hr, rs, PostS.bind p hr rs fun x h1 m1 v1 H1 e1 f1 hr1 r1 p1 => by
    cases z : g x ρ h1 with
    | none =>
      rw [z] at p1
      exact p1.elim
    | some ρ' =>
      rw [z] at p1
      exact ⟨m1, ρ, h1, x, ρ', hr1, rs.fw hr f1, r1, z, fun σ' rs' => p1.nx hr1 rs'⟩⟩
end
/-! ### attributes stored -/
def putFA (f : Str) (a : A) : List (Str × A) → List (Str × A)
  | [] => [(f, a)]
  | (g, b) :: r => match eqStr g f with
    | true => (g, a) :: r
    | false => (g, b) :: putFA f a r
theorem Rf.put {K : Gx} {m : List Addr} {H : Hp} {f : Str} {a : A} {v : V} (q : Rl K m H a v) : ∀ {fs : List (Str × A)} {ws : List (Str × V)}, Rf K m H fs ws → Rf K m H (putFA f a fs) (putF f v ws)
  | _, _, .nil => .cons ⟨rfl, q⟩ .nil
  | (g, b) :: r, (g', w) :: ws, .cons ⟨e, rl⟩ t => by
    cases e
    show Rf K m H (match eqStr g f with | true => (g, a) :: r | false => (g, b) :: putFA f a r) (if g = f then (g, v) :: ws else (g, w) :: putF f v ws)
    cases z : eqStr g f with
    | true =>
      rw [if_pos (eqStr_iff.mp z)]
      exact .cons ⟨rfl, q⟩ t
    | false =>
      rw [if_neg fun y => by rw [eqStr_iff.mpr y] at z; cases z]
      exact .cons ⟨rfl, rl⟩ (Rf.put q t)
theorem Rf.length {κ : Type} {K : Gx} {m : List Addr} {H : Hp} : ∀ {fs : List (κ × A)} {ws : List (κ × V)}, Rf K m H fs ws → fs.length = ws.length
  | _, _, .nil => rfl
  | _, _, .cons _ t => congrArg (· + 1) (Rf.length t)
/-- the attribute f of the object at x is a from now on -/
def putO (Cs : List Nat) (f : Str) (x a : A) (h : AH) : Option AH := match x with
  | .loc n => match objAt h n with
    | some (C, fs) => match Cs.contains C && decide (fs.length < 1000) with
      | true => some (h.set n (.ins C (putFA f a fs)))
      | false => none
    | none => none
  | _ => none
theorem putO_p {K : Gx} {m : List Addr} {h h' : AH} {H : Hp} {Cs : List Nat} {f : Str} {x a : A} {u v : V} (hr : HR K m h H) (rx : Rl K m H x u) (ra : Rl K m H a v) (e : putO Cs f x a h = some h') :
    ∃ ad C dx ws, u = .ref ad ∧ H ad = some (.ins (K.cl C) dx ws) ∧ C ∈ Cs ∧ ws.length < 1000 ∧ Fw m H m (upd H ad (.ins (K.cl C) dx (putF f v ws))) ∧ HR K m h' (upd H ad (.ins (K.cl C) dx (putF f v ws))) := by
  cases rx with
  | @loc n ad hn =>
    unfold putO at e
    simp only at e
    cases l : objAt h n with
    | none =>
      rw [l] at e
      cases e
    | some o =>
      obtain ⟨C, fs⟩ := o
      rw [l] at e
      simp only at e
      cases z : (Cs.contains C && decide (fs.length < 1000)) with
      | false =>
        rw [z] at e
        cases e
      | true =>
        rw [z] at e
        cases e
        obtain ⟨z1, z2⟩ := Bool.and_eq_true_iff.mp z
        obtain ⟨dx, ws, h2, h3⟩ := hr.insA hn (objAt_of l)
        have fw : Fw m H m (upd H ad (.ins (K.cl C) dx (putF f v ws))) := Fw.put (List.mem_of_getElem? hn) _
        exact ⟨ad, C, dx, ws, rfl, h2, List.contains_iff_mem.mp z1, by rw [← h3.length]; exact of_decide_eq_true z2, fw, hr.put hn ⟨dx, _, upd_same, (h3.put ra).fw hr fw⟩⟩
  | _ => cases e
def aFldS (Cs : List Nat) (f : Str) (o e : AE) : AC := fun ρ h => bindS (e ρ h) ρ fun a h1 => bindS (o ρ h1) ρ fun x h2 => match putO Cs f x a h2 with
  | some h3 => .nx ρ h3
  | none => .bad
section
variable {X : Cx} {cl : Nat → Addr} {W : WX} {o e : Expr} {eo ee : AE} {f : Str} {pos pos' tpos : Pos}
theorem ds_fld {Cs : List Nat} (hC : ∀ C ∈ Cs, Cls X.K (cl C) ∧ NoAttr X.K (cl C) f) (ho : DE X cl W o eo) (he : DE X cl W e ee) (hs : swapsWith e (some (.Attribute o f pos')) pos.line X.env = pure false) : DS X cl W (.Assign [.Attribute o f pos'] e pos) (aFldS Cs f eo ee) :=
  psM (ps_fld ho he hs) fun D σ H ⟨m, ρ, h, hr, rs, p⟩ => ⟨m, ρ, h, hr, rs, PostS.bind p hr rs fun a h1 m1 v1 H1 e1 f1 hr1 r1 p1 => ⟨m1, ρ, h1, hr1, rs.fw hr f1, PostS.bind p1 hr1 (rs.fw hr f1) fun x h2 m2 v2 H2 e2 f2 hr2 r2 p2 => by
    cases z : putO Cs f x a h2 with
    | none =>
      rw [z] at p2
      exact p2.elim
    | some h3 =>
      rw [z] at p2
      obtain ⟨ad, C, dx, ws, e3, h4, hc, hl, fw, hr3⟩ := putO_p hr2 r2 (r1.fw hr1 f2) z
      exact ⟨ad, _, dx, ws, e3, h4, (hC C hc).1, (hC C hc).2, hl, p2 m2 σ _ fw hr3 ((rs.fw hr (f1.trans f2)).fw hr2 fw)⟩⟩⟩
/-- o.f += e, - : ints -/
def aFldI (C0 : Nat) (f : Str) (g : Int → Int → Int) (o e : AE) : AC := fun ρ h => bindS (o ρ h) ρ fun x h1 => bindS (fFld [C0] f x h1) ρ fun a h2 => bindS (e ρ h2) ρ fun b h3 => match a, b with
  | .int i, .int j => match putO [C0] f x (.int (g i j)) h3 with
    | some h4 => .nx ρ h4
    | none => .bad
  | _, _ => .bad
theorem ds_fldI {C0 : Nat} {op : Operator} {g : Int → Int → Int} (hC : ∀ C ∈ [C0], Cls X.K (cl C) ∧ NoAttr X.K (cl C) f) (hop : InOp X op fun x y H Q => ∃ i j, x = .int i ∧ y = .int j ∧ Q (.int (g i j)) H) (ho : DE X cl W o eo) (he : DE X cl W e ee) : DS X cl W (.AugAssign (.Attribute o f tpos) op e pos) (aFldI C0 f g eo ee) :=
  psM (ps_fldaug ho he hop) fun D σ H ⟨m, ρ, h, hr, rs, p⟩ => ⟨m, ρ, h, hr, rs, PostS.bind p hr rs fun x h1 m1 v1 H1 e1 f1 hr1 r1 p1 => by
    have r1' := r1
    cases r1 with
    | @loc n ad hn =>
      unfold fFld at p1
      simp only at p1
      cases l : objAt h1 n with
      | none =>
        rw [l] at p1
        exact p1.elim
      | some o =>
        obtain ⟨C, fs⟩ := o
        rw [l] at p1
        cases z0 : [C0].contains C with
        | false =>
          simp only [withO, z0, ifB] at p1
          exact p1.elim
        | true =>
          cases q : fs.lookup f with
          | none =>
            simp only [withO, z0, ifB, q] at p1
            exact p1.elim
          | some a =>
            simp only [withO, z0, ifB, q] at p1
            obtain ⟨dx, ws, h2, h3⟩ := hr1.insA hn (objAt_of l)
            obtain ⟨va, h4, h5⟩ := h3.look q
            obtain ⟨c1, c2⟩ := hC C (List.contains_iff_mem.mp z0)
            refine ⟨ad, _, dx, ws, va, rfl, h2, c1, c2, h4, m1, ρ, h1, hr1, rs.fw hr f1, PostS.bind p1 hr1 (rs.fw hr f1) fun b h6 m2 vb H2 e2 f2 hr2 r2 p2 => ?_⟩
            cases h5 with
            | int i =>
              cases r2 with
              | int j =>
                refine ⟨i, j, rfl, rfl, ?_⟩
                simp only at p2
                cases z : putO [C0] f (.loc n) (.int (g i j)) h6 with
                | none =>
                  rw [z] at p2
                  exact p2.elim
                | some h7 =>
                  rw [z] at p2
                  obtain ⟨ad', C', dx', ws', e3, h8, hc, hl, fw, hr3⟩ := putO_p hr2 (r1'.fw hr1 f2) (.int _) z
                  cases e3
                  have eC : C = C' := (List.mem_singleton.mp (List.contains_iff_mem.mp z0)).trans (List.mem_singleton.mp hc).symm
                  subst eC
                  exact ⟨dx', ws', h8, hl, p2 m2 σ _ fw hr3 ((rs.fw hr (f1.trans f2)).fw hr2 fw)⟩
              | _ => exact p2.elim
            | _ => exact p2.elim
    | _ => exact p1.elim⟩
end
end SA
set_option Elab.async false
set_option linter.all false
set_option maxRecDepth 100000
set_option maxHeartbeats 4000000
/-! SF: defs, calls, methods, new objects. -/
namespace SA
open PySem PySem.Spec PyProof.Rows L2
/-- a def's promise: what its function tells -/
def spOf (K : Gx) (n : Nat) (mf : List A → AH → Res A) : Sp := fun vs H Q E => ∃ m h as, HR K m h H ∧ Ra K m H as vs ∧ as.length = n ∧ Post K (fun c d _ H' => E c d H') (Rl K) m [] H (mf as h) Q
def retOf : Fl → Res A
  | .nx _ h => .ok .non h
  | .rt a h => .ok a h
  | .exc c fs _ h => .exc c fs h
  | _ => .bad
def startA (n : Nat) (as : List A) : AS := as.map some ++ List.replicate (n - as.length) none
def defA (n : Nat) (ev : AC) : List A → AH → Res A := fun as h => retOf (ev (startA n as) h)
theorem Post.noSlots {K : Gx} {W : WX} {σ : L2.St} {m : List Addr} {H : Hp} {r : Res A} {Q : VK} (p : Post K W (Rl K) m σ H r Q) : Post K (fun c d _ H' => WE W σ c d H') (Rl K) m [] H r Q := by
  cases r with
  | ok a h => exact p
  | exc c fs h => exact p
  | bad => exact p
theorem rs_start {K : Gx} {m : List Addr} {H : Hp} {N : List Str} {as : List A} {vs : List V} (r : Ra K m H as vs) : RS K m H (startA N.length as) (L2.start N vs) := by
  unfold startA L2.start
  refine ⟨by rw [List.length_append, List.length_append, List.length_map, List.length_map, List.length_replicate, List.length_replicate, r.len], fun i a e => ?_⟩
  by_cases hi : i < as.length
  · rw [List.getElem?_append_left (by rw [List.length_map]; exact hi), List.getElem?_map] at e
    obtain ⟨b, e1, e2⟩ := Option.map_eq_some_iff.mp e
    cases e2
    obtain ⟨v, h1, h2⟩ := r.get e1
    refine ⟨v, ?_, h2⟩
    rw [List.getElem?_append_left (by rw [List.length_map, ← r.len]; exact hi), List.getElem?_map, h1]
    rfl
  · rw [List.getElem?_append_right (by rw [List.length_map]; omega), List.getElem?_replicate] at e
    split at e
    · cases e
    · cases e
section
variable {P : Program} {w : World} {K : PySem.W.Frag} {mg : Str → Option Value} {base : Heap} {cl : Nat → Addr}
theorem fd_of {x qual : Str} {st : Stmt} {f : Addr} {fd : FuncData} {N ps : List Str} {k : Nat} {ev : AC} (F : Fun K x qual st f fd) (S : FnScope N ps (defScope st))
    (hb : ∀ (cdv : Value) (A : Around) (outer : List Env) (s : Shared) (H : Hp) (E : XK), Room k (A.deeper (envOfC qual (defScope st) s.heap.objs.size f cdv)) →
      DB (cxOf (L2.CX P w) P w K mg base N qual (defScope st) f cdv A outer s H E) cl (fun c d _ H' => E c d H') (defBody st) ev) :
    FnOk P w K mg base (L2.CX P w) (k + 1) f fd ps (spOf ⟨K, cl⟩ ps.length (defA N.length ev)) := by
  refine F.okX S (fun vs H Q E ⟨m, h, as, hr, ra, hl, _⟩ => by rw [← ra.len]; exact hl) (fun cdv Ar outer s H vs Q E hr ⟨m, h, as, hh, ra, hl, p⟩ => ⟨_, hb cdv Ar outer s H E hr, m, startA N.length as, h, hh, rs_start ra, ?_⟩)
  unfold defA at p
  generalize ev (startA N.length as) h = fl at p ⊢
  cases fl with
  | nx ρ h' => exact fun m' σ' H' g hr' rs' => p m' .non H' g hr' .non
  | rt a h' => exact p
  | bk ρ h' => exact p.elim
  | ct ρ h' => exact p.elim
  | exc c fs ρ h' => exact fun m' d σ' H' g hr' rs' x => p m' d H' g hr' x
  | bad => exact p.elim
end
def ifR {α : Type} (b : Bool) (r : Res α) : Res α := match b with
  | true => r
  | false => .bad
def aCallF (n : Nat) (mf : List A → AH → Res A) (es : AL) : AE := fun ρ h => (es ρ h).bind fun as h1 => ifB (as.length == n) (mf as h1)
/-- o.m(..): the object's class, that no attribute has the method's name -/
def hasM (C : Nat) (mth : Str) (h : AH) : A → Bool
  | .loc n => match objAt h n with
    | some (D, fs) => D == C && (fs.lookup mth).isNone
    | none => false
  | _ => false
def aMethF (C : Nat) (mth : Str) (n : Nat) (mf : List A → AH → Res A) (o : AE) (es : AL) : AE := fun ρ h => (o ρ h).bind fun x h1 => ifB (hasM C mth h1 x) ((es ρ h1).bind fun as h2 => ifB (as.length + 1 == n) (mf (x :: as) h2))
/-- C(..) -/
def aMakeF (C : Nat) (n : Nat) (mf : List A → AH → Res A) (es : AL) : AE := fun ρ h => (es ρ h).bind fun as h1 => ifB (as.length + 1 == n) ((mf (.loc h1.length :: as) (h1 ++ [.ins C []])).bind fun v h2 => match v with
  | .non => .ok (.loc h1.length) h2
  | _ => .bad)
theorem hasM_p {K : Gx} {m : List Addr} {h : AH} {H : Hp} {C : Nat} {mth : Str} {x : A} {v : V} (hr : HR K m h H) (r : Rl K m H x v) (e : hasM C mth h x = true) : ∃ a dx fs, v = .ref a ∧ H a = some (.ins (K.cl C) dx fs) ∧ fs.lookup mth = none := by
  cases r with
  | @loc n a hn =>
    unfold hasM at e
    simp only at e
    cases l : objAt h n with
    | none =>
      rw [l] at e
      cases e
    | some o =>
      obtain ⟨D, fs⟩ := o
      rw [l] at e
      obtain ⟨z1, z2⟩ := Bool.and_eq_true_iff.mp e
      have eD := beq_iff_eq.mp z1
      subst eD
      obtain ⟨dx, ws, h2, h3⟩ := hr.insA hn (objAt_of l)
      exact ⟨a, dx, ws, rfl, h2, h3.noLook (Option.isNone_iff_eq_none.mp z2)⟩
  | _ => cases e
section
variable {X : Cx} {k : Nat} {f C : Addr} {fd : FuncData} {ps : List Str} {sp : Sp} {W : WX} {x mth : Str} {p pos apos : Pos} {e o : Expr} {es : List Expr} {ta : TE} {t : TA}
abbrev cxf (X : Cx) : CXT := L2.CX X.prog X.w
def tMethW (C : Addr) (mth : Str) (sp : Sp) (W : WX) (ta : TE) (t : TA) : TE := fun σ H Q => ta σ H fun y H1 => ∃ a dx fs, y = .ref a ∧ H1 a = some (.ins C dx fs) ∧ fs.lookup mth = none ∧ t σ H1 fun vs H2 => sp (y :: vs) H2 Q (WE W σ)
theorem pe_methW {pl : Sem Bool} (he : PE X o ta) (c : Cls X.K C) (hm : Meth X.K C mth f) (F : FnOk X.prog X.w X.K X.mg X.base (cxf X) k f fd ps sp) (hr : Room k X.A) (hb : Binds X.K fd ps []) (tk : Takes X W) (ha : PA X (e :: es) t)
    (h1 : starEach (e :: es) X.env = (false, eval e X.env) :: starEach es X.env := by rfl) (h2 : (backTo pos (starEach es X.env)).any (·.1) = false := by rfl)
    (h3 : eval (.Call (.Attribute o mth apos) (e :: es) [] pos) X.env = (do let ov ← eval o X.env; standAt apos.atName; let (f, first) ← holding [ov] (getMethod ov mth pl); callWith pos f first (backTo pos (starEach (e :: es) X.env)) (backToKw pos (keywordEach [] X.env))) := by rfl) :
    PE X (.Call (.Attribute o mth apos) (e :: es) [] pos) (tMethW C mth sp W ta t) := ⟨fun pins s σ H Q I w => by
  refine PySem.W.methodCall_KW (pl := pl) (thn (he.run pins s σ H _ I w) fun u s1 hu => ?_) h3
  obtain ⟨y, H1, I1, rx, a, dx, fs, ex, ea, l, q⟩ := hu
  subst ex; obtain rfl : u = Value.ref a := rx
  refine getmeth_ok I1 ea c hm l (PySem.W.callWith_K (first := [.ref a]) (h₀ := X.base) I.ok.mod.kin hm.kp (thn (ha.run pos pins s1 σ H1 _ I1 q) fun us s2 hv => ?_) h1 h2)
  obtain ⟨vs, H2, I2, r, q2⟩ := hv
  exact ⟨I2.kIn, run_fnS (us := .ref a :: us) (vs := .ref a :: vs) F hr hb (passAt tk σ) I2 (.cons rfl r) q2⟩⟩
theorem pe_methW0 {pl : Sem Bool} (he : PE X o ta) (c : Cls X.K C) (hm : Meth X.K C mth f) (F : FnOk X.prog X.w X.K X.mg X.base (cxf X) k f fd ps sp) (hr : Room k X.A) (hb : Binds X.K fd ps []) (tk : Takes X W)
    (h3 : eval (.Call (.Attribute o mth apos) [] [] pos) X.env = (do let ov ← eval o X.env; standAt apos.atName; let (f, first) ← holding [ov] (getMethod ov mth pl); callWith pos f first (backTo pos (starEach [] X.env)) (backToKw pos (keywordEach [] X.env))) := by rfl) :
    PE X (.Call (.Attribute o mth apos) [] [] pos) (tMethW C mth sp W ta tNil) := ⟨fun pins s σ H Q I w => by
  refine PySem.W.methodCall_KW (pl := pl) (thn (he.run pins s σ H _ I w) fun u s1 hu => ?_) h3
  obtain ⟨y, H1, I1, rx, a, dx, fs, ex, ea, l, q⟩ := hu
  subst ex; obtain rfl : u = Value.ref a := rx
  exact getmeth_ok I1 ea c hm l (PySem.W.callWith_K0 (first := [.ref a]) I1.kIn hm.kp (run_fnS (us := [.ref a]) (vs := [.ref a]) F hr hb (passAt tk σ) I1 (.cons rfl .nil) q))⟩
theorem pe_callW0 (F : FnOk X.prog X.w X.K X.mg X.base (cxf X) k f fd ps sp) (hr : Room k X.A) (hg : Gl X x) (hm : X.mg x = some (.ref f)) (hk : PySem.W.keepIn X.K (.ref f) = true) (hb : Binds X.K fd ps []) (tk : Takes X W) (hdb : (x == ("__debug__" : Str)) = false := by decide) :
    PE X (.Call (.Name x p) [] [] pos) (tCallS sp (WE W) tNil) := ⟨fun pins s σ H Q I w => wpAny_Call_Name_kw (ld_glob I hg hm (PySem.W.callWith_K0 I.kIn hk (run_fnS (us := []) F hr hb (passAt tk σ) I .nil w)) hdb)⟩
def tMakeW (C : Addr) (sp : Sp) (W : WX) (t : TA) : TE := fun σ H Q => t σ H fun vs H1 => ∀ y dx, H1 y = none → H1 dx = none → dx ≠ y → sp (.ref y :: vs) (upd (upd H1 dx (.own y)) y (.ins C dx [])) (fun v H2 => v = .non ∧ Q (.ref y) H2) (WE W σ)
theorem run_makeW {pins : List (Addr × Obj)} {σ : L2.St} {H : Hp} {s : Shared} {Q : VK} {us : List Value} {vs : List V} (M : Mk X.K C f) (F : FnOk X.prog X.w X.K X.mg X.base (cxf X) k f fd ps sp) (hr : Room (k + 1) X.A) (hb : Binds X.K fd ps []) (tk : Takes X W) (I : Inv X pins σ H s) (r : Vals vs us)
    (w : ∀ y dx, H y = none → H dx = none → dx ≠ y → sp (.ref y :: vs) (upd (upd H dx (.own y)) y (.ins C dx [])) (fun v H2 => v = .non ∧ Q (.ref y) H2) (WE W σ)) : wpAny (model X.prog X.w) X.A (call (.ref C) us) (EP X pins σ Q) X.xe s := by
  have q := w (s.heap.objs.size + 1) s.heap.objs.size (I.hok.fresh (Nat.le_succ _)) (I.hok.fresh (Nat.le_refl _)) (Nat.ne_of_lt (Nat.lt_succ_self _))
  have J := Inv.made (C := C) I
  have r2 : Vals (V.ref (s.heap.objs.size + 1) :: vs) (Value.ref (s.heap.objs.size + 1) :: us) := .cons rfl r
  have hl : (Value.ref (s.heap.objs.size + 1) :: us).length = ps.length := by rw [← r2.length]; exact F.len _ _ _ _ q
  have b := hb _ (Value.ref (s.heap.objs.size + 1) :: us) J.kIn (by rw [List.append_nil]; exact hl)
  rw [List.append_nil] at b
  refine wpAny_call (make_map (f := f) I.kIn M.makes M.init (beq_iff_eq.mp M.fn) (codeAny_mono (F.run _ X.stack _ _ ⟨Value.ref (s.heap.objs.size + 1) :: us, []⟩ (Value.ref (s.heap.objs.size + 1) :: us) _ _ (WE W σ) (hr.make C us []) (J.env0.make C us []) b r2 q) fun z s' hz => ?_))
  cases z with
  | error e => exact passAt tk σ pins _ _ e s' J hz
  | ok fl =>
    cases fl with
    | ret u =>
      obtain ⟨v, H', I3, rv, ev, q3⟩ := J.after hz
      subst ev
      exact ⟨rv, V.ref (s.heap.objs.size + 1), H', I3, rfl, q3⟩
    | _ => exact hz.elim
theorem pe_makeW (M : Mk X.K C f) (F : FnOk X.prog X.w X.K X.mg X.base (cxf X) k f fd ps sp) (hr : Room (k + 1) X.A) (hg : Gl X x) (hm : X.mg x = some (.ref C)) (hb : Binds X.K fd ps []) (tk : Takes X W) (ha : PA X (e :: es) t) (hdb : (x == ("__debug__" : Str)) = false := by decide)
    (h1 : starEach (e :: es) X.env = (false, eval e X.env) :: starEach es X.env := by rfl) (h2 : (backTo pos (starEach es X.env)).any (·.1) = false := by rfl) : PE X (.Call (.Name x p) (e :: es) [] pos) (tMakeW C sp W t) := ⟨fun pins s σ H Q I w => by
  refine wpAny_Call_Name_kw (ld_glob I hg hm (PySem.W.callWith_K (h₀ := X.base) I.ok.mod.kin M.kp (thn (ha.run pos pins s σ H _ I w) fun us s1 hv => ?_) h1 h2) hdb)
  obtain ⟨vs, H1, I1, r, q⟩ := hv
  exact ⟨I1.kIn, run_makeW M F hr hb tk I1 r q⟩⟩
end
section
variable {X : Cx} {cl : Nat → Addr} {W : WX} {k n C : Nat} {f : Addr} {fd : FuncData} {ps : List Str} {mf : List A → AH → Res A} {x mth : Str} {p pos apos : Pos} {e o : Expr} {es : List Expr} {eo : AE} {er : AL}
theorem de_call (F : FnOk X.prog X.w X.K X.mg X.base (cxf X) k f fd ps (spOf ⟨X.K, cl⟩ n mf)) (hr : Room k X.A) (hg : Gl X x) (hm : X.mg x = some (.ref f)) (hk : PySem.W.keepIn X.K (.ref f) = true) (hb : Binds X.K fd ps []) (tk : Takes X W) (ha : DA X cl W (e :: es) er) (hdb : (x == ("__debug__" : Str)) = false := by decide)
    (h1 : starEach (e :: es) X.env = (false, eval e X.env) :: starEach es X.env := by rfl) (h2 : (backTo pos (starEach es X.env)).any (·.1) = false := by rfl) : DE X cl W (.Call (.Name x p) (e :: es) [] pos) (aCallF n mf er) :=
  peM (pe_callS (E := WE W) F hr hg hm hk hb (fun σ => passAt tk σ) ha hdb h1 h2) fun σ H Q ⟨m, ρ, h, hr, rs, p⟩ => ⟨m, ρ, h, hr, rs, Post.bind p fun as h1 m1 v1 H1 e1 f1 hr1 r1 p1 => by
    obtain ⟨z, p1⟩ := ifB_p p1
    exact ⟨m1, h1, as, hr1, r1, beq_iff_eq.mp z, p1.noSlots⟩⟩
theorem de_call0 (F : FnOk X.prog X.w X.K X.mg X.base (cxf X) k f fd ps (spOf ⟨X.K, cl⟩ n mf)) (hr : Room k X.A) (hg : Gl X x) (hm : X.mg x = some (.ref f)) (hk : PySem.W.keepIn X.K (.ref f) = true) (hb : Binds X.K fd ps []) (tk : Takes X W) (hdb : (x == ("__debug__" : Str)) = false := by decide) : DE X cl W (.Call (.Name x p) [] [] pos) (aCallF n mf aNil) :=
  peM (pe_callW0 F hr hg hm hk hb tk hdb) fun σ H Q ⟨m, ρ, h, hr, rs, p⟩ => by
    obtain ⟨z, p1⟩ := ifB_p p
    exact ⟨m, h, [], hr, .nil, beq_iff_eq.mp z, p1.noSlots⟩
theorem de_meth (he : DE X cl W o eo) (c : Cls X.K (cl C)) (hm : Meth X.K (cl C) mth f) (F : FnOk X.prog X.w X.K X.mg X.base (cxf X) k f fd ps (spOf ⟨X.K, cl⟩ n mf)) (hr : Room k X.A) (hb : Binds X.K fd ps []) (tk : Takes X W) (ha : DA X cl W (e :: es) er) {pl : Sem Bool}
    (h1 : starEach (e :: es) X.env = (false, eval e X.env) :: starEach es X.env := by rfl) (h2 : (backTo pos (starEach es X.env)).any (·.1) = false := by rfl)
    (h3 : eval (.Call (.Attribute o mth apos) (e :: es) [] pos) X.env = (do let ov ← eval o X.env; standAt apos.atName; let (f, first) ← holding [ov] (getMethod ov mth pl); callWith pos f first (backTo pos (starEach (e :: es) X.env)) (backToKw pos (keywordEach [] X.env))) := by rfl) :
    DE X cl W (.Call (.Attribute o mth apos) (e :: es) [] pos) (aMethF C mth n mf eo er) :=
  peM (pe_methW (pl := pl) he c hm F hr hb tk ha h1 h2 h3) fun σ H Q ⟨m, ρ, h, hr, rs, p⟩ => ⟨m, ρ, h, hr, rs, Post.bind p fun y h1 m1 v1 H1 e1 f1 hr1 r1 p1 => by
    obtain ⟨z, p1⟩ := ifB_p p1
    obtain ⟨a, dx, fs, h4, h5, h6⟩ := hasM_p hr1 r1 z
    refine ⟨a, dx, fs, h4, h5, h6, m1, ρ, h1, hr1, rs.fw hr f1, Post.bind p1 fun as h2 m2 vs H2 e2 f2 hr2 r2 p2 => ?_⟩
    obtain ⟨z2, p2⟩ := ifB_p p2
    exact ⟨m2, h2, y :: as, hr2, .cons (r1.fw hr1 f2) r2, beq_iff_eq.mp z2, p2.noSlots⟩⟩
theorem de_meth0 (he : DE X cl W o eo) (c : Cls X.K (cl C)) (hm : Meth X.K (cl C) mth f) (F : FnOk X.prog X.w X.K X.mg X.base (cxf X) k f fd ps (spOf ⟨X.K, cl⟩ n mf)) (hr : Room k X.A) (hb : Binds X.K fd ps []) (tk : Takes X W) {pl : Sem Bool}
    (h3 : eval (.Call (.Attribute o mth apos) [] [] pos) X.env = (do let ov ← eval o X.env; standAt apos.atName; let (f, first) ← holding [ov] (getMethod ov mth pl); callWith pos f first (backTo pos (starEach [] X.env)) (backToKw pos (keywordEach [] X.env))) := by rfl) :
    DE X cl W (.Call (.Attribute o mth apos) [] [] pos) (aMethF C mth n mf eo aNil) :=
  peM (pe_methW0 (pl := pl) he c hm F hr hb tk h3) fun σ H Q ⟨m, ρ, h, hr, rs, p⟩ => ⟨m, ρ, h, hr, rs, Post.bind p fun y h1 m1 v1 H1 e1 f1 hr1 r1 p1 => by
    obtain ⟨z, p1⟩ := ifB_p p1
    obtain ⟨a, dx, fs, h4, h5, h6⟩ := hasM_p hr1 r1 z
    obtain ⟨z2, p2⟩ := ifB_p p1
    exact ⟨a, dx, fs, h4, h5, h6, m1, h1, [y], hr1, .cons r1 .nil, beq_iff_eq.mp z2, p2.noSlots⟩⟩
theorem de_make (M : Mk X.K (cl C) f) (F : FnOk X.prog X.w X.K X.mg X.base (cxf X) k f fd ps (spOf ⟨X.K, cl⟩ n mf)) (hr : Room (k + 1) X.A) (hg : Gl X x) (hm : X.mg x = some (.ref (cl C))) (hb : Binds X.K fd ps []) (tk : Takes X W) (ha : DA X cl W (e :: es) er) (hdb : (x == ("__debug__" : Str)) = false := by decide)
    (h1 : starEach (e :: es) X.env = (false, eval e X.env) :: starEach es X.env := by rfl) (h2 : (backTo pos (starEach es X.env)).any (·.1) = false := by rfl) : DE X cl W (.Call (.Name x p) (e :: es) [] pos) (aMakeF C n mf er) :=
  peM (pe_makeW M F hr hg hm hb tk ha hdb h1 h2) fun σ H Q ⟨m, ρ, h, hr, rs, p⟩ => ⟨m, ρ, h, hr, rs, Post.bind p fun as h1 m1 vs H1 e1 f1 hr1 r1 p1 => fun y dx hy hd hne => by
    obtain ⟨z, p1⟩ := ifB_p p1
    have hr2 := hr1.new0 hd (.own y)
    have fw2 : Fw m1 H1 m1 (upd H1 dx (.own y)) := Fw.new0 hd _
    have hy2 : (upd H1 dx (.own y)) y = none := by rw [upd_ne hne.symm]; exact hy
    have fw3 := Fw.new1 hr2 hy2 (.ins (cl C) dx [])
    have hr3 : HR ⟨X.K, cl⟩ (m1 ++ [y]) (h1 ++ [.ins C []]) (upd (upd H1 dx (.own y)) y (.ins (cl C) dx [])) := hr2.new1 hy2 ⟨dx, [], upd_same, .nil⟩
    have ry : (m1 ++ [y])[h1.length]? = some y := by
      rw [← hr1.len, List.getElem?_append_right (Nat.le_refl _), Nat.sub_self]
      rfl
    refine ⟨m1 ++ [y], h1 ++ [.ins C []], .loc h1.length :: as, hr3, .cons (.loc ry) ((r1.fw hr1 fw2).fw hr2 fw3), beq_iff_eq.mp z, ?_⟩
    refine Post.noSlots (W := W) (σ := σ) (Post.bind (p1.fw (fw2.trans fw3)) fun v h4 m4 v4 H4 e4 f4 hr4 r4 p4 => ?_)
    cases r4 with
    | non => exact ⟨rfl, p4.fin0 hr4 (.loc (f4.at ry))⟩
    | _ => exact p4.elim⟩
end
end SA
set_option Elab.async false
set_option linter.all false
set_option maxRecDepth 100000
set_option maxHeartbeats 4000000
/-! SG: loops, what is raised. -/
namespace SA
open PySem PySem.Spec PyProof.Rows L2
theorem Post.cast {α β : Type} {K : Gx} {W : WX} {R : List Addr → Hp → α → β → Prop} {m : List Addr} {σ : L2.St} {H : Hp} {r r' : Res α} {Q : β → Hp → Prop} (e : r = r') (p : Post K W R m σ H r' Q) : Post K W R m σ H r Q := e ▸ p
/-! ### while -/
/-- a turn's end: on with k, or out -/
def turnS (fl : Fl) (k : AC) : Fl := match fl with
  | .nx ρ h => k ρ h
  | .ct ρ h => k ρ h
  | .bk ρ h => .nx ρ h
  | .rt a h => .rt a h
  | .exc c fs ρ h => .exc c fs ρ h
  | .bad => .bad
def aWhile (t : AT) (b : AC) : Nat → AC
  | 0 => fun _ _ => .bad
  | n + 1 => fun ρ h => bindS (t ρ h) ρ fun c h1 => match c with
    | true => turnS (b ρ h1) (aWhile t b n)
    | false => .nx ρ h1
theorem turnS_p {K : Gx} {W : WX} {m : List Addr} {H : Hp} {fl : Fl} {k : AC} {D : Ends} (p : PostS K W m H (turnS fl k) D) : PostS K W m H fl { D with nx := tOfS K W k D, ct := tOfS K W k D, bk := D.nx } := by
  cases fl with
  | nx ρ h => exact fun m' σ' H' g hr rs => ⟨m', ρ, h, hr, rs, PostS.fw (fl := k ρ h) p g⟩
  | ct ρ h => exact fun m' σ' H' g hr rs => ⟨m', ρ, h, hr, rs, PostS.fw (fl := k ρ h) p g⟩
  | bk ρ h => exact p
  | rt a h => exact p
  | exc c fs ρ h => exact p
  | bad => exact p
section
variable {X : Cx} {cl : Nat → Addr} {W : WX} {c : Expr} {tc : AT} {body : List Stmt} {eb : AC} {pos : Pos}
theorem ds_while (n : Nat) (hp : PassesOwn (model X.prog X.w) X.A X.env X.xe) (hc : DT X cl W c tc) (hb : DB X cl W body eb) : DS X cl W (.While c body [] pos) (aWhile tc eb n) :=
  psM (ps_while hp hc hb) fun D σ H q => by
    refine ⟨fun k σ H => tOfS ⟨X.K, cl⟩ W (aWhile tc eb k) D σ H, ⟨n, q⟩, ?_⟩
    rintro k σ1 H1 ⟨m, ρ, h, hr, rs, p⟩
    cases k with
    | zero => exact p.elim
    | succ k =>
      refine ⟨m, ρ, h, hr, rs, PostS.bind p hr rs fun x h1 m1 v1 H2 e1 f1 hr1 r1 p1 => ?_⟩
      cases r1
      cases x with
      | true =>
        refine iteT ⟨tOfS ⟨X.K, cl⟩ W (aWhile tc eb k) D, fun σ' H' z => ⟨k, Nat.lt_succ_self k, z⟩, m1, ρ, h1, hr1, rs.fw hr f1, turnS_p p1⟩
      | false => exact iteF (p1.nx hr1 (rs.fw hr f1))
end
/-! ### what is walked -/
abbrev AIt := Nat → AH → Option (Option A)
def RIt (K : Gx) (m : List Addr) (H : Hp) (f : AIt) (J : It) : Prop := ∀ (m' : List Addr) (h' : AH) (H' : Hp) (i : Nat), Fw m H m' H' → HR K m' h' H' →
  (f i h' = some none → J.stop i H') ∧ ∀ a, f i h' = some (some a) → J.go i H' ∧ ∀ x H'', J.yld i H' x H'' → Fw m' H' m' H'' ∧ HR K m' h' H'' ∧ Rl K m' H'' a x
abbrev AI := AS → AH → Res AIt
abbrev DI (X : Cx) (cl : Nat → Addr) (W : WX) (tg it : Expr) (ev : AI) : Prop := PI X tg it (tOf ⟨X.K, cl⟩ W (RIt ⟨X.K, cl⟩) ev)
theorem piM {X : Cx} {tg it : Expr} {t u : TI} (h : PI X tg it t) (q : ∀ σ H R, u σ H R → t σ H R) : PI X tg it u := ⟨fun pins s σ H R I w => h.run pins s σ H R I (q σ H R w)⟩
def aForF (f : AIt) (g : AG) (b : AC) : Nat → Nat → AC
  | 0, _ => fun _ _ => .bad
  | n + 1, i => fun ρ h => match f i h with
    | none => .bad
    | some none => .nx ρ h
    | some (some a) => match g a ρ h with
      | none => .bad
      | some ρ' => turnS (b ρ' h) (aForF f g b n (i + 1))
def aFor (it : AI) (g : AG) (b : AC) (n : Nat) : AC := fun ρ h => bindS (it ρ h) ρ fun f h1 => aForF f g b n 0 ρ h1
section
variable {X : Cx} {cl : Nat → Addr} {W : WX} {tg it : Expr} {ei : AI} {g : AG} {body : List Stmt} {eb : AC} {pos : Pos}
theorem ds_for (n : Nat) (hp : PassesOwn (model X.prog X.w) X.A X.env X.xe) (hc : X.calm = true) (hi : DI X cl W tg it ei) (hg : DG X cl tg g) (hb : DB X cl W body eb) (hs : ∀ x, foldedSetIterable it X.env x = pure x := by intro _; rfl) : DS X cl W (.For tg it body [] pos) (aFor ei g eb n) :=
  psM (ps_for hp hc hi hg hb hs) fun D σ H ⟨m, ρ, h, hr, rs, p⟩ => ⟨m, ρ, h, hr, rs, PostS.bind p hr rs fun f h1 m1 J H1 e1 f1 hr1 r1 p1 => by
    refine ⟨fun i k σ H => ∃ m ρ h, Fw m1 H1 m H ∧ HR ⟨X.K, cl⟩ m h H ∧ RS ⟨X.K, cl⟩ m H ρ σ ∧ PostS ⟨X.K, cl⟩ W m H (aForF f g eb k i ρ h) D, ⟨n, m1, ρ, h1, Fw.refl _ _, hr1, rs.fw hr f1, p1⟩, ?_⟩
    rintro i k σ2 H2 ⟨m2, ρ2, h2, fw, hr2, rs2, p2⟩
    cases k with
    | zero => exact p2.elim
    | succ k =>
      obtain ⟨st, go⟩ := r1 m2 h2 H2 i fw hr2
      unfold aForF at p2
      cases q : f i h2 with
      | none =>
        rw [q] at p2
        exact p2.elim
      | some o =>
        rw [q] at p2
        cases o with
        | none => exact .inl ⟨st q, p2.nx hr2 rs2⟩
        | some a =>
          simp only at p2
          obtain ⟨go, yld⟩ := go a q
          cases z : g a ρ2 h2 with
          | none =>
            rw [z] at p2
            exact p2.elim
          | some ρ' =>
            rw [z] at p2
            simp only at p2
            refine .inr ⟨go, fun σ H => ∃ m ρ h, Fw m1 H1 m H ∧ HR ⟨X.K, cl⟩ m h H ∧ RS ⟨X.K, cl⟩ m H ρ σ ∧ PostS ⟨X.K, cl⟩ W m H (aForF f g eb k (i + 1) ρ h) D, fun σ' H' w => ⟨k, Nat.lt_succ_self k, w⟩, fun x H3 y => ?_⟩
            obtain ⟨fw3, hr3, rl3⟩ := yld x H3 y
            refine ⟨m2, ρ2, h2, a, ρ', hr3, rs2.fw hr2 fw3, rl3, z, fun σ4 rs4 => ⟨m2, ρ', h2, hr3, rs4, ?_⟩⟩
            have p3 := PostS.fw p2 fw3
            generalize eb ρ' h2 = fl at p3 ⊢
            cases fl with
            | nx ρ5 h5 => exact fun m' σ' H' g hr rs => ⟨m', ρ5, h5, (fw.trans fw3).trans g, hr, rs, PostS.fw (fl := aForF f _ eb k (i + 1) ρ5 h5) p3 g⟩
            | ct ρ5 h5 => exact fun m' σ' H' g hr rs => ⟨m', ρ5, h5, (fw.trans fw3).trans g, hr, rs, PostS.fw (fl := aForF f _ eb k (i + 1) ρ5 h5) p3 g⟩
            | bk ρ5 h5 => exact p3
            | rt a h5 => exact p3
            | exc c fs ρ5 h5 => exact p3
            | bad => exact p3⟩
end
def itTup (xs : List A) : AIt := fun i _ => some xs[i]?
def itLst (n : Nat) : AIt := fun i h => (rdAt h n).map fun xs => xs[i]?
def itStr (z : List Nat) : AIt := fun i _ => some (z[i]?.map fun c => .str ⟨#[c]⟩)
def itRng (lo : Int) (n : Nat) : AIt := fun i _ => some (match decide (i < n) with
  | true => some (.int (lo + (i : Int)))
  | false => none)
/-- the same in pairs with their numbers -/
def itEnum (n : Nat) : AIt := fun i h => (rdAt h n).map fun xs => xs[i]?.map fun a => .tup [.int (i : Int), a]
def aIter (e : AE) : AI := fun ρ h => (e ρ h).bind fun x h1 => match x with
  | .tup xs => .ok (itTup xs) h1
  | .str z => .ok (itStr z.cps.toList) h1
  | .loc n => match rdAt h1 n with
    | some _ => .ok (itLst n) h1
    | none => .bad
  | _ => .bad
def in62 (i : Int) : Bool := decide (-(2 ^ 62) ≤ i) && decide (i < 2 ^ 62)
theorem in62_p {i : Int} (h : in62 i = true) : -(2 ^ 62) ≤ i ∧ i < 2 ^ 62 := ⟨of_decide_eq_true (Bool.and_eq_true_iff.mp h).1, of_decide_eq_true (Bool.and_eq_true_iff.mp h).2⟩
def aRng1 (es : AL) : AI := fun ρ h => (es ρ h).bind fun as h1 => match as with
  | [.int j] => match in62 j with
    | true => .ok (itRng 0 j.toNat) h1
    | false => .bad
  | _ => .bad
def aRng2 (es : AL) : AI := fun ρ h => (es ρ h).bind fun as h1 => match as with
  | [.int i, .int j] => match in62 i && in62 j with
    | true => .ok (itRng i (j - i).toNat) h1
    | false => .bad
  | _ => .bad
def aEnum (es : AL) : AI := fun ρ h => (es ρ h).bind fun as h1 => match as with
  | [.loc n] => match rdAt h1 n with
    | some _ => .ok (itEnum n) h1
    | none => .bad
  | _ => .bad
theorem ra_len_none {K : Gx} {m : List Addr} {H : Hp} {xs : List A} {vs : List V} {i : Nat} (r : Ra K m H xs vs) (e : xs[i]? = none) : vs.length ≤ i := by
  rw [← r.len]
  exact List.getElem?_eq_none_iff.mp e
theorem it_lst {K : Gx} {m : List Addr} {H : Hp} {n : Nat} {a : Addr} (hn : m[n]? = some a) : RIt K m H (itLst n) (Itl K.K a) := by
  intro m' h' H' i fw hr
  have hn' := fw.at hn
  unfold itLst
  refine ⟨fun e => ?_, fun x e => ?_⟩
  · obtain ⟨xs, e1, e2⟩ := Option.map_eq_some_iff.mp e
    obtain ⟨vs, a1, ra⟩ := hr.rdA hn' e1
    exact ⟨vs, a1, ra_len_none ra e2⟩
  · obtain ⟨xs, e1, e2⟩ := Option.map_eq_some_iff.mp e
    obtain ⟨vs, a1, ra⟩ := hr.rdA hn' e1
    obtain ⟨v, e3, e4⟩ := ra.get e2
    refine ⟨⟨vs, v, a1, e3⟩, fun y H2 ⟨eH, ey⟩ => ?_⟩
    subst eH
    have e5 := ey vs (a1)
    rw [e3] at e5
    cases e5
    exact ⟨Fw.refl _ _, hr, e4⟩
theorem it_enum {K : Gx} {m : List Addr} {H : Hp} {n : Nat} {a : Addr} (hn : m[n]? = some a) : RIt K m H (itEnum n) (Ite K.K a) := by
  intro m' h' H' i fw hr
  have hn' := fw.at hn
  unfold itEnum
  refine ⟨fun e => ?_, fun x e => ?_⟩
  · obtain ⟨xs, e1, e2⟩ := Option.map_eq_some_iff.mp e
    obtain ⟨vs, a1, ra⟩ := hr.rdA hn' e1
    exact ⟨vs, a1, ra_len_none ra (Option.map_eq_none_iff.mp e2)⟩
  · obtain ⟨xs, e1, e2⟩ := Option.map_eq_some_iff.mp e
    obtain ⟨b, e6, e7⟩ := Option.map_eq_some_iff.mp e2
    subst e7
    obtain ⟨vs, a1, ra⟩ := hr.rdA hn' e1
    obtain ⟨v, e3, e4⟩ := ra.get e6
    refine ⟨⟨vs, v, a1, e3⟩, fun y H2 ⟨T, w, ey, hT, eH, ew⟩ => ?_⟩
    subst ey eH
    have e5 := ew vs (a1)
    rw [e3] at e5
    cases e5
    exact ⟨Fw.new0 hT _, hr.new0 hT _, .tup (SqT.of upd_same) (.cons (.int _) (.cons (e4.fw hr (Fw.new0 hT _)) .nil))⟩
theorem it_tup {K : Gx} {m : List Addr} {h : AH} {H : Hp} {xs : List A} {vs : List V} {a : Addr} (hr0 : HR K m h H) (s : SqT K.K H a vs) (r : Ra K m H xs vs) : RIt K m H (itTup xs) (Itt K.K a) := by
  intro m' h' H' i fw hr
  have s' := SqT.fw hr0 fw s
  have r' := r.fw hr0 fw
  refine ⟨fun e => ?_, fun x e => ?_⟩
  · exact ⟨vs, s', ra_len_none r' (Option.some.inj e)⟩
  · obtain ⟨v, e3, e4⟩ := r'.get (Option.some.inj e)
    refine ⟨⟨vs, v, s', e3⟩, fun y H2 ⟨eH, ey⟩ => ?_⟩
    subst eH
    have e5 := ey vs s'
    rw [e3] at e5
    cases e5
    exact ⟨Fw.refl _ _, hr, e4⟩
theorem it_str {K : Gx} {m : List Addr} {H : Hp} {z : Str} : RIt K m H (itStr z.cps.toList) (Its z) := by
  intro m' h' H' i fw hr
  refine ⟨fun e => ?_, fun x e => ?_⟩
  · have e1 := Option.map_eq_none_iff.mp (Option.some.inj e)
    have := List.getElem?_eq_none_iff.mp e1
    rw [Array.length_toList] at this
    exact this
  · obtain ⟨c, e1, e2⟩ := Option.map_eq_some_iff.mp (Option.some.inj e)
    subst e2
    have hl : i < z.cps.size := by
      have := (List.getElem?_eq_some_iff.mp e1).1
      rw [Array.length_toList] at this
      exact this
    refine ⟨hl, fun y H2 ⟨eH, c', e3, e4⟩ => ?_⟩
    subst eH e4
    rw [← Array.getElem?_toList, e1] at e3
    cases e3
    exact ⟨Fw.refl _ _, hr, .str _⟩
theorem it_rng {K : Gx} {m : List Addr} {H : Hp} {lo : Int} {n : Nat} : RIt K m H (itRng lo n) (Itr lo n) := by
  intro m' h' H' i fw hr
  unfold itRng
  refine ⟨fun e => ?_, fun x e => ?_⟩
  · by_cases z : i < n
    · rw [decide_eq_true z] at e
      cases e
    · show n ≤ i
      omega
  · by_cases z : i < n
    · rw [decide_eq_true z] at e
      cases e
      refine ⟨z, fun y H2 ⟨eH, ey⟩ => ?_⟩
      subst eH ey
      exact ⟨Fw.refl _ _, hr, .int _⟩
    · rw [decide_eq_false z] at e
      cases e
section
variable {X : Cx} {cl : Nat → Addr} {W : WX} {tg e : Expr} {ee : AE} {es : List Expr} {er : AL} {p pos : Pos}
theorem di_seq (he : DE X cl W e ee) : DI X cl W tg e (aIter ee) :=
  piM (pi_or (pi_list he) (pi_or (pi_tup he) (pi_str he))) fun σ H R ⟨m, ρ, h, hr, rs, p⟩ => by
    cases q : ee ρ h with
    | bad =>
      unfold aIter at p
      rw [q] at p
      exact p.elim
    | exc c fs h1 =>
      unfold aIter at p
      rw [q] at p
      exact .inl ⟨m, ρ, h, hr, rs, Post.cast q p⟩
    | ok x h1 =>
      unfold aIter at p
      rw [q] at p
      cases x with
      | loc n =>
        refine .inl ⟨m, ρ, h, hr, rs, Post.cast q fun m1 v1 H1 f1 hr1 r1 => ?_⟩
        have p1 := Post.fw p f1
        cases r1 with
        | @loc _ a hn =>
          simp only [Res.bind] at p1
          cases l : rdAt h1 n with
          | none =>
            rw [l] at p1
            exact p1.elim
          | some xs =>
            rw [l] at p1
            obtain ⟨vs, a1, ra⟩ := hr1.rdA hn l
            exact ⟨a, rfl, ⟨vs, a1⟩, p1.fin0 hr1 (it_lst hn)⟩
      | tup xs =>
        refine .inr (.inl ⟨m, ρ, h, hr, rs, Post.cast q fun m1 v1 H1 f1 hr1 r1 => ?_⟩)
        have p1 := Post.fw p f1
        cases r1 with
        | @tup a vs _ s ra => exact ⟨a, rfl, ⟨vs, s⟩, p1.fin0 hr1 (it_tup hr1 s ra)⟩
      | str z =>
        refine .inr (.inr ⟨m, ρ, h, hr, rs, Post.cast q fun m1 v1 H1 f1 hr1 r1 => ?_⟩)
        have p1 := Post.fw p f1
        cases r1
        exact ⟨z, rfl, p1.fin0 hr1 it_str⟩
      | _ => exact p.elim
theorem di_rng1 {a : Expr} (hg : Gl X "range") (hm : X.mg "range" = none) (ha : DA X cl W [a] er) (hs : starEach [a] X.env = [(false, eval a X.env)] := by rfl) : DI X cl W tg (.Call (.Name "range" p) [a] [] pos) (aRng1 er) :=
  piM (pi_range1 hg hm ha hs) fun σ H R ⟨m, ρ, h, hr, rs, p⟩ => ⟨m, ρ, h, hr, rs, Post.bind p fun as h1 m1 vs H1 e1 f1 hr1 r1 p1 => by
    cases r1 with
    | nil => exact p1.elim
    | cons r2 r3 =>
      cases r2 with
      | int j =>
        cases r3 with
        | nil =>
          simp only at p1
          cases z : in62 j with
          | false =>
            rw [z] at p1
            exact p1.elim
          | true =>
            rw [z] at p1
            exact ⟨j, rfl, (in62_p z).1, (in62_p z).2, p1.fin0 hr1 it_rng⟩
        | cons _ _ => exact p1.elim
      | _ => cases r3 <;> exact p1.elim⟩
theorem di_rng2 {a b : Expr} (hg : Gl X "range") (hm : X.mg "range" = none) (ha : DA X cl W [a, b] er) (hs : starEach [a, b] X.env = [(false, eval a X.env), (false, eval b X.env)] := by rfl) (hs2 : starEach [b] X.env = [(false, eval b X.env)] := by rfl) : DI X cl W tg (.Call (.Name "range" p) [a, b] [] pos) (aRng2 er) :=
  piM (pi_range2 hg hm ha hs hs2) fun σ H R ⟨m, ρ, h, hr, rs, p⟩ => ⟨m, ρ, h, hr, rs, Post.bind p fun as h1 m1 vs H1 e1 f1 hr1 r1 p1 => by
    have ee : ∃ i j, as = [.int i, .int j] := by
      rcases as with _ | ⟨a1, _ | ⟨a2, _ | _⟩⟩
      · exact p1.elim
      · cases a1 <;> exact p1.elim
      · cases a1 <;> cases a2 <;> first | exact ⟨_, _, rfl⟩ | exact p1.elim
      · cases a1 <;> cases a2 <;> exact p1.elim
    obtain ⟨i, j, rfl⟩ := ee
    cases r1 with
    | cons r2 r3 =>
      cases r2
      cases r3 with
      | cons r4 r5 =>
        cases r4
        cases r5
        simp only at p1
        cases z : (in62 i && in62 j) with
        | false =>
          rw [z] at p1
          exact p1.elim
        | true =>
          rw [z] at p1
          obtain ⟨z1, z2⟩ := Bool.and_eq_true_iff.mp z
          exact ⟨i, j, rfl, ⟨(in62_p z1).1, (in62_p z1).2, (in62_p z2).1, (in62_p z2).2⟩, p1.fin0 hr1 it_rng⟩⟩
theorem di_enum {tpos : Pos} {elts : List Expr} {kk : Nat} (hg : Gl X "enumerate") (hm : X.mg "enumerate" = none) (ha : DA X cl W [e] er) (hs : starEach [e] X.env = [(false, eval e X.env)] := by rfl) : DI X cl W (.Tuple elts kk tpos) (.Call (.Name "enumerate" p) [e] [] pos) (aEnum er) :=
  piM (pi_enum hg hm ha hs) fun σ H R ⟨m, ρ, h, hr, rs, p⟩ => ⟨m, ρ, h, hr, rs, Post.bind p fun as h1 m1 vs H1 e1 f1 hr1 r1 p1 => by
    cases r1 with
    | nil => exact p1.elim
    | cons r2 r3 =>
      cases r2 with
      | @loc n a hn =>
        cases r3 with
        | nil =>
          simp only at p1
          cases l : rdAt h1 n with
          | none =>
            rw [l] at p1
            exact p1.elim
          | some xs =>
            rw [l] at p1
            obtain ⟨vs, a1, ra⟩ := hr1.rdA hn l
            exact ⟨a, vs, rfl, a1, p1.fin0 hr1 (it_enum hn)⟩
        | cons _ _ => exact p1.elim
      | _ => cases r3 <;> exact p1.elim⟩
end
/-! ### x += e -/
def aAugI (i : Nat) (g : Int → Int → Int) (e : AE) : AC := fun ρ h => match ρ[i]? with
  | some (some (.int a)) => bindS (e ρ h) ρ fun b h1 => match b with
    | .int b => .nx (ρ.set i (some (.int (g a b)))) h1
    | _ => .bad
  | _ => .bad
section
variable {X : Cx} {cl : Nat → Addr} {W : WX} {e : Expr} {ee : AE} {pos pos' : Pos}
theorem ds_augI {i : Nat} {x : Str} {op : Operator} {g : Int → Int → Int} (hN : X.N.Nodup) (hi : X.N[i]? = some x) (hx : Loc X.env.scope x) (he : DE X cl W e ee) (ho : PIp X op (ipI g)) (hf : X.fn x = true ∨ X.env.scope.names.lookup x = some .local := by first | exact .inl rfl | exact .inr rfl | assumption) : DS X cl W (.AugAssign (.Name x pos') op e pos) (aAugI i g ee) :=
  psM (ps_aug hN hi hx he ho hf) fun D σ H ⟨m, ρ, h, hr, rs, p⟩ => by
    unfold aAugI at p
    cases q : ρ[i]? with
    | none =>
      rw [q] at p
      exact p.elim
    | some o =>
      rw [q] at p
      cases o with
      | none => exact p.elim
      | some a =>
        obtain ⟨v, h1, h2⟩ := rs.get i a q
        cases h2 with
        | int a =>
          refine ⟨_, h1, m, ρ, h, hr, rs, PostS.bind p hr rs fun b h1 m1 v1 H1 e1 f1 hr1 r1 p1 => ?_⟩
          cases r1 with
          | int b => exact ⟨a, b, rfl, rfl, p1.nx hr1 ((rs.fw hr f1).set (.int _) i)⟩
          | _ => exact p1.elim
        | _ => exact p.elim
end
end SA
set_option Elab.async false
set_option linter.all false
set_option maxRecDepth 100000
set_option maxHeartbeats 4000000
/-! SH: builtins. -/
namespace SA
open PySem PySem.Spec PyProof.Rows L2
section
variable {K : Gx} {m : List Addr} {h : AH} {H : Hp}
theorem Ra.one {x : A} {us : List V} (r : Ra K m H [x] us) : ∃ u, us = [u] ∧ Rl K m H x u := by
  cases r with
  | cons a b =>
    cases b
    exact ⟨_, rfl, a⟩
theorem Ra.two {x y : A} {us : List V} (r : Ra K m H [x, y] us) : ∃ u v, us = [u, v] ∧ Rl K m H x u ∧ Rl K m H y v := by
  cases r with
  | cons a b =>
    obtain ⟨v, rfl, q⟩ := b.one
    exact ⟨_, v, rfl, a, q⟩
end
def lenO (o : Option AO) : Option Nat := match o with
  | some (.lst xs) => some xs.length
  | some (.dK xs) => some xs.length
  | _ => none
def cLen : List A → AH → Res A
  | [.str z], h => ifB (decide (z.length ≤ 100000)) (.ok (.int (z.length : Int)) h)
  | [.tup xs], h => .ok (.int (xs.length : Int)) h
  | [.fz xs], h => .ok (.int (xs.length : Int)) h
  | [.loc n], h => withO (lenO h[n]?) fun k => .ok (.int (k : Int)) h
  | _, _ => .bad
def rLenU (K : PySem.W.Frag) : List V → Hp → VK → Prop := fun xs H Q => (∃ x n, xs = [x] ∧ LenV K x H n ∧ Q (.int (n : Nat)) H) ∨ ∃ a kvs, xs = [V.ref a] ∧ H a = some (.dK kvs) ∧ Q (.int (kvs.length : Nat)) H
theorem call_lenU {X : Cx} : CallR X (.builtin "len") (rLenU X.K) := cr_or call_len call_lenD
theorem sim_len {K : Gx} : SimC K (rLenU K.K) cLen := by
  intro W m σ h H xs us Q hr ra p
  rcases xs with _ | ⟨x, _ | ⟨y, r⟩⟩
  · exact p.elim
  · obtain ⟨u, rfl, r⟩ := ra.one
    cases r with
    | str z =>
      obtain ⟨z1, p⟩ := ifB_p p
      exact .inl ⟨_, z.length, rfl, ⟨le_line (of_decide_eq_true z1), rfl⟩, p.fin0 hr (.int _)⟩
    | tup s rz => exact .inl ⟨_, _, rfl, .inr ⟨_, s, rfl⟩, by rw [← rz.len]; exact p.fin0 hr (.int _)⟩
    | fz s => exact .inl ⟨_, _, rfl, .inl ⟨_, s.sq, rfl⟩, by rw [List.length_map]; exact p.fin0 hr (.int _)⟩
    | @loc n a hn =>
      obtain ⟨k, e, p⟩ := withO_p p
      cases q : h[n]? with
      | none =>
        rw [q] at e
        cases e
      | some o =>
        rw [q] at e
        cases o with
        | lst xs =>
          cases e
          obtain ⟨vs, e1, e2⟩ := hr.lstA hn q
          exact .inl ⟨_, _, rfl, .inl ⟨vs, SqL.of e1, rfl⟩, by rw [← e2.len]; exact p.fin0 hr (.int _)⟩
        | dK kvs =>
          cases e
          obtain ⟨vs, e1, e2⟩ := hr.dKA hn q
          exact .inr ⟨a, vs, rfl, e1, by rw [← e2.length]; exact p.fin0 hr (.int _)⟩
        | ins C fs => cases e
    | _ => exact p.elim
  · cases x <;> exact p.elim
def cTup : List A → AH → Res A
  | [.tup xs], h => .ok (.tup xs) h
  | [.loc n], h => withO (rdAt h n) fun xs => .ok (.tup xs) h
  | _, _ => .bad
theorem sim_tupC {K : Gx} : SimC K (fun xs H Q => ∃ p ys, xs = [.ref p] ∧ ((SqL K.K H p ys ∧ ∀ l, H l = none → Q (.ref l) (upd H l (.tup ys))) ∨ (SqT K.K H p ys ∧ Q (.ref p) H))) cTup := by
  intro W m σ h H xs us Q hr ra p
  rcases xs with _ | ⟨x, _ | ⟨y, r⟩⟩
  · exact p.elim
  · obtain ⟨u, rfl, r⟩ := ra.one
    cases r with
    | tup s rz => exact ⟨_, _, rfl, .inr ⟨s, p.fin0 hr (.tup s rz)⟩⟩
    | @loc n a hn =>
      obtain ⟨xs, e, p⟩ := withO_p p
      obtain ⟨vs, e1, e2⟩ := hr.rdA hn e
      exact ⟨a, vs, rfl, .inl ⟨e1, fun q hq => p.fin (Fw.new0 hq _) (hr.new0 hq _) (.tup (SqT.of upd_same) (e2.fw hr (Fw.new0 hq _)))⟩⟩
    | _ => exact p.elim
  · cases x <;> exact p.elim
def cLst : List A → AH → Res A
  | [.tup xs], h => .ok (.loc h.length) (h ++ [.lst xs])
  | [.loc n], h => withO (rdAt h n) fun xs => .ok (.loc h.length) (h ++ [.lst xs])
  | _, _ => .bad
theorem sim_lstC {K : Gx} : SimC K (fun xs H Q => ∃ p ys, xs = [.ref p] ∧ (SqL K.K H p ys ∨ SqT K.K H p ys) ∧ ∀ l, H l = none → Q (.ref l) (upd H l (.lst ys))) cLst := by
  intro W m σ h H xs us Q hr ra p
  rcases xs with _ | ⟨x, _ | ⟨y, r⟩⟩
  · exact p.elim
  · obtain ⟨u, rfl, r⟩ := ra.one
    cases r with
    | tup s rz =>
      refine ⟨_, _, rfl, .inr s, fun q hq => ?_⟩
      obtain ⟨n1, n2, n3⟩ := newLst hr hq rz
      exact p.fin n2 n1 n3
    | @loc n a hn =>
      obtain ⟨xs, e, p⟩ := withO_p p
      obtain ⟨vs, e1, e2⟩ := hr.rdA hn e
      refine ⟨a, vs, rfl, .inl e1, fun q hq => ?_⟩
      obtain ⟨n1, n2, n3⟩ := newLst hr hq e2
      exact p.fin n2 n1 n3
    | _ => exact p.elim
  · cases x <;> exact p.elim
def cInt : List A → AH → Res A
  | [.int i], h => .ok (.int i) h
  | [.bl b], h => .ok (.int (if b then 1 else 0)) h
  | [.str a], h => ifB (decide (a.length ≤ 640)) (withO (PySem.intText? a) fun n => .ok (.int n) h)
  | _, _ => .bad
def rIntU : List V → Hp → VK → Prop := fun xs H Q => ((∃ i, xs = [.int i] ∧ Q (.int i) H) ∨ ∃ k, xs = [.bl k] ∧ Q (.int (if k then 1 else 0)) H) ∨ ∃ a n, xs = [.str a] ∧ PySem.intText? a = some n ∧ a.length ≤ 640 ∧ Q (.int n) H
theorem call_intU {X : Cx} : CallR X (.type "int") rIntU := cr_or call_int1 call_int_str
theorem sim_intU {K : Gx} : SimC K rIntU cInt := by
  intro W m σ h H xs us Q hr ra p
  rcases xs with _ | ⟨x, _ | ⟨y, r⟩⟩
  · exact p.elim
  · obtain ⟨u, rfl, r⟩ := ra.one
    cases r with
    | int i => exact .inl (.inl ⟨i, rfl, p.fin0 hr (.int _)⟩)
    | bl b => exact .inl (.inr ⟨b, rfl, p.fin0 hr (.int _)⟩)
    | str a =>
      obtain ⟨z, p⟩ := ifB_p p
      obtain ⟨n, e, p⟩ := withO_p p
      exact .inr ⟨a, n, rfl, e, of_decide_eq_true z, p.fin0 hr (.int _)⟩
    | _ => exact p.elim
  · cases x <;> exact p.elim
/-- two ints -/
def c2I (g : Int → Int → Int) : List A → AH → Res A
  | [.int i, .int j], h => .ok (.int (g i j)) h
  | _, _ => .bad
theorem sim_2I {K : Gx} {g : Int → Int → Int} : SimC K (fun xs H Q => ∃ i j, xs = [.int i, .int j] ∧ Q (.int (g i j)) H) (c2I g) := by
  intro W m σ h H xs us Q hr ra p
  rcases xs with _ | ⟨x, _ | ⟨y, _ | ⟨z, r⟩⟩⟩
  · exact p.elim
  · cases x <;> exact p.elim
  · obtain ⟨u, v, rfl, r, q⟩ := ra.two
    cases r with
    | int i =>
      cases q with
      | int j => exact ⟨i, j, rfl, p.fin0 hr (.int _)⟩
      | _ => exact p.elim
    | _ => cases q <;> exact p.elim
  · cases x <;> cases y <;> exact p.elim
def cMin := c2I fun i j => if j < i then j else i
def cMax := c2I fun i j => if j > i then j else i
theorem sim_min {K : Gx} : SimC K (fun xs H Q => ∃ i j, xs = [.int i, .int j] ∧ Q (.int (if j < i then j else i)) H) cMin := sim_2I
theorem sim_max {K : Gx} : SimC K (fun xs H Q => ∃ i j, xs = [.int i, .int j] ∧ Q (.int (if j > i then j else i)) H) cMax := sim_2I
/-! ### methods -/
def mAppend : A → List A → AH → Res A
  | .loc n, [a], h => withO (lstAt h n) fun xs => ifB (decide (xs.length < 100000)) (.ok .non (h.set n (.lst (xs ++ [a]))))
  | _, _, _ => .bad
theorem lt_line {n : Nat} (h : n < 100000) : n < sizeLine := Nat.lt_of_lt_of_le h (by decide)
theorem putLst {K : Gx} {m : List Addr} {h : AH} {H : Hp} (hr : HR K m h H) {n : Nat} {a : Addr} (hn : m[n]? = some a) {xs : List A} {vs : List V} (r : Ra K m H xs vs) : HR K m (h.set n (.lst xs)) (upd H a (.lst vs)) ∧ Fw m H m (upd H a (.lst vs)) := by
  have fw : Fw m H m (upd H a (.lst vs)) := Fw.put (List.mem_of_getElem? hn) _
  exact ⟨hr.put hn ⟨vs, upd_same, r.fw hr fw⟩, fw⟩
theorem sim_append {K : Gx} : SimM K rAppend mAppend := by
  intro W m σ h H x u xs us Q hr rx ra p
  cases rx with
  | @loc n a hn =>
    rcases xs with _ | ⟨y, _ | ⟨z, r⟩⟩
    · exact p.elim
    · obtain ⟨v, rfl, rv⟩ := ra.one
      obtain ⟨ys, e, p⟩ := withO_p p
      obtain ⟨z, p⟩ := ifB_p p
      obtain ⟨vs, e1, e2⟩ := hr.lstA hn (lstAt_of e)
      obtain ⟨n1, n2⟩ := putLst hr hn (e2.snoc rv)
      exact ⟨a, vs, v, rfl, rfl, e1, by rw [← e2.len]; exact lt_line (of_decide_eq_true z), p.fin n2 n1 .non⟩
    · exact p.elim
  | _ => exact p.elim
def mPopAt : A → List A → AH → Res A
  | .loc n, [.int i], h => withO (lstAt h n) fun xs => ifB (decide (-(2 ^ 63) ≤ i) && decide (i < 2 ^ 63)) (withO (seqIndex? i xs.length) fun k => withO xs[k]? fun a => .ok a (h.set n (.lst (xs.eraseIdx k))))
  | _, _, _ => .bad
theorem sim_popAt {K : Gx} : SimM K rPopAt mPopAt := by
  intro W m σ h H x u xs us Q hr rx ra p
  cases rx with
  | @loc n a hn =>
    rcases xs with _ | ⟨y, _ | ⟨z, r⟩⟩
    · exact p.elim
    · obtain ⟨v, rfl, rv⟩ := ra.one
      cases rv with
      | int i =>
        obtain ⟨ys, e, p⟩ := withO_p p
        obtain ⟨z, p⟩ := ifB_p p
        obtain ⟨z1, z2⟩ := Bool.and_eq_true_iff.mp z
        obtain ⟨k, ek, p⟩ := withO_p p
        obtain ⟨b, eb, p⟩ := withO_p p
        obtain ⟨vs, e1, e2⟩ := hr.lstA hn (lstAt_of e)
        obtain ⟨w, e3, e4⟩ := e2.get eb
        obtain ⟨n1, n2⟩ := putLst hr hn (e2.erase k)
        exact ⟨a, vs, i, k, w, rfl, rfl, e1, of_decide_eq_true z1, of_decide_eq_true z2, by rw [← e2.len]; exact ek, e3, p.fin n2 n1 (e4.fw hr n2)⟩
      | _ => exact p.elim
    · cases y <;> exact p.elim
  | _ => cases xs <;> exact p.elim
def mPop : A → List A → AH → Res A
  | .loc n, [], h => withO (lstAt h n) fun xs => withO xs[xs.length - 1]? fun a => .ok a (h.set n (.lst xs.dropLast))
  | _, _, _ => .bad
theorem sim_pop {K : Gx} : SimM K rPop mPop := by
  intro W m σ h H x u xs us Q hr rx ra p
  cases rx with
  | @loc n a hn =>
    cases ra with
    | nil =>
      obtain ⟨ys, e, p⟩ := withO_p p
      obtain ⟨b, eb, p⟩ := withO_p p
      obtain ⟨vs, e1, e2⟩ := hr.lstA hn (lstAt_of e)
      obtain ⟨w, e3, e4⟩ := e2.get eb
      obtain ⟨n1, n2⟩ := putLst hr hn e2.dropLast
      exact ⟨a, vs, w, rfl, rfl, e1, by rw [← e2.len]; exact e3, p.fin n2 n1 (e4.fw hr n2)⟩
    | cons _ _ => exact p.elim
  | _ => cases ra <;> exact p.elim
def mExtend : A → List A → AH → Res A
  | .loc n, [.loc k], h => withO (lstAt h n) fun xs => withO (lstAt h k) fun ys => ifB (decide (xs.length + ys.length ≤ 100000)) (.ok .non (h.set n (.lst (xs ++ ys))))
  | _, _, _ => .bad
theorem sim_extend {K : Gx} : SimM K rExtend mExtend := by
  intro W m σ h H x u xs us Q hr rx ra p
  cases rx with
  | @loc n a hn =>
    rcases xs with _ | ⟨y, _ | ⟨z, r⟩⟩
    · exact p.elim
    · obtain ⟨v, rfl, rv⟩ := ra.one
      cases rv with
      | @loc k b hk =>
        obtain ⟨ys, e, p⟩ := withO_p p
        obtain ⟨zs, e', p⟩ := withO_p p
        obtain ⟨z, p⟩ := ifB_p p
        obtain ⟨vs, e1, e2⟩ := hr.lstA hn (lstAt_of e)
        obtain ⟨ws, e3, e4⟩ := hr.lstA hk (lstAt_of e')
        obtain ⟨n1, n2⟩ := putLst hr hn (e2.app e4)
        exact ⟨a, b, vs, ws, rfl, rfl, e1, e3, by rw [← e2.len, ← e4.len]; exact le_line (of_decide_eq_true z), p.fin n2 n1 .non⟩
      | _ => exact p.elim
    · cases y <;> exact p.elim
  | _ => cases xs <;> exact p.elim
/-- a method of a text and a text -/
def mS1 (C : Str → Str → Bool) (g : Str → Str → A) : A → List A → AH → Res A
  | .str a, [.str b], h => ifB (C a b) (.ok (g a b) h)
  | _, _, _ => .bad
theorem sim_S1 {K : Gx} {C : Str → Str → Bool} {g : Str → Str → A} {P : Str → Str → Prop} {gv : Str → Str → V} (hc : ∀ a b, C a b = true → P a b) (hg : ∀ m H a b, Rl K m H (g a b) (gv a b)) : SimM K (fun x xs H Q => ∃ a b, x = .str a ∧ xs = [.str b] ∧ P a b ∧ Q (gv a b) H) (mS1 C g) := by
  intro W m σ h H x u xs us Q hr rx ra p
  cases rx with
  | str a =>
    rcases xs with _ | ⟨y, _ | ⟨z, r⟩⟩
    · exact p.elim
    · obtain ⟨v, rfl, rv⟩ := ra.one
      cases rv with
      | str b =>
        obtain ⟨z, p⟩ := ifB_p p
        exact ⟨a, b, rfl, rfl, hc a b z, p.fin0 hr (hg _ _ a b)⟩
      | _ => exact p.elim
    · cases y <;> exact p.elim
  | _ => cases xs <;> exact p.elim
def shortS (a _ : Str) : Bool := decide (a.length ≤ 100000)
theorem shortS_p (a b : Str) (h : shortS a b = true) : a.length ≤ sizeLine := le_line (of_decide_eq_true h)
def mStrip := mS1 shortS fun a b => .str (Txt.stripChars a b)
def mLstrip := mS1 shortS fun a b => .str (Txt.lstripChars a b)
def mRstrip := mS1 shortS fun a b => .str (Txt.rstripChars a b)
theorem sim_strip {K : Gx} : SimM K (fun x xs H Q => ∃ a b, x = .str a ∧ xs = [.str b] ∧ a.length ≤ sizeLine ∧ Q (.str (Txt.stripChars a b)) H) mStrip := sim_S1 (P := fun a _ => a.length ≤ sizeLine) shortS_p fun _ _ _ _ => .str _
theorem sim_lstrip {K : Gx} : SimM K (fun x xs H Q => ∃ a b, x = .str a ∧ xs = [.str b] ∧ a.length ≤ sizeLine ∧ Q (.str (Txt.lstripChars a b)) H) mLstrip := sim_S1 (P := fun a _ => a.length ≤ sizeLine) shortS_p fun _ _ _ _ => .str _
theorem sim_rstrip {K : Gx} : SimM K (fun x xs H Q => ∃ a b, x = .str a ∧ xs = [.str b] ∧ a.length ≤ sizeLine ∧ Q (.str (Txt.rstripChars a b)) H) mRstrip := sim_S1 (P := fun a _ => a.length ≤ sizeLine) shortS_p fun _ _ _ _ => .str _
def mStarts : A → List A → AH → Res A
  | .str a, [.str b], h => .ok (.bl (Txt.startswith a b)) h
  | _, _, _ => .bad
theorem sim_starts {K : Gx} : SimM K (fun x xs H Q => ∃ a b, x = .str a ∧ xs = [.str b] ∧ Q (.bl (Txt.startswith a b)) H) mStarts := by
  intro W m σ h H x u xs us Q hr rx ra p
  cases rx with
  | str a =>
    rcases xs with _ | ⟨y, _ | ⟨z, r⟩⟩
    · exact p.elim
    · obtain ⟨v, rfl, rv⟩ := ra.one
      cases rv with
      | str b => exact ⟨a, b, rfl, rfl, p.fin0 hr (.bl _)⟩
      | _ => exact p.elim
    · cases y <;> exact p.elim
  | _ => cases xs <;> exact p.elim
/-! ### xs[i] = e -/
def aSetL (o i e : AE) : AC := fun ρ h => bindS (e ρ h) ρ fun v h1 => bindS (o ρ h1) ρ fun x h2 => bindS (i ρ h2) ρ fun y h3 => match x, y with
  | .loc n, .int k => match lstAt h3 n with
    | some xs => match ixN xs.length k with
      | some j => .nx ρ (h3.set n (.lst (xs.set j v)))
      | none => .bad
    | none => .bad
  | _, _ => .bad
section
variable {X : Cx} {cl : Nat → Addr} {W : WX} {o i e : Expr} {eo ei ee : AE} {pos pos' : Pos}
theorem ds_setL (he : DE X cl W e ee) (ho : DE X cl W o eo) (hi : DE X cl W i ei) (hst : PS X (.Assign [.Subscript o i pos'] e pos) (tAsg (tOf ⟨X.K, cl⟩ W (Rl ⟨X.K, cl⟩) ee) (gSub (tOf ⟨X.K, cl⟩ W (Rl ⟨X.K, cl⟩) eo) (tOf ⟨X.K, cl⟩ W (Rl ⟨X.K, cl⟩) ei) rSetL))) : DS X cl W (.Assign [.Subscript o i pos'] e pos) (aSetL eo ei ee) :=
  psM hst fun D σ H ⟨m, ρ, h, hr, rs, p⟩ => ⟨m, ρ, h, hr, rs, PostS.bind p hr rs fun v h1 m1 v1 H1 e1 f1 hr1 r1 p1 => ⟨m1, ρ, h1, hr1, rs.fw hr f1, PostS.bind p1 hr1 (rs.fw hr f1) fun x h2 m2 v2 H2 e2 f2 hr2 r2 p2 => ⟨m2, ρ, h2, hr2, rs.fw hr (f1.trans f2), PostS.bind p2 hr2 (rs.fw hr (f1.trans f2)) fun y h3 m3 v3 H3 e3 f3 hr3 r3 p3 => by
    have r2' := r2.fw hr2 f3
    cases r2' with
    | @loc n a hn =>
      cases r3 with
      | int k =>
        simp only at p3
        cases l : lstAt h3 n with
        | none =>
          rw [l] at p3
          exact p3.elim
        | some xs =>
          rw [l] at p3
          simp only at p3
          cases j : ixN xs.length k with
          | none =>
            rw [j] at p3
            exact p3.elim
          | some j' =>
            rw [j] at p3
            obtain ⟨vs, a1, a2⟩ := hr3.lstA hn (lstAt_of l)
            have rv := (r1.fw hr1 (f2.trans f3))
            obtain ⟨n1, n2⟩ := putLst hr3 hn (a2.setA rv j')
            exact ⟨a, vs, k, j', rfl, rfl, a1, by rw [← a2.len]; exact j, p3 m3 σ _ n2 n1 ((rs.fw hr ((f1.trans f2).trans f3)).fw hr3 n2)⟩
      | _ => exact p3.elim
    | _ => cases r3 <;> exact p3.elim⟩⟩⟩
end
end SA
set_option Elab.async false
set_option linter.all false
set_option maxRecDepth 100000
set_option maxHeartbeats 4000000
/-! SI: dicts written out, what is raised and caught. -/
namespace SA
open PySem PySem.Spec PyProof.Rows L2
/-! ### {k: v, ..} -/
def aPairs : List (AE × AE) → AS → AH → Res (List (A × A))
  | [], _, h => .ok [] h
  | (k, v) :: r, ρ, h => (k ρ h).bind fun x h1 => (v ρ h1).bind fun y h2 => (aPairs r ρ h2).bind fun ps h3 => .ok ((x, y) :: ps) h3
def R2p (K : Gx) (m : List Addr) (H : Hp) : List (A × A) → List (V × V) → Prop := Paired fun p q => Rl K m H p.1 q.1 ∧ Rl K m H p.2 q.2
theorem R2p.fw {K : Gx} {m m' : List Addr} {h : AH} {H H' : Hp} (hr : HR K m h H) (f : Fw m H m' H') : ∀ {x : List (A × A)} {v : List (V × V)}, R2p K m H x v → R2p K m' H' x v
  | _, _, .nil => .nil
  | _, _, .cons a b => .cons ⟨a.1.fw hr f, a.2.fw hr f⟩ (R2p.fw hr f b)
def tps (K : Gx) (W : WX) (l : List (AE × AE)) : List (TE × TE) := l.map fun p => (tOf K W (Rl K) p.1, tOf K W (Rl K) p.2)
theorem sim_pairs {K : Gx} {W : WX} : ∀ (l : List (AE × AE)) (σ : L2.St) (H : Hp) (Q : List (V × V) → Hp → Prop), tOf K W (R2p K) (aPairs l) σ H Q → tPairs (tps K W l) σ H Q
  | [], σ, H, Q, ⟨m, ρ, h, hr, rs, p⟩ => p.fin0 hr .nil
  | (k, v) :: r, σ, H, Q, ⟨m, ρ, h, hr, rs, p⟩ => ⟨m, ρ, h, hr, rs, Post.bind p fun x h1 m1 v1 H1 e1 f1 hr1 r1 p1 => ⟨m1, ρ, h1, hr1, rs.fw hr f1, Post.bind p1 fun y h2 m2 v2 H2 e2 f2 hr2 r2 p2 => sim_pairs r σ H2 _ ⟨m2, ρ, h2, hr2, rs.fw hr (f1.trans f2), Post.bind p2 fun ps h3 m3 v3 H3 e3 f3 hr3 r3 p3 =>
      p3.fin0 hr3 (.cons ⟨r1.fw hr1 (f2.trans f3), r2.fw hr2 f3⟩ r3)⟩⟩⟩
def keysOf : List (A × A) → Option (List (Key × A))
  | [] => some []
  | (x, y) :: r => (keyA x).bind fun k => (keysOf r).map ((k, y) :: ·)
def mergeA (kvs more : List (Key × A)) : List (Key × A) := more.foldl (fun acc kv => putA acc kv.1 kv.2) kvs
theorem keysOf_p {K : Gx} {m : List Addr} {H : Hp} : ∀ {ps : List (A × A)} {vs : List (V × V)} {kvs : List (Key × A)}, R2p K m H ps vs → keysOf ps = some kvs → ∃ ws, vs = ws.map (fun kv => (kV kv.1, kv.2)) ∧ Rf K m H kvs ws
  | [], _, kvs, r, e => by
    cases r
    cases e
    exact ⟨[], rfl, .nil⟩
  | (x, y) :: ps, _, kvs, r, e => by
    cases r with
    | @cons _ q _ qs a b =>
      obtain ⟨q1, q2⟩ := q
      have e : ((keyA x).bind fun k => (keysOf ps).map ((k, y) :: ·)) = some kvs := e
      obtain ⟨k, e1, e2⟩ := Option.bind_eq_some_iff.mp e
      obtain ⟨ks, e3, e4⟩ := Option.map_eq_some_iff.mp e2
      subst e4
      obtain ⟨ws, e5, r5⟩ := keysOf_p b e3
      have e6 : q1 = kV k := a.1.key e1
      subst e6 e5
      exact ⟨(k, q2) :: ws, rfl, .cons ⟨rfl, a.2⟩ r5⟩
theorem mergeA_p {K : Gx} {m : List Addr} {H : Hp} : ∀ {more : List (Key × A)} {mw : List (Key × V)} {kvs : List (Key × A)} {ws : List (Key × V)}, Rf K m H more mw → Rf K m H kvs ws → Rf K m H (mergeA kvs more) (mergeK ws mw)
  | _, _, _, _, .nil, r => r
  | (k, a) :: more, (k', v) :: mw, kvs, ws, .cons ⟨e, q⟩ t, r => by
    cases e
    exact mergeA_p (kvs := putA kvs k a) (ws := putK ws k v) t (r.putK q)
def aDisp (l : List (AE × AE)) : AE := fun ρ h => (aPairs l ρ (h ++ [.dK []])).bind fun ps h2 => match dictAt h2 h.length with
  | some [] => withO (keysOf ps) fun kvs => ifB (decide (kvs.length ≤ 15)) (.ok (.loc h.length) (h2.set h.length (.dK (mergeA [] kvs))))
  | _ => .bad
theorem putDict {K : Gx} {m : List Addr} {h : AH} {H : Hp} (hr : HR K m h H) {n : Nat} {a : Addr} (hn : m[n]? = some a) {xs : List (Key × A)} {vs : List (Key × V)} (r : Rf K m H xs vs) : HR K m (h.set n (.dK xs)) (upd H a (.dK vs)) ∧ Fw m H m (upd H a (.dK vs)) := by
  have fw : Fw m H m (upd H a (.dK vs)) := Fw.put (List.mem_of_getElem? hn) _
  exact ⟨hr.put hn ⟨vs, upd_same, r.fw hr fw⟩, fw⟩
section
variable {X : Cx} {cl : Nat → Addr} {W : WX} {pos : Pos}
abbrev DPP (X : Cx) (cl : Nat → Addr) (W : WX) (pos : Pos) (ks : List (Option Expr)) (vs : List Expr) (l : List (AE × AE)) : Prop := PPs X pos ks vs (tps ⟨X.K, cl⟩ W l)
theorem dpp_nil : DPP X cl W pos [] [] [] := pps_nil
theorem dpp_cons {k v : Expr} {ks : List (Option Expr)} {vs : List Expr} {ek ev : AE} {l : List (AE × AE)} (hk : DE X cl W k ek) (hv : DE X cl W v ev) (hr : DPP X cl W pos ks vs l) : DPP X cl W pos (some k :: ks) (v :: vs) ((ek, ev) :: l) := pps_cons hk hv hr
theorem de_disp {ks : List (Option Expr)} {vs : List Expr} {l : List (AE × AE)} (h : DPP X cl W pos ks vs l) (hall : ks.all (·.isSome) = true) (hl : ks.length = vs.length) (h0 : ks ≠ []) (h15 : ks.length ≤ 15) : DE X cl W (.Dict ks vs pos) (aDisp l) :=
  peM (pe_disp h hall hl h0 h15) fun σ H Q ⟨m, ρ, h, hr, rs, p⟩ => fun a ha => by
    have fw : Fw m H (m ++ [a]) (upd H a (.dK [])) := Fw.new1 hr ha _
    have hr1 : HR ⟨X.K, cl⟩ (m ++ [a]) (h ++ [.dK []]) (upd H a (.dK [])) := hr.new1 ha ⟨[], upd_same, .nil⟩
    have hn : (m ++ [a])[h.length]? = some a := by
      rw [← hr.len, List.getElem?_append_right (Nat.le_refl _), Nat.sub_self]
      rfl
    refine sim_pairs l σ _ _ ⟨m ++ [a], ρ, h ++ [.dK []], hr1, rs.fw hr fw, Post.bind (p.fw fw) fun ps h2 m2 vs H2 e2 f2 hr2 r2 p2 => ?_⟩
    have hn2 := f2.at hn
    cases q : dictAt h2 h.length with
    | none =>
      rw [q] at p2
      exact p2.elim
    | some kvs =>
      rw [q] at p2
      cases kvs with
      | cons x r => exact p2.elim
      | nil =>
        obtain ⟨kvs, ek, p2⟩ := withO_p p2
        obtain ⟨z, p2⟩ := ifB_p p2
        obtain ⟨w0, a1, a2⟩ := hr2.dKA hn2 (dictAt_of q)
        cases a2
        obtain ⟨ws, ew, rw'⟩ := keysOf_p r2 ek
        obtain ⟨n1, n2⟩ := putDict hr2 hn2 (mergeA_p rw' (.nil : Rf ⟨X.K, cl⟩ m2 H2 [] []))
        exact ⟨a1, ws, ew, by rw [← rw'.length]; exact of_decide_eq_true z, p2.fin n2 n1 (.loc hn2)⟩
end
/-! ### raised -/
/-- what C's own __init__(self, f) does; two fields -/
def spX1 (K : PySem.W.Frag) (f : Str) : Sp := fun vs H Q _ => ∃ (a C : Addr) (v : V), vs = [.ref a, v] ∧ OexC K C ∧ PySem.W.findIn K (.ref C) f = some none ∧ H a = some (exo a C none) ∧ ∀ dx, H dx = none → dx ≠ a → Q .non (upd (upd H dx (exd dx [(f, v)])) a (exo a C (some dx)))
def spX2 (K : PySem.W.Frag) (f g : Str) : Sp := fun vs H Q _ => ∃ (a C : Addr) (v u : V), vs = [.ref a, v, u] ∧ OexC K C ∧ PySem.W.findIn K (.ref C) f = some none ∧ PySem.W.findIn K (.ref C) g = some none ∧ H a = some (exo a C none) ∧
  ∀ dx, H dx = none → dx ≠ a → Q .non (upd (upd (upd H dx (exd dx [(f, v)])) a (exo a C (some dx))) dx (exd dx [(g, u), (f, v)]))
/-- a class of refusals with one field, with two -/
structure Xc1 (P : Program) (w : World) (K : PySem.W.Frag) (mg : Str → Option Value) (base : Heap) (x f : Str) (C fI : Addr) (fd : FuncData) : Prop where
  ox : OexC K C
  it : PySem.W.findIn K (.ref C) "__init__" = some (some (.ref fI))
  ty : PySem.W.typeIn K (.ref fI) = some (.type "function")
  gl : mg x = some (.ref C)
  bi : Binds K fd ["self", f] []
  no : PySem.W.findIn K (.ref C) f = some none
  G : FnOk P w K mg base CX0 1 fI fd ["self", f] (spX1 K f)
structure Xc2 (P : Program) (w : World) (K : PySem.W.Frag) (mg : Str → Option Value) (base : Heap) (x f g : Str) (C fI : Addr) (fd : FuncData) : Prop where
  ox : OexC K C
  it : PySem.W.findIn K (.ref C) "__init__" = some (some (.ref fI))
  ty : PySem.W.typeIn K (.ref fI) = some (.type "function")
  gl : mg x = some (.ref C)
  bi : Binds K fd ["self", f, g] []
  no : PySem.W.findIn K (.ref C) f = some none
  no2 : PySem.W.findIn K (.ref C) g = some none
  G : FnOk P w K mg base CX0 1 fI fd ["self", f, g] (spX2 K f g)
def aRaise1 (C : Nat) (f : Str) (es : AL) : AC := fun ρ h => bindS (es ρ h) ρ fun as h1 => match as with
  | [a] => .exc C (some [(f, a)]) ρ h1
  | _ => .bad
def aRaise2 (C : Nat) (f g : Str) (es : AL) : AC := fun ρ h => bindS (es ρ h) ρ fun as h1 => match as with
  | [a, b] => .exc C (some [(g, b), (f, a)]) ρ h1
  | _ => .bad
section
variable {X : Cx} {cl : Nat → Addr} {W : WX} {p p2 pos : Pos} {e1 e2 : Expr} {er : AL} {x f g : Str} {C : Nat} {fI : Addr} {fd : FuncData}
theorem ds_raise1 (T : Xc1 X.prog X.w X.K X.mg X.base x f (cl C) fI fd) (hc : X.calm = true) (tk : Takes X W) (hr : Room 2 X.A) (hg : Gl X x) (ha : DA X cl W [e1] er) (hdb : (x == ("__debug__" : Str)) = false := by decide)
    (h1 : starEach [e1] X.env = (false, eval e1 X.env) :: starEach [] X.env := by rfl) (h2 : (backTo p2 (starEach [] X.env)).any (·.1) = false := by rfl) : DS X cl W (.Raise (some (.Call (.Name x p) [e1] [] p2)) none pos) (aRaise1 C f er) :=
  psM (ps_raise hc tk (pmk_oex T.ox T.it T.ty T.G hr T.bi .nil pass0 hg T.gl ha hdb h1 h2)) fun D σ H ⟨m, ρ, h, hr, rs, p⟩ => ⟨m, ρ, h, hr, rs, PostS.bind p hr rs fun as h1 m1 vs H1 e1 f1 hr1 r1 p1 => by
    rcases as with _ | ⟨a, _ | ⟨b, r⟩⟩
    · exact p1.elim
    · obtain ⟨v, rfl, ra⟩ := r1.one
      refine ⟨by show 1 ≤ 1000; decide, fun ad had => ⟨ad, cl C, v, rfl, T.ox, T.no, upd_same, fun dx hd ne => ⟨rfl, dx, [(f, v)], upd_same, by rw [upd_ne ne, upd_same], ?_, ?_⟩⟩⟩
      · rw [upd_ne ne] at hd
        exact hd
      · rw [upd_ne ne] at hd
        have ex : Evl.Ex H1 (upd (del (upd (upd (upd H1 ad (exo ad (cl C) none)) dx (exd dx [(f, v)])) ad (exo ad (cl C) (some dx))) ad) dx (.xd [(f, v)])) := fun b o h3 => by
          have nb : b ≠ dx := ne_of_none h3 hd
          have na : b ≠ ad := ne_of_none h3 had
          rw [upd_ne nb, del_ne na, upd_ne na, upd_ne nb, upd_ne na]
          exact h3
        exact p1 m1 (some dx) σ _ (Fw.ex ex) (hr1.ex ex) ((rs.fw hr f1).fw hr1 (Fw.ex ex)) ⟨dx, [(f, v)], rfl, upd_same, .cons ⟨rfl, ra.fw hr1 (Fw.ex ex)⟩ .nil⟩
    · exact p1.elim⟩
theorem ds_raise2 (T : Xc2 X.prog X.w X.K X.mg X.base x f g (cl C) fI fd) (hc : X.calm = true) (tk : Takes X W) (hr : Room 2 X.A) (hg : Gl X x) (ha : DA X cl W [e1, e2] er) (hdb : (x == ("__debug__" : Str)) = false := by decide)
    (h1 : starEach [e1, e2] X.env = (false, eval e1 X.env) :: starEach [e2] X.env := by rfl) (h2 : (backTo p2 (starEach [e2] X.env)).any (·.1) = false := by rfl) : DS X cl W (.Raise (some (.Call (.Name x p) [e1, e2] [] p2)) none pos) (aRaise2 C f g er) :=
  psM (ps_raise hc tk (pmk_oex T.ox T.it T.ty T.G hr T.bi .nil pass0 hg T.gl ha hdb h1 h2)) fun D σ H ⟨m, ρ, h, hr, rs, p⟩ => ⟨m, ρ, h, hr, rs, PostS.bind p hr rs fun as h1 m1 vs H1 e1 f1 hr1 r1 p1 => by
    rcases as with _ | ⟨a, _ | ⟨b, _ | ⟨c, r⟩⟩⟩
    · exact p1.elim
    · exact p1.elim
    · obtain ⟨v, u, rfl, ra, rb⟩ := r1.two
      refine ⟨by show 2 ≤ 1000; decide, fun ad had => ⟨ad, cl C, v, u, rfl, T.ox, T.no, T.no2, upd_same, fun dx hd ne => ⟨rfl, dx, [(g, u), (f, v)], by rw [upd_ne ne.symm, upd_same], upd_same, ?_, ?_⟩⟩⟩
      · rw [upd_ne ne] at hd
        exact hd
      · rw [upd_ne ne] at hd
        have ex : Evl.Ex H1 (upd (del (upd (upd (upd (upd H1 ad (exo ad (cl C) none)) dx (exd dx [(f, v)])) ad (exo ad (cl C) (some dx))) dx (exd dx [(g, u), (f, v)])) ad) dx (.xd [(g, u), (f, v)])) := fun b o h3 => by
          have nb : b ≠ dx := ne_of_none h3 hd
          have na : b ≠ ad := ne_of_none h3 had
          rw [upd_ne nb, del_ne na, upd_ne nb, upd_ne na, upd_ne nb, upd_ne na]
          exact h3
        exact p1 m1 (some dx) σ _ (Fw.ex ex) (hr1.ex ex) ((rs.fw hr f1).fw hr1 (Fw.ex ex)) ⟨dx, [(g, u), (f, v)], rfl, upd_same, .cons ⟨rfl, rb.fw hr1 (Fw.ex ex)⟩ (.cons ⟨rfl, ra.fw hr1 (Fw.ex ex)⟩ .nil)⟩
    · exact p1.elim⟩
end
/-! ### caught: try: .. except C as n: y = (n.f, n.g) -/
def aTryT (c i y : Nat) (f g : Str) (eb : AC) : AC := fun ρ h => match eb ρ h with
  | .exc c' fs ρ' h' => match (c' == c) && decide (i < ρ'.length) with
    | true => match fs with
      | some fl => match fl.lookup f, fl.lookup g with
        | some a, some b => .nx (((ρ'.set i none).set y (some (.tup [a, b]))).set i none) h'
        | _, _ => .bad
      | none => .bad
    | false => .bad
  | .nx ρ' h' => .nx ρ' h'
  | .rt a h' => .rt a h'
  | .bk ρ' h' => .bk ρ' h'
  | .ct ρ' h' => .ct ρ' h'
  | .bad => .bad
section
variable {X : Cx} {cl : Nat → Addr} {W : WX} {x n yn f g : Str} {C i y kk : Nat} {body : List Stmt} {eb : AC} {np pos pos' q1 q2 q3 q4 q5 q6 q7 : Pos}
theorem ds_tryT (hs : X.stack = X.env :: X.outer) (hf : X.env.frame = some X.env.locals) (hN : X.N.Nodup) (hi : X.N[i]? = some n) (hln : X.env.kindOf n = some .local) (hy : X.N[y]? = some yn) (hyl : X.env.scope.names.lookup yn = some .local) (hny : (yn == ("__debug__" : Str)) = false) (hnd : (n == ("__debug__" : Str)) = false) (hnc : (n == ("__classdict__" : Str)) = false)
    (hc : Names X x (.ref (cl C))) (tk : Takes X W) (te : PySem.W.exmOne X.K (.ref (cl C)) (.ref (cl C)) = some true) (T : XfC X.K (cl C)) (n1 : PySem.W.findIn X.K (.ref (cl C)) f = some none) (n2 : PySem.W.findIn X.K (.ref (cl C)) g = some none)
    (hb : ∀ (W : WX) (pn : List (Addr × Obj)) (xe : Value → Shared → Prop), Takes (X.tr pn xe) W → PassesOwn (model X.prog X.w) X.A X.env xe → DB (X.tr pn xe) cl W body eb)
    (hsu : ∀ (a : Addr) (oe : Obj) (cls : Value) (d : Option Addr) (pn : List (Addr × Obj)), Zc cls d oe → (∃ vs, oe.data = .fields vs) → PSs (X.suite a ((a, oe) :: pn)) [.Assign [.Name yn q1] (.Tuple [.Attribute (.Name n q2) f q3, .Attribute (.Name n q4) g q5] kk q6) q7] (tAsg (tTup (tCons (tXf a cls d (cl C) f (tVar i)) (tCons (tXf a cls d (cl C) g (tVar i)) tNil))) (gName y))) :
    DS X cl W (.Try body [.ExceptHandler (some (.Name x np)) (some n) [.Assign [.Name yn q1] (.Tuple [.Attribute (.Name n q2) f q3, .Attribute (.Name n q4) g q5] kk q6) q7] pos'] [] [] pos) (aTryT C i y f g eb) :=
  psM (ps_try_as hs hf hN hi hln hc tk (tb := fun W => tOfS ⟨X.K, cl⟩ W eb) (fun W pn xe t1 t2 => hb W pn xe t1 t2) hsu) fun D σ H ⟨m, ρ, h, hr, rs, p⟩ => ⟨m, ρ, h, hr, rs, by
    unfold aTryT at p
    generalize eb ρ h = fl at p ⊢
    cases fl with
    | exc c' fs ρ' h' =>
      simp only at p
      cases z : (c' == C) && decide (i < ρ'.length) with
      | false =>
        rw [z] at p
        exact p.elim
      | true =>
        rw [z] at p
        obtain ⟨z0, zl⟩ := Bool.and_eq_true_iff.mp z
        have ec := beq_iff_eq.mp z0
        subst ec
        cases fs with
        | none => exact p.elim
        | some fl =>
          simp only at p
          cases l1 : fl.lookup f with
          | none =>
            rw [l1] at p
            exact p.elim
          | some a =>
            cases l2 : fl.lookup g with
            | none =>
              rw [l1, l2] at p
              exact p.elim
            | some b =>
              rw [l1, l2] at p
              intro m' d σ' H' fw hr' rs' xd
              obtain ⟨dx, ws, ed, hx, rf⟩ := xd
              refine ⟨true, te, fun _ ad had => ?_, fun z => (by cases z)⟩
              obtain ⟨va, k1, ra⟩ := rf.look l1
              obtain ⟨vb, k2, rb⟩ := rf.look l2
              have hsl : i < σ'.length := by
                rw [← rs'.len]
                exact of_decide_eq_true zl
              have hset : (σ'.set i (some (V.ref ad)))[i]? = some (some (.ref ad)) := List.getElem?_set_self hsl
              refine ⟨.ref ad, hset, rfl, rfl, dx, ws, va, ed, hx, k1, .ref ad, hset, rfl, rfl, dx, ws, vb, ed, hx, k2, by show 2 ≤ sizeLine; decide, fun q hq => ?_⟩
              have f2 : Fw m' H' m' (upd H' q (.tup [va, vb])) := Fw.new0 hq _
              have r2 : Rl ⟨X.K, cl⟩ m' (upd H' q (.tup [va, vb])) (.tup [a, b]) (.ref q) := .tup (SqT.of upd_same) (.cons (ra.fw hr' f2) (.cons (rb.fw hr' f2) .nil))
              exact p m' _ _ (fw.trans f2) (hr'.new0 hq _) ((((rs'.fw hr' f2).setN (some (.ref ad)) i).set r2 y).setN none i)
    | _ => exact p⟩
end
end SA
set_option Elab.async false
set_option linter.all false
set_option maxRecDepth 100000
set_option maxHeartbeats 4000000
/-! SJ: short words for what is printed. -/
namespace SA
open PySem PySem.Spec PyProof.Rows L2
section
variable {X : Cx} {cl : Nat → Addr} {W : WX}
theorem dv (i : Nat) {x : Str} {pos : Pos} (hN : X.N[i]? = some x := by rfl) (hv : Vis X.env.scope x := by first | exact Or.inl rfl | exact Or.inr (Or.inl rfl) | exact Or.inr (Or.inr rfl)) (hd : (x == ("__debug__" : Str)) = false := by decide) (hcd : (x == ("__classdict__" : Str)) = false := by decide) : DE X cl W (.Name x pos) (aVar i) := de_var hN hv hd hcd
theorem ra_strs {K : Gx} {m : List Addr} {H : Hp} : ∀ l : List Str, Ra K m H (l.map A.str) (l.map V.str)
  | [] => .nil
  | x :: l => .cons (.str x) (ra_strs l)
theorem dg_strs {x : Str} {a : Addr} {l : List Str} {pos : Pos} (hg : Gl X x) (hm : X.mg x = some (.ref a)) (hs : ∀ H, SqT X.K H a (l.map V.str)) (hd : (x == ("__debug__" : Str)) = false := by decide) : DE X cl W (.Name x pos) (aC (.tup (l.map A.str))) := de_glob (v := .ref a) hg hm rfl (fun m H => .tup (hs H) (ra_strs l)) hd
theorem dg_str {x y : Str} {t : Tok} {pos : Pos} (hg : Gl X x) (hm : X.mg x = some (.str y t)) (hd : (x == ("__debug__" : Str)) = false := by decide) : DE X cl W (.Name x pos) (aC (.str y)) := de_glob (v := .str y) hg hm ⟨t, rfl⟩ (fun _ _ => .str y) hd
theorem dg_int {x : Str} {y : Int} {t : Tok} {pos : Pos} (hg : Gl X x) (hm : X.mg x = some (.int y t)) (hd : (x == ("__debug__" : Str)) = false := by decide) : DE X cl W (.Name x pos) (aC (.int y)) := de_glob (v := .int y) hg hm ⟨t, rfl⟩ (fun _ _ => .int y) hd
/-- a, b, .. of a tuple or a list -/
def gSq (n : Nat) (r : AGs) : AG := fun a ρ h => match a with
  | .tup xs => match xs.length == n with
    | true => r xs ρ h
    | false => none
  | .loc k => match lstAt h k with
    | some xs => match xs.length == n with
      | true => r xs ρ h
      | false => none
    | none => none
  | _ => none
theorem pg_or {tg : Expr} {t u : TG} (h : PG X tg t) (h' : PG X tg u) : PG X tg (fun v σ H Q => t v σ H Q ∨ u v σ H Q) := ⟨fun pins s σ H v u Q I r w => w.elim (h.run pins s σ H v u Q I r) (h'.run pins s σ H v u Q I r)⟩
theorem dg_seq {es : List Expr} {gs : AGs} {pos : Pos} {k n : Nat} (hc : X.calm = true) (h : DGs X cl es gs) (hn : (assignEach es X.env).length = n := by rfl) (hst : (assignEach es X.env).findIdx? (·.1) = none := by rfl) : DG X cl (.Tuple es k pos) (gSq n gs) :=
  pgM (pg_or (dg_tup hc h hn hst) (dg_lst hc h hn hst)) fun v σ H Q ⟨m, ρ, h, a, ρ', hr, rs, ra, e, q⟩ => by
    cases ra with
    | tup s r => exact .inl ⟨m, ρ, h, _, ρ', hr, rs, .tup s r, e, q⟩
    | loc hk => exact .inr ⟨m, ρ, h, _, ρ', hr, rs, .loc hk, e, q⟩
    | _ => cases e
end
theorem fd_bad {P : Program} {w : World} {K : PySem.W.Frag} {mg : Str → Option Value} {base : Heap} {CX : CXT} {cl : Nat → Addr} {k n : Nat} {f : Addr} {fd : FuncData} {ps : List Str} : FnOk P w K mg base CX k f fd ps (spOf ⟨K, cl⟩ n fun _ _ => .bad) :=
  ⟨fun vs H Q E ⟨_, _, _, _, _, _, p⟩ => p.elim, fun A outer s H args us vs Q E _ _ _ _ ⟨_, _, _, _, _, _, p⟩ => p.elim⟩
end SA
set_option Elab.async false
set_option linter.all false
set_option maxRecDepth 100000
set_option maxHeartbeats 4000000
/-! SK: what a def does by itself, in a small heap of its own. -/
namespace SA
open PySem PySem.Spec PyProof.Rows L2
mutual
def lf : A → Bool
  | .tup xs => lfs xs
  | .loc _ => false
  | _ => true
def lfs : List A → Bool
  | [] => true
  | x :: xs => lf x && lfs xs
end
def lff {κ : Type} : List (κ × A) → Bool
  | [] => true
  | (_, x) :: r => lf x && lff r
def lfx : Option (List (Str × A)) → Bool
  | none => true
  | some fs => lff fs
mutual
theorem lf_any {K : Gx} {m m' : List Addr} {H : Hp} : ∀ (x : A) (v : V), lf x = true → Rl K m H x v → Rl K m' H x v
  | .non, _, _, r => by cases r; exact .non
  | .bl b, _, _, r => by cases r; exact .bl b
  | .int i, _, _, r => by cases r; exact .int i
  | .str x, _, _, r => by cases r; exact .str x
  | .tup xs, _, e, r => by
    cases r with
    | tup s a => exact .tup s (lfs_any xs _ e a)
  | .loc n, _, e, r => by cases e
  | .cls c, _, _, r => by cases r; exact .cls c
  | .ty n, _, _, r => by cases r; exact .ty n
  | .fz n, _, _, r => by
    cases r with
    | fz s => exact .fz s
theorem lfs_any {K : Gx} {m m' : List Addr} {H : Hp} : ∀ (xs : List A) (vs : List V), lfs xs = true → Ra K m H xs vs → Ra K m' H xs vs
  | [], _, _, r => by cases r; exact .nil
  | x :: xs, _, e, r => by
    cases r with
    | cons a b =>
      have e : (lf x && lfs xs) = true := e
      obtain ⟨e1, e2⟩ := Bool.and_eq_true_iff.mp e
      exact .cons (lf_any x _ e1 a) (lfs_any xs _ e2 b)
end
theorem lff_any {κ : Type} {K : Gx} {m m' : List Addr} {H : Hp} : ∀ {fs : List (κ × A)} {ws : List (κ × V)}, lff fs = true → Rf K m H fs ws → Rf K m' H fs ws
  | _, _, _, .nil => .nil
  | (k, x) :: r, _, e, .cons a b => by
    have e : (lf x && lff r) = true := e
    obtain ⟨e1, e2⟩ := Bool.and_eq_true_iff.mp e
    exact .cons ⟨a.1, lf_any x _ e1 a.2⟩ (lff_any e2 b)
theorem xd_any {K : Gx} {m m' : List Addr} {H : Hp} {fs : Option (List (Str × A))} {d : Option Addr} (e : lfx fs = true) (x : XD K m H fs d) : XD K m' H fs d := by
  cases fs with
  | none => exact x
  | some fs =>
    obtain ⟨a, ws, h1, h2, h3⟩ := x
    exact ⟨a, ws, h1, h2, lff_any e h3⟩
/-- one list, handed in by itself -/
def back1 (n : Nat) (h : AH) : Res A → Res A
  | .ok a h0 => withO (lstAt h0 0) fun ys => ifB (lf a && lfs ys) (.ok a (h.set n (.lst ys)))
  | .exc c fs h0 => withO (lstAt h0 0) fun ys => ifB (lfx fs && lfs ys) (.exc c fs (h.set n (.lst ys)))
  | .bad => .bad
def pure1 (mf : List A → AH → Res A) : List A → AH → Res A := fun as h => match as with
  | [.loc n] => withO (lstAt h n) fun xs => ifB (lfs xs) (back1 n h (mf [.loc 0] [.lst xs]))
  | _ => .bad
theorem glue1 {K : Gx} {m m0 : List Addr} {h h0 : AH} {H H' : Hp} {n : Nat} {a : Addr} {ys : List A} (hr : HR K m h H) (hn : m[n]? = some a) (fw : Fw [a] H m0 H') (hr0 : HR K m0 h0 H') (e : lstAt h0 0 = some ys) (hy : lfs ys = true) : Fw m H m H' ∧ HR K m (h.set n (.lst ys)) H' := by
  have ha : a ∈ m := List.mem_of_getElem? hn
  have fw' : Fw m H m H' := ⟨⟨[], (List.append_nil m).symm⟩, fun b o hb nb => fw.keep b o hb fun z => nb (by rw [List.mem_singleton.mp z]; exact ha), fun _ h n => absurd h n⟩
  refine ⟨fw', by rw [List.length_set]; exact hr.len, hr.nd, fun k u q => ?_⟩
  have h0a : m0[0]? = some a := fw.at rfl
  by_cases hk : k = n
  · subst hk
    have hl : k < h.length := by
      rw [← hr.len]
      exact (List.getElem?_eq_some_iff.mp hn).1
    rw [List.getElem?_set_self hl] at q
    cases q
    obtain ⟨vs, h1, h2⟩ := hr0.lstA h0a (lstAt_of e)
    exact ⟨a, hn, vs, h1, lfs_any ys vs hy h2⟩
  · rw [List.getElem?_set_ne (Ne.symm hk)] at q
    obtain ⟨b, h1, h2⟩ := hr.ob k u q
    have nb : b ≠ a := fun z => hk (by
      subst z
      obtain ⟨a1, b1⟩ := List.getElem?_eq_some_iff.mp h1
      obtain ⟨a2, b2⟩ := List.getElem?_eq_some_iff.mp hn
      rcases Nat.lt_trichotomy k n with l | l | l
      · exact absurd (b1.trans b2.symm) (List.pairwise_iff_getElem.mp hr.nd k n a1 a2 l)
      · exact l
      · exact absurd (b2.trans b1.symm) (List.pairwise_iff_getElem.mp hr.nd n k a2 a1 l))
    refine ⟨b, h1, h2.fw hr fw' ?_⟩
    rcases hr.kind (List.mem_of_getElem? h1) with ⟨_, z⟩ | ⟨_, z⟩ | ⟨_, _, _, z⟩ <;> (rw [z]; exact fw.keep _ _ z fun y => nb (List.mem_singleton.mp y))
section
variable {P : Program} {w : World} {K : PySem.W.Frag} {mg : Str → Option Value} {base : Heap} {CX : CXT} {cl : Nat → Addr} {k n : Nat} {f : Addr} {fd : FuncData} {ps : List Str} {mf mg' : List A → AH → Res A}
theorem fd_pure1 (F : FnOk P w K mg base CX k f fd ps (spOf ⟨K, cl⟩ 1 mf)) : FnOk P w K mg base CX k f fd ps (spOf ⟨K, cl⟩ 1 (pure1 mf)) := F.imp fun vs H Q E ⟨m, h, as, hr, ra, hl, p⟩ => by
  rcases as with _ | ⟨x, _ | ⟨y, r⟩⟩
  · cases hl
  · obtain ⟨v, rfl, rx⟩ := ra.one
    cases rx with
    | @loc n a hn =>
      obtain ⟨xs, e1, p⟩ := withO_p p
      obtain ⟨z, p⟩ := ifB_p p
      obtain ⟨vs, h1, h2⟩ := hr.lstA hn (lstAt_of e1)
      refine ⟨[a], [.lst xs], [.loc 0], ⟨rfl, by simp, fun j o q => ?_⟩, .cons (.loc rfl) .nil, rfl, ?_⟩
      · cases j with
        | zero =>
          cases q
          exact ⟨a, rfl, vs, h1, lfs_any xs vs z h2⟩
        | succ j => cases q
      · generalize mf [.loc 0] [.lst xs] = r at p ⊢
        cases r with
        | ok b h0 =>
          obtain ⟨ys, e2, p⟩ := withO_p p
          obtain ⟨z2, p⟩ := ifB_p p
          obtain ⟨z3, z4⟩ := Bool.and_eq_true_iff.mp z2
          exact fun m0 v H' fw hr0 rb => by
            obtain ⟨f1, h3⟩ := glue1 hr hn fw hr0 e2 z4
            exact p m v H' f1 h3 (lf_any b v z3 rb)
        | exc c fs h0 =>
          obtain ⟨ys, e2, p⟩ := withO_p p
          obtain ⟨z2, p⟩ := ifB_p p
          obtain ⟨z3, z4⟩ := Bool.and_eq_true_iff.mp z2
          exact fun m0 d H' fw hr0 x => by
            obtain ⟨f1, h3⟩ := glue1 hr hn fw hr0 e2 z4
            exact p m d H' f1 h3 (xd_any z3 x)
        | bad => exact p.elim
    | _ => exact p.elim
  · cases hl
/-- nothing is handed in that may change: by itself in an empty heap -/
def back0 (h : AH) : Res A → Res A
  | .ok a _ => ifB (lf a) (.ok a h)
  | .exc c fs _ => ifB (lfx fs) (.exc c fs h)
  | .bad => .bad
def pure0 (mf : List A → AH → Res A) : List A → AH → Res A := fun as h => ifB (lfs as) (back0 h (mf as []))
theorem glue0 {K : Gx} {m m0 : List Addr} {h h0 : AH} {H H' : Hp} (hr : HR K m h H) (fw : Fw [] H m0 H') (hr0 : HR K m0 h0 H') : Fw m H m H' ∧ HR K m h H' := by
  have fw' : Fw m H m H' := ⟨⟨[], (List.append_nil m).symm⟩, fun b o hb nb => fw.keep b o hb fun z => (by cases z), fun _ h n => absurd h n⟩
  refine ⟨fw', hr.len, hr.nd, fun k u q => ?_⟩
  obtain ⟨b, h1, h2⟩ := hr.ob k u q
  refine ⟨b, h1, h2.fw hr fw' ?_⟩
  rcases hr.kind (List.mem_of_getElem? h1) with ⟨_, z⟩ | ⟨_, z⟩ | ⟨_, _, _, z⟩ <;> (rw [z]; exact fw.keep _ _ z fun y => by cases y)
theorem hr_nil {K : Gx} {H : Hp} : HR K [] [] H := ⟨rfl, .nil, fun j o q => by cases q⟩
theorem fd_pure0 (F : FnOk P w K mg base CX k f fd ps (spOf ⟨K, cl⟩ n mf)) : FnOk P w K mg base CX k f fd ps (spOf ⟨K, cl⟩ n (pure0 mf)) := F.imp fun vs H Q E ⟨m, h, as, hr, ra, hl, p⟩ => by
  obtain ⟨z, p⟩ := ifB_p p
  refine ⟨[], [], as, hr_nil, lfs_any as vs z ra, hl, ?_⟩
  generalize mf as [] = r at p ⊢
  cases r with
  | ok b h0 =>
    obtain ⟨z2, p⟩ := ifB_p p
    exact fun m0 v H' fw hr0 rb => by
      obtain ⟨f1, h3⟩ := glue0 hr fw hr0
      exact p m v H' f1 h3 (lf_any b v z2 rb)
  | exc c fs h0 =>
    obtain ⟨z2, p⟩ := ifB_p p
    exact fun m0 d H' fw hr0 x => by
      obtain ⟨f1, h3⟩ := glue0 hr fw hr0
      exact p m d H' f1 h3 (xd_any z2 x)
  | bad => exact p.elim
end
/-! ### the new things go along -/
mutual
def sh (k : Nat) : A → A
  | .tup xs => .tup (shs k xs)
  | .loc n => .loc (k + n)
  | .non => .non
  | .bl b => .bl b
  | .int i => .int i
  | .str x => .str x
  | .cls c => .cls c
  | .ty n => .ty n
  | .fz n => .fz n
def shs (k : Nat) : List A → List A
  | [] => []
  | x :: xs => sh k x :: shs k xs
end
def shf {κ : Type} (k : Nat) : List (κ × A) → List (κ × A)
  | [] => []
  | (f, x) :: r => (f, sh k x) :: shf k r
def shO (k : Nat) : AO → AO
  | .lst xs => .lst (shs k xs)
  | .dK kvs => .dK (shf k kvs)
  | .ins C fs => .ins C (shf k fs)
def shx (k : Nat) : Option (List (Str × A)) → Option (List (Str × A))
  | none => none
  | some fs => some (shf k fs)
def backN (h : AH) : Res A → Res A
  | .ok a h0 => .ok (sh h.length a) (h ++ h0.map (shO h.length))
  | .exc c fs h0 => .exc c (shx h.length fs) (h ++ h0.map (shO h.length))
  | .bad => .bad
/-- nothing is handed in that may change: what it makes is put behind -/
def frm (mf : List A → AH → Res A) : List A → AH → Res A := fun as h => ifB (lfs as) (backN h (mf as []))
mutual
theorem sh_rel {K : Gx} {m m0 : List Addr} {H : Hp} : ∀ (x : A) (v : V), Rl K m0 H x v → Rl K (m ++ m0) H (sh m.length x) v
  | .non, _, r => by cases r; exact .non
  | .bl b, _, r => by cases r; exact .bl b
  | .int i, _, r => by cases r; exact .int i
  | .str x, _, r => by cases r; exact .str x
  | .tup xs, _, r => by
    cases r with
    | tup s a => exact .tup s (shs_rel xs _ a)
  | .loc n, _, r => by
    cases r with
    | loc e =>
      refine .loc ?_
      rw [List.getElem?_append_right (Nat.le_add_right _ _), Nat.add_sub_cancel_left]
      exact e
  | .cls c, _, r => by cases r; exact .cls c
  | .ty n, _, r => by cases r; exact .ty n
  | .fz n, _, r => by
    cases r with
    | fz s => exact .fz s
theorem shs_rel {K : Gx} {m m0 : List Addr} {H : Hp} : ∀ (xs : List A) (vs : List V), Ra K m0 H xs vs → Ra K (m ++ m0) H (shs m.length xs) vs
  | [], _, r => by cases r; exact .nil
  | x :: xs, _, r => by
    cases r with
    | cons a b => exact .cons (sh_rel x _ a) (shs_rel xs _ b)
end
theorem shf_rel {κ : Type} {K : Gx} {m m0 : List Addr} {H : Hp} : ∀ {fs : List (κ × A)} {ws : List (κ × V)}, Rf K m0 H fs ws → Rf K (m ++ m0) H (shf m.length fs) ws
  | _, _, .nil => .nil
  | (k, x) :: r, _, .cons a b => .cons ⟨a.1, sh_rel x _ a.2⟩ (shf_rel b)
theorem shO_rel {K : Gx} {m m0 : List Addr} {H : Hp} {o : AO} {a : Addr} (r : OR K m0 H o a) : OR K (m ++ m0) H (shO m.length o) a := by
  cases o with
  | lst xs =>
    obtain ⟨vs, h1, h2⟩ := r
    exact ⟨vs, h1, shs_rel xs vs h2⟩
  | dK kvs =>
    obtain ⟨vs, h1, h2⟩ := r
    exact ⟨vs, h1, shf_rel h2⟩
  | ins C fs =>
    obtain ⟨dx, vs, h1, h2⟩ := r
    exact ⟨dx, vs, h1, shf_rel h2⟩
theorem glueN {K : Gx} {m m0 : List Addr} {h h0 : AH} {H H' : Hp} (hr : HR K m h H) (fw : Fw [] H m0 H') (hr0 : HR K m0 h0 H') : Fw m H (m ++ m0) H' ∧ HR K (m ++ m0) (h ++ h0.map (shO h.length)) H' := by
  have new : ∀ b, b ∈ m0 → H b = none := fun b hb => fw.new b hb fun z => by cases z
  have fw' : Fw m H (m ++ m0) H' := ⟨⟨m0, rfl⟩, fun b o hb nb => fw.keep b o hb fun z => (by cases z), fun b hb nb => (List.mem_append.mp hb).elim (fun z => absurd z nb) (new b)⟩
  refine ⟨fw', by rw [List.length_append, List.length_append, List.length_map, hr.len, hr0.len], ?_, fun k u q => ?_⟩
  · rw [List.nodup_append]
    refine ⟨hr.nd, hr0.nd, fun a ha b hb e => ?_⟩
    subst e
    exact hr.out (new a hb) ha
  · by_cases hk : k < h.length
    · rw [List.getElem?_append_left hk] at q
      obtain ⟨b, h1, h2⟩ := hr.ob k u q
      refine ⟨b, fw'.at h1, h2.fw hr fw' ?_⟩
      rcases hr.kind (List.mem_of_getElem? h1) with ⟨_, z⟩ | ⟨_, z⟩ | ⟨_, _, _, z⟩ <;> (rw [z]; exact fw.keep _ _ z fun y => by cases y)
    · rw [List.getElem?_append_right (by omega), List.getElem?_map] at q
      obtain ⟨o, e1, e2⟩ := Option.map_eq_some_iff.mp q
      subst e2
      obtain ⟨b, h1, h2⟩ := hr0.ob _ o e1
      refine ⟨b, ?_, ?_⟩
      · rw [List.getElem?_append_right (by rw [hr.len]; omega), hr.len]
        exact h1
      · rw [← hr.len]
        exact shO_rel h2
theorem shx_rel {K : Gx} {m m0 : List Addr} {H : Hp} {fs : Option (List (Str × A))} {d : Option Addr} (x : XD K m0 H fs d) : XD K (m ++ m0) H (shx m.length fs) d := by
  cases fs with
  | none => exact x
  | some fs =>
    obtain ⟨a, ws, h1, h2, h3⟩ := x
    exact ⟨a, ws, h1, h2, shf_rel h3⟩
section
variable {P : Program} {w : World} {K : PySem.W.Frag} {mg : Str → Option Value} {base : Heap} {CX : CXT} {cl : Nat → Addr} {k n : Nat} {f : Addr} {fd : FuncData} {ps : List Str} {mf mg' : List A → AH → Res A}
theorem fd_frm (F : FnOk P w K mg base CX k f fd ps (spOf ⟨K, cl⟩ n mf)) : FnOk P w K mg base CX k f fd ps (spOf ⟨K, cl⟩ n (frm mf)) := F.imp fun vs H Q E ⟨m, h, as, hr, ra, hl, p⟩ => by
  obtain ⟨z, p⟩ := ifB_p p
  refine ⟨[], [], as, hr_nil, lfs_any as vs z ra, hl, ?_⟩
  generalize mf as [] = r at p ⊢
  cases r with
  | ok b h0 =>
    exact fun m0 v H' fw hr0 rb => by
      obtain ⟨f1, h3⟩ := glueN hr fw hr0
      have r2 := sh_rel (m := m) b v rb
      rw [hr.len] at r2
      exact p (m ++ m0) v H' f1 h3 r2
  | exc c fs h0 =>
    exact fun m0 d H' fw hr0 x => by
      obtain ⟨f1, h3⟩ := glueN hr fw hr0
      have r2 := shx_rel (m := m) x
      rw [hr.len] at r2
      exact p (m ++ m0) d H' f1 h3 r2
  | bad => exact p.elim
/-- another function that tells less -/
theorem fd_sub (F : FnOk P w K mg base CX k f fd ps (spOf ⟨K, cl⟩ n mf)) (s : ∀ as h, as.length = n → mg' as h = .bad ∨ mg' as h = mf as h) : FnOk P w K mg base CX k f fd ps (spOf ⟨K, cl⟩ n mg') := F.imp fun vs H Q E ⟨m, h, as, hr, ra, hl, p⟩ => by
  rcases s as h hl with e | e
  · rw [e] at p
    exact p.elim
  · rw [e] at p
    exact ⟨m, h, as, hr, ra, hl, p⟩
end
end SA
set_option Elab.async false
set_option linter.all false
set_option maxRecDepth 100000
set_option maxHeartbeats 4000000
/-! SL: how functions over trees are reckoned. -/
namespace SA
open PySem PySem.Spec PyProof.Rows L2
@[simp] theorem bind_ok {α β : Type} {a : α} {h : AH} {k : α → AH → Res β} : (Res.ok a h).bind k = k a h := rfl
@[simp] theorem bindS_ok {α : Type} {a : α} {h : AH} {ρ : AS} {k : α → AH → Fl} : bindS (Res.ok a h) ρ k = k a h := rfl
@[simp] theorem ifB_t {r : Res A} : ifB true r = r := rfl
@[simp] theorem withO_s {α : Type} {a : α} {k : α → Res A} : withO (some a) k = k a := rfl
theorem ifB_pos {b : Bool} {r : Res A} (h : b = true) : ifB b r = r := by rw [h]; rfl
theorem fAdd_int {i j : Int} {h : AH} : fAdd (.int i) (.int j) h = .ok (.int (i + j)) h := rfl
theorem fSub_int {i j : Int} {h : AH} : fSub (.int i) (.int j) h = .ok (.int (i - j)) h := rfl
theorem fLt_int {i j : Int} {h : AH} : fLt (.int i) (.int j) h = .ok (.bl (decide (i < j))) h := rfl
theorem fLe_int {i j : Int} {h : AH} : fLe (.int i) (.int j) h = .ok (.bl (decide (i ≤ j))) h := rfl
theorem fGt_int {i j : Int} {h : AH} : fGt (.int i) (.int j) h = .ok (.bl (decide (j < i))) h := rfl
theorem fGe_int {i j : Int} {h : AH} : fGe (.int i) (.int j) h = .ok (.bl (decide (j ≤ i))) h := rfl
theorem fAdd_str {a b : Str} {h : AH} (z : a.length + b.length ≤ 100000) : fAdd (.str a) (.str b) h = .ok (.str (a ++ b)) h := ifB_pos (decide_eq_true z)
theorem aSeq_nx {s t : AC} {ρ ρ' : AS} {h h' : AH} (e : s ρ h = .nx ρ' h') : aSeq s t ρ h = t ρ' h' := by
  unfold aSeq
  rw [e]
theorem aSeq_rt {s t : AC} {ρ : AS} {h h' : AH} {a : A} (e : s ρ h = .rt a h') : aSeq s t ρ h = .rt a h' := by
  unfold aSeq
  rw [e]
theorem ok_bin {f : A → A → AH → Res A} {a b : AE} {ρ : AS} {h h1 h2 : AH} {x y : A} (ha : a ρ h = .ok x h1) (hb : b ρ h1 = .ok y h2) : aBin f a b ρ h = f x y h2 := by
  unfold aBin
  rw [ha, bind_ok, hb, bind_ok]
theorem ok_cons {e : AE} {r : AL} {ρ : AS} {h h1 h2 : AH} {x : A} {xs : List A} (he : e ρ h = .ok x h1) (hr : r ρ h1 = .ok xs h2) : aCons e r ρ h = .ok (x :: xs) h2 := by
  unfold aCons
  rw [he, bind_ok, hr, bind_ok]
theorem ok_nil {ρ : AS} {h : AH} : aNil ρ h = .ok [] h := rfl
theorem ok_c {a : A} {ρ : AS} {h : AH} : aC a ρ h = .ok a h := rfl
theorem ok_callF {n : Nat} {mf : List A → AH → Res A} {r : AL} {ρ : AS} {h h1 : AH} {xs : List A} (hr : r ρ h = .ok xs h1) (hl : xs.length = n) : aCallF n mf r ρ h = mf xs h1 := by
  unfold aCallF
  rw [hr, bind_ok, ifB_pos (beq_iff_eq.mpr hl)]
theorem ok_call {f : List A → AH → Res A} {r : AL} {ρ : AS} {h h1 : AH} {xs : List A} (hr : r ρ h = .ok xs h1) : aCall f r ρ h = f xs h1 := by
  unfold aCall
  rw [hr, bind_ok]
theorem ok_tup {r : AL} {ρ : AS} {h h1 : AH} {xs : List A} (hr : r ρ h = .ok xs h1) (hl : xs.length ≤ 100000) : aTup r ρ h = .ok (.tup xs) h1 := by
  unfold aTup
  rw [hr, bind_ok, if_pos hl]
theorem ok_lst {r : AL} {ρ : AS} {h h1 : AH} {xs : List A} (hr : r ρ h = .ok xs h1) (hl : xs.length ≤ 100000) : aLst r ρ h = .ok (.loc h1.length) (h1 ++ [.lst xs]) := by
  unfold aLst
  rw [hr, bind_ok, if_pos hl]
theorem ok_test {e : AE} {ρ : AS} {h h1 : AH} {b : Bool} (he : e ρ h = .ok (.bl b) h1) : aTest e ρ h = .ok b h1 := by
  unfold aTest
  rw [he, bind_ok]
theorem nx_set {i : Nat} {e : AE} {ρ : AS} {h h1 : AH} {a : A} (he : e ρ h = .ok a h1) : aSet i e ρ h = .nx (ρ.set i (some a)) h1 := by
  unfold aSet
  rw [he, bindS_ok]
theorem rt_ret {e : AE} {ρ : AS} {h h1 : AH} {a : A} (he : e ρ h = .ok a h1) : aRet e ρ h = .rt a h1 := by
  unfold aRet
  rw [he, bindS_ok]
theorem nx_expr {e : AE} {ρ : AS} {h h1 : AH} {a : A} (he : e ρ h = .ok a h1) : aExpr e ρ h = .nx ρ h1 := by
  unfold aExpr
  rw [he, bindS_ok]
theorem if_t' {t : AT} {s u : AC} {ρ : AS} {h h1 : AH} (ht : t ρ h = .ok true h1) : aIfS t s u ρ h = s ρ h1 := by
  unfold aIfS
  rw [ht, bindS_ok]
theorem if_f' {t : AT} {s u : AC} {ρ : AS} {h h1 : AH} (ht : t ρ h = .ok false h1) : aIfS t s u ρ h = u ρ h1 := by
  unfold aIfS
  rw [ht, bindS_ok]
theorem nx_asg {g : AG} {e : AE} {ρ ρ' : AS} {h h1 : AH} {a : A} (he : e ρ h = .ok a h1) (hg : g a ρ h1 = some ρ') : aAsg g e ρ h = .nx ρ' h1 := by
  unfold aAsg
  rw [he, bindS_ok, hg]
theorem nx_setL {o i e : AE} {ρ : AS} {h h1 h2 h3 : AH} {v : A} {n j : Nat} {k : Int} {xs : List A} (he : e ρ h = .ok v h1) (ho : o ρ h1 = .ok (.loc n) h2) (hi : i ρ h2 = .ok (.int k) h3) (hl : lstAt h3 n = some xs) (hj : ixN xs.length k = some j) : aSetL o i e ρ h = .nx ρ (h3.set n (.lst (xs.set j v))) := by
  unfold aSetL
  rw [he, bindS_ok, ho, bindS_ok, hi, bindS_ok]
  simp only [hl, hj]
theorem ok_or_f {t u : AT} {ρ : AS} {h h1 : AH} (ht : t ρ h = .ok false h1) : aOr t u ρ h = u ρ h1 := by
  unfold aOr
  rw [ht, bind_ok]
theorem def_rt {n : Nat} {ev : AC} {as : List A} {h h' : AH} {a : A} (e : ev (startA n as) h = .rt a h') : defA n ev as h = .ok a h' := by
  unfold defA
  rw [e]
  rfl
theorem def_nx {n : Nat} {ev : AC} {as : List A} {ρ : AS} {h h' : AH} (e : ev (startA n as) h = .nx ρ h') : defA n ev as h = .ok .non h' := by
  unfold defA
  rw [e]
  rfl
/-- it goes on with what is so of the slots and the heap -/
def Ends (s : AC) (ρ : AS) (h : AH) (G : AS → AH → Prop) : Prop := ∃ ρ' h', s ρ h = .nx ρ' h' ∧ G ρ' h'
theorem ends_seq {s t : AC} {ρ ρ1 : AS} {h h1 : AH} {G : AS → AH → Prop} (e : s ρ h = .nx ρ1 h1) (k : Ends t ρ1 h1 G) : Ends (aSeq s t) ρ h G := by
  obtain ⟨ρ', h', e2, g⟩ := k
  exact ⟨ρ', h', (aSeq_nx e).trans e2, g⟩
theorem ends_of {s : AC} {ρ ρ1 : AS} {h h1 : AH} {G : AS → AH → Prop} (e : s ρ h = .nx ρ1 h1) (g : G ρ1 h1) : Ends s ρ h G := ⟨ρ1, h1, e, g⟩
theorem ends_seqE {s t : AC} {ρ : AS} {h : AH} {F G : AS → AH → Prop} (e : Ends s ρ h F) (k : ∀ ρ1 h1, F ρ1 h1 → Ends t ρ1 h1 G) : Ends (aSeq s t) ρ h G := by
  obtain ⟨ρ1, h1, e1, f⟩ := e
  exact ends_seq e1 (k ρ1 h1 f)
/-! ### heaps that keep what was there, but for one place -/
structure Keep (p : Nat) (h h' : AH) : Prop where
  len : h.length ≤ h'.length
  at_ : ∀ i, i < h.length → i ≠ p → h'[i]? = h[i]?
theorem Keep.refl (p : Nat) (h : AH) : Keep p h h := ⟨Nat.le_refl _, fun _ _ _ => rfl⟩
theorem Keep.trans {p : Nat} {h h1 h2 : AH} (a : Keep p h h1) (b : Keep p h1 h2) : Keep p h h2 := ⟨Nat.le_trans a.len b.len, fun i hi n => (b.at_ i (Nat.lt_of_lt_of_le hi a.len) n).trans (a.at_ i hi n)⟩
theorem Keep.app (p : Nat) (h g : AH) : Keep p h (h ++ g) := ⟨by rw [List.length_append]; omega, fun i hi _ => List.getElem?_append_left hi⟩
theorem Keep.set {p : Nat} {h : AH} {o : AO} : Keep p h (h.set p o) := ⟨by rw [List.length_set]; exact Nat.le_refl _, fun i _ n => List.getElem?_set_ne (Ne.symm n)⟩
/-- a new object is changed: nothing that was there -/
theorem Keep.set2 {p q : Nat} {h h1 : AH} {o : AO} (a : Keep p h h1) (hq : h.length ≤ q) : Keep p h (h1.set q o) := ⟨by rw [List.length_set]; exact a.len, fun i hi n => by rw [List.getElem?_set_ne (by omega)]; exact a.at_ i hi n⟩
theorem lstAt_eq {h h' : AH} {i : Nat} (e : h'[i]? = h[i]?) : lstAt h' i = lstAt h i := by unfold lstAt; rw [e]
theorem rdAt_eq {h h' : AH} {i : Nat} (e : h'[i]? = h[i]?) : rdAt h' i = rdAt h i := by unfold rdAt; rw [e]
theorem lstAt_lt {h : AH} {n : Nat} {xs : List A} (e : lstAt h n = some xs) : n < h.length := (List.getElem?_eq_some_iff.mp (lstAt_of e)).1
theorem lstAt_set {h : AH} {n : Nat} {xs : List A} (hn : n < h.length) : lstAt (h.set n (.lst xs)) n = some xs := by
  unfold lstAt
  rw [List.getElem?_set_self hn]
theorem lstAt_new {h : AH} {xs : List A} : lstAt (h ++ [.lst xs]) h.length = some xs := by
  unfold lstAt
  rw [List.getElem?_append_right (Nat.le_refl _), Nat.sub_self]
  rfl
theorem lstAt_app {h g : AH} {n : Nat} (hn : n < h.length) : lstAt (h ++ g) n = lstAt h n := lstAt_eq (List.getElem?_append_left hn)
theorem lstAt_get {h : AH} {n : Nat} {xs : List A} (e : h[n]? = some (.lst xs)) : lstAt h n = some xs := by
  unfold lstAt
  rw [e]
theorem set_same {h : AH} {n : Nat} {xs : List A} (e : lstAt h n = some xs) : h.set n (.lst xs) = h := by
  apply List.ext_getElem?
  intro i
  by_cases hi : n = i
  · subst hi
    rw [List.getElem?_set_self (lstAt_lt e), lstAt_of e]
  · rw [List.getElem?_set_ne hi]
/-! ### loops -/
theorem forF_rng {lo : Int} {n : Nat} {g : AG} {b : AC} (Inv : Nat → AS → AH → Prop) (step : ∀ i ρ h, i < n → Inv i ρ h → ∃ ρ1 ρ' h', g (.int (lo + (i : Int))) ρ h = some ρ1 ∧ b ρ1 h = .nx ρ' h' ∧ Inv (i + 1) ρ' h') :
    ∀ (k i : Nat) (ρ : AS) (h : AH), n - i < k → i ≤ n → Inv i ρ h → ∃ ρ' h', aForF (itRng lo n) g b k i ρ h = .nx ρ' h' ∧ Inv n ρ' h'
  | 0, i, ρ, h, hk, _, _ => absurd hk (Nat.not_lt_zero _)
  | k + 1, i, ρ, h, hk, hi, q => by
    unfold aForF itRng
    by_cases z : i < n
    · obtain ⟨ρ1, ρ', h', e1, e2, e3⟩ := step i ρ h z q
      obtain ⟨ρ2, h2, e4, e5⟩ := forF_rng Inv step k (i + 1) ρ' h' (by omega) z e3
      refine ⟨ρ2, h2, ?_, e5⟩
      rw [decide_eq_true z]
      simp only [e1, e2]
      exact e4
    · have : i = n := by omega
      subst this
      refine ⟨ρ, h, ?_, q⟩
      rw [decide_eq_false z]
/-! ### equality of things without places -/
mutual
theorem toDW_lf {f g : Nat → Option PyData} : ∀ x : A, lf x = true → toDW f x = toDW g x
  | .non, _ => rfl
  | .bl _, _ => rfl
  | .int _, _ => rfl
  | .str _, _ => rfl
  | .tup xs, e => by
    show (toDWs f xs).map PyData.tuple = (toDWs g xs).map PyData.tuple
    rw [toDWs_lf xs e]
  | .loc _, e => by cases e
  | .cls _, _ => rfl
  | .ty _, _ => rfl
  | .fz _, _ => rfl
theorem toDWs_lf {f g : Nat → Option PyData} : ∀ xs : List A, lfs xs = true → toDWs f xs = toDWs g xs
  | [], _ => rfl
  | x :: xs, e => by
    have e : (lf x && lfs xs) = true := e
    obtain ⟨e1, e2⟩ := Bool.and_eq_true_iff.mp e
    show ((toDW f x).bind fun d => (toDWs f xs).map (d :: ·)) = ((toDW g x).bind fun d => (toDWs g xs).map (d :: ·))
    rw [toDW_lf x e1, toDWs_lf xs e2]
end
theorem toD_lf {h h' : AH} {x : A} (e : lf x = true) : toD 8 h x = toD 8 h' x := toDW_lf x e
/-- what == tells of two things, in an empty heap -/
def eqL (neg : Bool) (x y : A) : Option Bool := match eqA neg x y [] with
  | .ok (.bl b) _ => some b
  | _ => none
theorem eqA_lf {neg b : Bool} {x y : A} {h : AH} (hx : lf x = true) (hy : lf y = true) (e : eqL neg x y = some b) : eqA neg x y h = .ok (.bl b) h := by
  have deep : ∀ x y : A, lf x = true → lf y = true → (match (withO (toD 8 [] x) fun d => withO (toD 8 [] y) fun e => ifB (SeqAt.shaped d && SeqAt.shaped e) (.ok (.bl (if neg then !PyData.eqv d e else PyData.eqv d e)) [])) with | .ok (.bl b) _ => some b | _ => none) = some b →
      (withO (toD 8 h x) fun d => withO (toD 8 h y) fun e => ifB (SeqAt.shaped d && SeqAt.shaped e) (.ok (.bl (if neg then !PyData.eqv d e else PyData.eqv d e)) h)) = .ok (.bl b) h := by
    intro x y hx hy e
    rw [toD_lf (h := h) (h' := []) hx, toD_lf (h := h) (h' := []) hy]
    cases q1 : toD 8 [] x with
    | none =>
      rw [q1] at e
      cases e
    | some d1 =>
      cases q2 : toD 8 [] y with
      | none =>
        rw [q1, q2] at e
        cases e
      | some d2 =>
        rw [q1, q2] at e
        simp only [withO_s] at e ⊢
        cases q3 : (SeqAt.shaped d1 && SeqAt.shaped d2) with
        | false =>
          rw [q3] at e
          cases e
        | true =>
          rw [q3] at e
          simp only [ifB_t] at e ⊢
          cases e
          rfl
  unfold eqL at e
  cases x with
  | int i => cases y <;> first | (cases e; rfl) | exact deep _ _ hx hy e
  | str i => cases y <;> first | (cases e; rfl) | exact deep _ _ hx hy e
  | bl i => cases y <;> first | (cases e; rfl) | exact deep _ _ hx hy e
  | loc n => cases hx
  | _ => exact deep _ _ hx hy e
/-! ### products -/
theorem mul_ok {i j : Int} {n m : Nat} {h : AH} (hi : i.natAbs < 2 ^ n) (hj : j.natAbs < 2 ^ m) (h0 : 0 < n) (h1 : 0 < m) (h2 : n + m ≤ 1000000) : fMul (.int i) (.int j) h = .ok (.int (i * j)) h := by
  have z : i.natAbs.log2 + j.natAbs.log2 < 1000000 := wide_mul hi hj h0 h1 h2
  show ifB (decide (i.natAbs.log2 + j.natAbs.log2 < 1000000)) _ = _
  rw [decide_eq_true z]
  rfl
theorem mod_ok {i j : Int} {h : AH} (hj : 0 < j) : fMod (.int i) (.int j) h = .ok (.int (i % j)) h := by
  show ifB (decide (0 < j)) _ = _
  rw [decide_eq_true hj]
  rfl
theorem div_ok {i j : Int} {m : Nat} {h : AH} (hj : 0 < j) (hb : j.natAbs < 2 ^ m) (h0 : 0 < m) (h9 : m ≤ 9000) : fDiv (.int i) (.int j) h = .ok (.int (i / j)) h := by
  have z : CDivW i j := wide_div hj hb h0 h9
  show ifB (decide (0 < j) && decide (j.natAbs.log2 < 9000)) _ = _
  rw [decide_eq_true hj, decide_eq_true z.2]
  rfl
theorem ix_lst {h : AH} {n : Nat} {xs : List A} {i : Int} {a : A} (e : lstAt h n = some xs) (q : atI xs i = some a) : fIx (.loc n) (.int i) h = .ok a h := by
  show ixObj (.int i) h[n]? h = _
  rw [lstAt_of e]
  show withO (atI xs i) (fun a => Res.ok a h) = _
  rw [q]
  rfl
end SA
set_option Elab.async false
set_option linter.all false
set_option maxRecDepth 100000
set_option maxHeartbeats 8000000
namespace K06
open PySem PySem.Spec PyProof.Rows L2 SA
def top (i : Nat) : Stmt := PySem.Challenge.pw_deepstands_k06_guards_and_terms_by_hand.main.body.getD i (.Pass ⟨0, 0, 0, 0⟩)
structure Ads where
  C_Line : Addr
  C_Reading : Addr
  C_NoText : Addr
  f_NoText : Addr
  fd_NoText : FuncData
  a_run_end : Addr
  fd_run_end : FuncData
  a_word_end : Addr
  fd_word_end : FuncData
  a_words_of : Addr
  fd_words_of : FuncData
  a_Line___init__ : Addr
  fd_Line___init__ : FuncData
  a_Line_refuse : Addr
  fd_Line_refuse : FuncData
  a_Line_is_next : Addr
  fd_Line_is_next : FuncData
  a_Line_is_sort : Addr
  fd_Line_is_sort : FuncData
  a_Line_taken : Addr
  fd_Line_taken : FuncData
  a_Line_want : Addr
  fd_Line_want : FuncData
  a_Line_a_name : Addr
  fd_Line_a_name : FuncData
  a_Line_whole : Addr
  fd_Line_whole : FuncData
  a_Line_signed : Addr
  fd_Line_signed : FuncData
  a_Line_ends : Addr
  fd_Line_ends : FuncData
  a_Line_term : Addr
  fd_Line_term : FuncData
  a_Line_sums : Addr
  fd_Line_sums : FuncData
  a_Line_piece : Addr
  fd_Line_piece : FuncData
  a_Line_guard : Addr
  fd_Line_guard : FuncData
  a_Line_must : Addr
  fd_Line_must : FuncData
  a_Line_either : Addr
  fd_Line_either : FuncData
  a_Line_both : Addr
  fd_Line_both : FuncData
  a_Line_single : Addr
  fd_Line_single : FuncData
  a_Line_compared : Addr
  fd_Line_compared : FuncData
  a_Line_some_deeds : Addr
  fd_Line_some_deeds : FuncData
  a_Line_a_deed : Addr
  fd_Line_a_deed : FuncData
  a_Line_goals : Addr
  fd_Line_goals : FuncData
  a_Reading___init__ : Addr
  fd_Reading___init__ : FuncData
  a_Reading_here : Addr
  fd_Reading_here : FuncData
  a_Reading_next_blanks : Addr
  fd_Reading_next_blanks : FuncData
  a_Reading_finished : Addr
  fd_Reading_finished : FuncData
  a_Reading_flush : Addr
  fd_Reading_flush : FuncData
  a_Reading_a_chart : Addr
  fd_Reading_a_chart : FuncData
  a_Reading_a_stand : Addr
  fd_Reading_a_stand : FuncData
  a_Reading_is_below : Addr
  fd_Reading_is_below : FuncData
  a_Reading_deeds_of : Addr
  fd_Reading_deeds_of : FuncData
  a_Reading_a_move : Addr
  fd_Reading_a_move : FuncData
  a_read_chart : Addr
  fd_read_chart : FuncData
  a__law_mixed : Addr
  fd__law_mixed : FuncData
  a__law_purse : Addr
  fd__law_purse : FuncData
  a__law_take : Addr
  fd__law_take : FuncData
  a__law_at : Addr
  fd__law_at : FuncData
  a__law_pick : Addr
  fd__law_pick : FuncData
  a__law_good : Addr
  fd__law_good : FuncData
  a__law_bad : Addr
  fd__law_bad : FuncData
  a__law_row_of : Addr
  fd__law_row_of : FuncData
  a_law : Addr
  fd_law : FuncData
  t_SMALL : Tok
  t_FIGURES : Tok
  t_SIGNS : Tok
  w_WORDS : Addr
  t_MOST_SIGNS : Tok
  t_MOST_FIGURES : Tok
  w_NESTS : Addr
  w_MARKERS : Addr
  w_SORTS : Addr
def cl (A : Ads) : Nat → Addr
  | 0 => A.C_Line
  | 1 => A.C_Reading
  | 2 => A.C_NoText
  | _ => 0
abbrev s_run_end : Stmt := top 10
theorem sc_run_end : FnScope ["row", "at", "signs", "most", "end"] ["row", "at", "signs", "most"] (defScope s_run_end) := ⟨rfl, rfl, rfl, by decide +kernel, rfl, by decide +kernel, by decide +kernel⟩
abbrev s_word_end : Stmt := top 11
theorem sc_word_end : FnScope ["row", "at", "end"] ["row", "at"] (defScope s_word_end) := ⟨rfl, rfl, rfl, by decide +kernel, rfl, by decide +kernel, by decide +kernel⟩
abbrev s_words_of : Stmt := top 12
theorem sc_words_of : FnScope ["row", "found", "at", "parted", "sort", "end"] ["row"] (defScope s_words_of) := ⟨rfl, rfl, rfl, by decide +kernel, rfl, by decide +kernel, by decide +kernel⟩
abbrev s_Line___init__ : Stmt := inClass (top 13) 0
theorem sc_Line___init__ : FnScope ["self", "number", "row"] ["self", "number", "row"] (defScope s_Line___init__) := ⟨rfl, rfl, rfl, by decide +kernel, rfl, by decide +kernel, by decide +kernel⟩
abbrev s_Line_refuse : Stmt := inClass (top 13) 1
theorem sc_Line_refuse : FnScope ["self"] ["self"] (defScope s_Line_refuse) := ⟨rfl, rfl, rfl, by decide +kernel, rfl, by decide +kernel, by decide +kernel⟩
abbrev s_Line_is_next : Stmt := inClass (top 13) 2
theorem sc_Line_is_next : FnScope ["self", "words"] ["self", "words"] (defScope s_Line_is_next) := ⟨rfl, rfl, rfl, by decide +kernel, rfl, by decide +kernel, by decide +kernel⟩
abbrev s_Line_is_sort : Stmt := inClass (top 13) 3
theorem sc_Line_is_sort : FnScope ["self", "sort"] ["self", "sort"] (defScope s_Line_is_sort) := ⟨rfl, rfl, rfl, by decide +kernel, rfl, by decide +kernel, by decide +kernel⟩
abbrev s_Line_taken : Stmt := inClass (top 13) 4
theorem sc_Line_taken : FnScope ["self"] ["self"] (defScope s_Line_taken) := ⟨rfl, rfl, rfl, by decide +kernel, rfl, by decide +kernel, by decide +kernel⟩
abbrev s_Line_want : Stmt := inClass (top 13) 5
theorem sc_Line_want : FnScope ["self", "words"] ["self", "words"] (defScope s_Line_want) := ⟨rfl, rfl, rfl, by decide +kernel, rfl, by decide +kernel, by decide +kernel⟩
abbrev s_Line_a_name : Stmt := inClass (top 13) 6
theorem sc_Line_a_name : FnScope ["self"] ["self"] (defScope s_Line_a_name) := ⟨rfl, rfl, rfl, by decide +kernel, rfl, by decide +kernel, by decide +kernel⟩
abbrev s_Line_whole : Stmt := inClass (top 13) 7
theorem sc_Line_whole : FnScope ["self"] ["self"] (defScope s_Line_whole) := ⟨rfl, rfl, rfl, by decide +kernel, rfl, by decide +kernel, by decide +kernel⟩
abbrev s_Line_signed : Stmt := inClass (top 13) 8
theorem sc_Line_signed : FnScope ["self"] ["self"] (defScope s_Line_signed) := ⟨rfl, rfl, rfl, by decide +kernel, rfl, by decide +kernel, by decide +kernel⟩
abbrev s_Line_ends : Stmt := inClass (top 13) 9
theorem sc_Line_ends : FnScope ["self"] ["self"] (defScope s_Line_ends) := ⟨rfl, rfl, rfl, by decide +kernel, rfl, by decide +kernel, by decide +kernel⟩
abbrev s_Line_term : Stmt := inClass (top 13) 10
theorem sc_Line_term : FnScope ["self"] ["self"] (defScope s_Line_term) := ⟨rfl, rfl, rfl, by decide +kernel, rfl, by decide +kernel, by decide +kernel⟩
abbrev s_Line_sums : Stmt := inClass (top 13) 11
theorem sc_Line_sums : FnScope ["self", "found", "word"] ["self", "found"] (defScope s_Line_sums) := ⟨rfl, rfl, rfl, by decide +kernel, rfl, by decide +kernel, by decide +kernel⟩
abbrev s_Line_piece : Stmt := inClass (top 13) 12
theorem sc_Line_piece : FnScope ["self", "found"] ["self"] (defScope s_Line_piece) := ⟨rfl, rfl, rfl, by decide +kernel, rfl, by decide +kernel, by decide +kernel⟩
abbrev s_Line_guard : Stmt := inClass (top 13) 13
theorem sc_Line_guard : FnScope ["self"] ["self"] (defScope s_Line_guard) := ⟨rfl, rfl, rfl, by decide +kernel, rfl, by decide +kernel, by decide +kernel⟩
abbrev s_Line_must : Stmt := inClass (top 13) 14
theorem sc_Line_must : FnScope ["self", "pair", "is_guard", "found"] ["self", "pair"] (defScope s_Line_must) := ⟨rfl, rfl, rfl, by decide +kernel, rfl, by decide +kernel, by decide +kernel⟩
abbrev s_Line_either : Stmt := inClass (top 13) 15
theorem sc_Line_either : FnScope ["self", "pair"] ["self"] (defScope s_Line_either) := ⟨rfl, rfl, rfl, by decide +kernel, rfl, by decide +kernel, by decide +kernel⟩
abbrev s_Line_both : Stmt := inClass (top 13) 16
theorem sc_Line_both : FnScope ["self", "pair"] ["self"] (defScope s_Line_both) := ⟨rfl, rfl, rfl, by decide +kernel, rfl, by decide +kernel, by decide +kernel⟩
abbrev s_Line_single : Stmt := inClass (top 13) 17
theorem sc_Line_single : FnScope ["self", "pair", "found"] ["self"] (defScope s_Line_single) := ⟨rfl, rfl, rfl, by decide +kernel, rfl, by decide +kernel, by decide +kernel⟩
abbrev s_Line_compared : Stmt := inClass (top 13) 18
theorem sc_Line_compared : FnScope ["self", "found", "word"] ["self", "found"] (defScope s_Line_compared) := ⟨rfl, rfl, rfl, by decide +kernel, rfl, by decide +kernel, by decide +kernel⟩
abbrev s_Line_some_deeds : Stmt := inClass (top 13) 19
theorem sc_Line_some_deeds : FnScope ["self", "found"] ["self"] (defScope s_Line_some_deeds) := ⟨rfl, rfl, rfl, by decide +kernel, rfl, by decide +kernel, by decide +kernel⟩
abbrev s_Line_a_deed : Stmt := inClass (top 13) 20
theorem sc_Line_a_deed : FnScope ["self", "word", "name"] ["self"] (defScope s_Line_a_deed) := ⟨rfl, rfl, rfl, by decide +kernel, rfl, by decide +kernel, by decide +kernel⟩
abbrev s_Line_goals : Stmt := inClass (top 13) 21
theorem sc_Line_goals : FnScope ["self", "found"] ["self"] (defScope s_Line_goals) := ⟨rfl, rfl, rfl, by decide +kernel, rfl, by decide +kernel, by decide +kernel⟩
abbrev s_Reading___init__ : Stmt := inClass (top 18) 0
theorem sc_Reading___init__ : FnScope ["self", "rows", "number", "row"] ["self", "rows"] (defScope s_Reading___init__) := ⟨rfl, rfl, rfl, by decide +kernel, rfl, by decide +kernel, by decide +kernel⟩
abbrev s_Reading_here : Stmt := inClass (top 18) 1
theorem sc_Reading_here : FnScope ["self"] ["self"] (defScope s_Reading_here) := ⟨rfl, rfl, rfl, by decide +kernel, rfl, by decide +kernel, by decide +kernel⟩
abbrev s_Reading_next_blanks : Stmt := inClass (top 18) 2
theorem sc_Reading_next_blanks : FnScope ["self"] ["self"] (defScope s_Reading_next_blanks) := ⟨rfl, rfl, rfl, by decide +kernel, rfl, by decide +kernel, by decide +kernel⟩
abbrev s_Reading_finished : Stmt := inClass (top 18) 3
theorem sc_Reading_finished : FnScope ["self", "line"] ["self", "line"] (defScope s_Reading_finished) := ⟨rfl, rfl, rfl, by decide +kernel, rfl, by decide +kernel, by decide +kernel⟩
abbrev s_Reading_flush : Stmt := inClass (top 18) 4
theorem sc_Reading_flush : FnScope ["self", "line"] ["self"] (defScope s_Reading_flush) := ⟨rfl, rfl, rfl, by decide +kernel, rfl, by decide +kernel, by decide +kernel⟩
abbrev s_Reading_a_chart : Stmt := inClass (top 18) 5
theorem sc_Reading_a_chart : FnScope ["self", "facts", "line", "happenings", "root"] ["self"] (defScope s_Reading_a_chart) := ⟨rfl, rfl, rfl, by decide +kernel, rfl, by decide +kernel, by decide +kernel⟩
abbrev s_Reading_a_stand : Stmt := inClass (top 18) 6
theorem sc_Reading_a_stand : FnScope ["self", "blanks", "line", "sort", "name", "rows", "below", "into", "out", "moves", "stands"] ["self", "blanks"] (defScope s_Reading_a_stand) := ⟨rfl, rfl, rfl, by decide +kernel, rfl, by decide +kernel, by decide +kernel⟩
abbrev s_Reading_is_below : Stmt := inClass (top 18) 7
theorem sc_Reading_is_below : FnScope ["self", "blanks", "below", "found"] ["self", "blanks", "below"] (defScope s_Reading_is_below) := ⟨rfl, rfl, rfl, by decide +kernel, rfl, by decide +kernel, by decide +kernel⟩
abbrev s_Reading_deeds_of : Stmt := inClass (top 18) 8
theorem sc_Reading_deeds_of : FnScope ["self", "word", "blanks", "below", "line", "found"] ["self", "word", "blanks", "below"] (defScope s_Reading_deeds_of) := ⟨rfl, rfl, rfl, by decide +kernel, rfl, by decide +kernel, by decide +kernel⟩
abbrev s_Reading_a_move : Stmt := inClass (top 18) 9
theorem sc_Reading_a_move : FnScope ["self", "line", "word", "when", "guard", "deeds", "goals"] ["self"] (defScope s_Reading_a_move) := ⟨rfl, rfl, rfl, by decide +kernel, rfl, by decide +kernel, by decide +kernel⟩
abbrev s_read_chart : Stmt := top 19
theorem sc_read_chart : FnScope ["text"] ["text"] (defScope s_read_chart) := ⟨rfl, rfl, rfl, by decide +kernel, rfl, by decide +kernel, by decide +kernel⟩
abbrev s__law_mixed : Stmt := top 21
theorem sc__law_mixed : FnScope ["_law_cell", "_law_k", "_law_number"] ["_law_cell", "_law_k"] (defScope s__law_mixed) := ⟨rfl, rfl, rfl, by decide +kernel, rfl, by decide +kernel, by decide +kernel⟩
abbrev s__law_purse : Stmt := top 22
theorem sc__law_purse : FnScope ["_law_cell", "_law_k"] ["_law_cell", "_law_k"] (defScope s__law_purse) := ⟨rfl, rfl, rfl, by decide +kernel, rfl, by decide +kernel, by decide +kernel⟩
abbrev s__law_take : Stmt := top 23
theorem sc__law_take : FnScope ["_law_purse_here", "_law_far", "_law_got"] ["_law_purse_here", "_law_far"] (defScope s__law_take) := ⟨rfl, rfl, rfl, by decide +kernel, rfl, by decide +kernel, by decide +kernel⟩
abbrev s__law_at : Stmt := top 24
theorem sc__law_at : FnScope ["_law_script", "_law_k"] ["_law_script", "_law_k"] (defScope s__law_at) := ⟨rfl, rfl, rfl, by decide +kernel, rfl, by decide +kernel, by decide +kernel⟩
abbrev s__law_pick : Stmt := top 25
theorem sc__law_pick : FnScope ["_law_purse_here", "_law_some"] ["_law_purse_here", "_law_some"] (defScope s__law_pick) := ⟨rfl, rfl, rfl, by decide +kernel, rfl, by decide +kernel, by decide +kernel⟩
abbrev s__law_good : Stmt := top 26
theorem sc__law_good : FnScope ["_law_n", "_law_k", "_law_one", "_law_a", "_law_b", "_law_c", "_law_low", "_law_some"] [] (defScope s__law_good) := ⟨rfl, rfl, rfl, by decide +kernel, rfl, by decide +kernel, by decide +kernel⟩
abbrev s__law_bad : Stmt := top 27
theorem sc__law_bad : FnScope ["_law_some"] [] (defScope s__law_bad) := ⟨rfl, rfl, rfl, by decide +kernel, rfl, by decide +kernel, by decide +kernel⟩
abbrev s__law_row_of : Stmt := top 28
theorem sc__law_row_of : FnScope ["_law_line"] ["_law_line"] (defScope s__law_row_of) := ⟨rfl, rfl, rfl, by decide +kernel, rfl, by decide +kernel, by decide +kernel⟩
abbrev s_law : Stmt := top 29
theorem sc_law : FnScope ["_law_script", "_law_k", "_law_purse_here", "_law_turn", "_law_more", "_law_move", "_law_deeds", "_law_spot", "caught", "_law_line", "_law_due", "_law_column"] ["_law_script"] (defScope s_law) := ⟨rfl, rfl, rfl, by decide +kernel, rfl, by decide +kernel, by decide +kernel⟩
abbrev s_NoText : Stmt := inClass (top 2) 0
theorem sc_NoText : FnScope ["self", "row", "column"] ["self", "row", "column"] (defScope s_NoText) := ⟨rfl, rfl, rfl, by decide +kernel, rfl, by decide +kernel, by decide +kernel⟩
structure Txt (K : PySem.W.Frag) (mg : Str → Option Value) (A : Ads) : Prop where
  cl_Line : Cls K A.C_Line
  g_Line : mg "Line" = some (.ref A.C_Line)
  mk_Line : Mk K A.C_Line A.a_Line___init__
  cl_Reading : Cls K A.C_Reading
  g_Reading : mg "Reading" = some (.ref A.C_Reading)
  mk_Reading : Mk K A.C_Reading A.a_Reading___init__
  na_Line_number : NoAttr K A.C_Line "number"
  na_Line_blanks : NoAttr K A.C_Line "blanks"
  na_Line_left : NoAttr K A.C_Line "left"
  na_Reading_lines : NoAttr K A.C_Reading "lines"
  na_Reading_end : NoAttr K A.C_Reading "end"
  na_Reading_at : NoAttr K A.C_Reading "at"
  na_Reading_noted : NoAttr K A.C_Reading "noted"
  g_NoText : mg "NoText" = some (.ref A.C_NoText)
  te_NoText : PySem.W.exmOne K (.ref A.C_NoText) (.ref A.C_NoText) = some true
  xf_NoText : XfC K A.C_NoText
  ox_NoText : OexC K A.C_NoText
  it_NoText : PySem.W.findIn K (.ref A.C_NoText) "__init__" = some (some (.ref A.f_NoText))
  ty_NoText : PySem.W.typeIn K (.ref A.f_NoText) = some (.type "function")
  no_NoText_row : PySem.W.findIn K (.ref A.C_NoText) "row" = some none
  no_NoText_column : PySem.W.findIn K (.ref A.C_NoText) "column" = some none
  FD_NoText : ∃ dvs : List V, dvs.length = 2 ∧ FunD K "__init__" "NoText.__init__" (defArgs s_NoText) (defBody s_NoText) (defScope s_NoText) dvs [] A.f_NoText A.fd_NoText
  g_run_end : mg "run_end" = some (.ref A.a_run_end)
  F_run_end : Fun K "run_end" "run_end" s_run_end A.a_run_end A.fd_run_end
  b_run_end : Binds K A.fd_run_end ["row", "at", "signs", "most"] []
  g_word_end : mg "word_end" = some (.ref A.a_word_end)
  F_word_end : Fun K "word_end" "word_end" s_word_end A.a_word_end A.fd_word_end
  b_word_end : Binds K A.fd_word_end ["row", "at"] []
  g_words_of : mg "words_of" = some (.ref A.a_words_of)
  F_words_of : Fun K "words_of" "words_of" s_words_of A.a_words_of A.fd_words_of
  b_words_of : Binds K A.fd_words_of ["row"] []
  F_Line___init__ : Fun K "__init__" "Line.__init__" s_Line___init__ A.a_Line___init__ A.fd_Line___init__
  b_Line___init__ : Binds K A.fd_Line___init__ ["self", "number", "row"] []
  m_Line_refuse : Meth K A.C_Line "refuse" A.a_Line_refuse
  F_Line_refuse : Fun K "refuse" "Line.refuse" s_Line_refuse A.a_Line_refuse A.fd_Line_refuse
  b_Line_refuse : Binds K A.fd_Line_refuse ["self"] []
  m_Line_is_next : Meth K A.C_Line "is_next" A.a_Line_is_next
  F_Line_is_next : Fun K "is_next" "Line.is_next" s_Line_is_next A.a_Line_is_next A.fd_Line_is_next
  b_Line_is_next : Binds K A.fd_Line_is_next ["self", "words"] []
  m_Line_is_sort : Meth K A.C_Line "is_sort" A.a_Line_is_sort
  F_Line_is_sort : Fun K "is_sort" "Line.is_sort" s_Line_is_sort A.a_Line_is_sort A.fd_Line_is_sort
  b_Line_is_sort : Binds K A.fd_Line_is_sort ["self", "sort"] []
  m_Line_taken : Meth K A.C_Line "taken" A.a_Line_taken
  F_Line_taken : Fun K "taken" "Line.taken" s_Line_taken A.a_Line_taken A.fd_Line_taken
  b_Line_taken : Binds K A.fd_Line_taken ["self"] []
  m_Line_want : Meth K A.C_Line "want" A.a_Line_want
  F_Line_want : Fun K "want" "Line.want" s_Line_want A.a_Line_want A.fd_Line_want
  b_Line_want : Binds K A.fd_Line_want ["self", "words"] []
  m_Line_a_name : Meth K A.C_Line "a_name" A.a_Line_a_name
  F_Line_a_name : Fun K "a_name" "Line.a_name" s_Line_a_name A.a_Line_a_name A.fd_Line_a_name
  b_Line_a_name : Binds K A.fd_Line_a_name ["self"] []
  m_Line_whole : Meth K A.C_Line "whole" A.a_Line_whole
  F_Line_whole : Fun K "whole" "Line.whole" s_Line_whole A.a_Line_whole A.fd_Line_whole
  b_Line_whole : Binds K A.fd_Line_whole ["self"] []
  m_Line_signed : Meth K A.C_Line "signed" A.a_Line_signed
  F_Line_signed : Fun K "signed" "Line.signed" s_Line_signed A.a_Line_signed A.fd_Line_signed
  b_Line_signed : Binds K A.fd_Line_signed ["self"] []
  m_Line_ends : Meth K A.C_Line "ends" A.a_Line_ends
  F_Line_ends : Fun K "ends" "Line.ends" s_Line_ends A.a_Line_ends A.fd_Line_ends
  b_Line_ends : Binds K A.fd_Line_ends ["self"] []
  m_Line_term : Meth K A.C_Line "term" A.a_Line_term
  F_Line_term : Fun K "term" "Line.term" s_Line_term A.a_Line_term A.fd_Line_term
  b_Line_term : Binds K A.fd_Line_term ["self"] []
  m_Line_sums : Meth K A.C_Line "sums" A.a_Line_sums
  F_Line_sums : Fun K "sums" "Line.sums" s_Line_sums A.a_Line_sums A.fd_Line_sums
  b_Line_sums : Binds K A.fd_Line_sums ["self", "found"] []
  m_Line_piece : Meth K A.C_Line "piece" A.a_Line_piece
  F_Line_piece : Fun K "piece" "Line.piece" s_Line_piece A.a_Line_piece A.fd_Line_piece
  b_Line_piece : Binds K A.fd_Line_piece ["self"] []
  m_Line_guard : Meth K A.C_Line "guard" A.a_Line_guard
  F_Line_guard : Fun K "guard" "Line.guard" s_Line_guard A.a_Line_guard A.fd_Line_guard
  b_Line_guard : Binds K A.fd_Line_guard ["self"] []
  m_Line_must : Meth K A.C_Line "must" A.a_Line_must
  F_Line_must : Fun K "must" "Line.must" s_Line_must A.a_Line_must A.fd_Line_must
  b_Line_must : Binds K A.fd_Line_must ["self", "pair"] []
  m_Line_either : Meth K A.C_Line "either" A.a_Line_either
  F_Line_either : Fun K "either" "Line.either" s_Line_either A.a_Line_either A.fd_Line_either
  b_Line_either : Binds K A.fd_Line_either ["self"] []
  m_Line_both : Meth K A.C_Line "both" A.a_Line_both
  F_Line_both : Fun K "both" "Line.both" s_Line_both A.a_Line_both A.fd_Line_both
  b_Line_both : Binds K A.fd_Line_both ["self"] []
  m_Line_single : Meth K A.C_Line "single" A.a_Line_single
  F_Line_single : Fun K "single" "Line.single" s_Line_single A.a_Line_single A.fd_Line_single
  b_Line_single : Binds K A.fd_Line_single ["self"] []
  m_Line_compared : Meth K A.C_Line "compared" A.a_Line_compared
  F_Line_compared : Fun K "compared" "Line.compared" s_Line_compared A.a_Line_compared A.fd_Line_compared
  b_Line_compared : Binds K A.fd_Line_compared ["self", "found"] []
  m_Line_some_deeds : Meth K A.C_Line "some_deeds" A.a_Line_some_deeds
  F_Line_some_deeds : Fun K "some_deeds" "Line.some_deeds" s_Line_some_deeds A.a_Line_some_deeds A.fd_Line_some_deeds
  b_Line_some_deeds : Binds K A.fd_Line_some_deeds ["self"] []
  m_Line_a_deed : Meth K A.C_Line "a_deed" A.a_Line_a_deed
  F_Line_a_deed : Fun K "a_deed" "Line.a_deed" s_Line_a_deed A.a_Line_a_deed A.fd_Line_a_deed
  b_Line_a_deed : Binds K A.fd_Line_a_deed ["self"] []
  m_Line_goals : Meth K A.C_Line "goals" A.a_Line_goals
  F_Line_goals : Fun K "goals" "Line.goals" s_Line_goals A.a_Line_goals A.fd_Line_goals
  b_Line_goals : Binds K A.fd_Line_goals ["self"] []
  F_Reading___init__ : Fun K "__init__" "Reading.__init__" s_Reading___init__ A.a_Reading___init__ A.fd_Reading___init__
  b_Reading___init__ : Binds K A.fd_Reading___init__ ["self", "rows"] []
  m_Reading_here : Meth K A.C_Reading "here" A.a_Reading_here
  F_Reading_here : Fun K "here" "Reading.here" s_Reading_here A.a_Reading_here A.fd_Reading_here
  b_Reading_here : Binds K A.fd_Reading_here ["self"] []
  m_Reading_next_blanks : Meth K A.C_Reading "next_blanks" A.a_Reading_next_blanks
  F_Reading_next_blanks : Fun K "next_blanks" "Reading.next_blanks" s_Reading_next_blanks A.a_Reading_next_blanks A.fd_Reading_next_blanks
  b_Reading_next_blanks : Binds K A.fd_Reading_next_blanks ["self"] []
  m_Reading_finished : Meth K A.C_Reading "finished" A.a_Reading_finished
  F_Reading_finished : Fun K "finished" "Reading.finished" s_Reading_finished A.a_Reading_finished A.fd_Reading_finished
  b_Reading_finished : Binds K A.fd_Reading_finished ["self", "line"] []
  m_Reading_flush : Meth K A.C_Reading "flush" A.a_Reading_flush
  F_Reading_flush : Fun K "flush" "Reading.flush" s_Reading_flush A.a_Reading_flush A.fd_Reading_flush
  b_Reading_flush : Binds K A.fd_Reading_flush ["self"] []
  m_Reading_a_chart : Meth K A.C_Reading "a_chart" A.a_Reading_a_chart
  F_Reading_a_chart : Fun K "a_chart" "Reading.a_chart" s_Reading_a_chart A.a_Reading_a_chart A.fd_Reading_a_chart
  b_Reading_a_chart : Binds K A.fd_Reading_a_chart ["self"] []
  m_Reading_a_stand : Meth K A.C_Reading "a_stand" A.a_Reading_a_stand
  F_Reading_a_stand : Fun K "a_stand" "Reading.a_stand" s_Reading_a_stand A.a_Reading_a_stand A.fd_Reading_a_stand
  b_Reading_a_stand : Binds K A.fd_Reading_a_stand ["self", "blanks"] []
  m_Reading_is_below : Meth K A.C_Reading "is_below" A.a_Reading_is_below
  F_Reading_is_below : Fun K "is_below" "Reading.is_below" s_Reading_is_below A.a_Reading_is_below A.fd_Reading_is_below
  b_Reading_is_below : Binds K A.fd_Reading_is_below ["self", "blanks", "below"] []
  m_Reading_deeds_of : Meth K A.C_Reading "deeds_of" A.a_Reading_deeds_of
  F_Reading_deeds_of : Fun K "deeds_of" "Reading.deeds_of" s_Reading_deeds_of A.a_Reading_deeds_of A.fd_Reading_deeds_of
  b_Reading_deeds_of : Binds K A.fd_Reading_deeds_of ["self", "word", "blanks", "below"] []
  m_Reading_a_move : Meth K A.C_Reading "a_move" A.a_Reading_a_move
  F_Reading_a_move : Fun K "a_move" "Reading.a_move" s_Reading_a_move A.a_Reading_a_move A.fd_Reading_a_move
  b_Reading_a_move : Binds K A.fd_Reading_a_move ["self"] []
  g_read_chart : mg "read_chart" = some (.ref A.a_read_chart)
  F_read_chart : Fun K "read_chart" "read_chart" s_read_chart A.a_read_chart A.fd_read_chart
  b_read_chart : Binds K A.fd_read_chart ["text"] []
  g__law_mixed : mg "_law_mixed" = some (.ref A.a__law_mixed)
  F__law_mixed : Fun K "_law_mixed" "_law_mixed" s__law_mixed A.a__law_mixed A.fd__law_mixed
  b__law_mixed : Binds K A.fd__law_mixed ["_law_cell", "_law_k"] []
  g__law_purse : mg "_law_purse" = some (.ref A.a__law_purse)
  F__law_purse : Fun K "_law_purse" "_law_purse" s__law_purse A.a__law_purse A.fd__law_purse
  b__law_purse : Binds K A.fd__law_purse ["_law_cell", "_law_k"] []
  g__law_take : mg "_law_take" = some (.ref A.a__law_take)
  F__law_take : Fun K "_law_take" "_law_take" s__law_take A.a__law_take A.fd__law_take
  b__law_take : Binds K A.fd__law_take ["_law_purse_here", "_law_far"] []
  g__law_at : mg "_law_at" = some (.ref A.a__law_at)
  F__law_at : Fun K "_law_at" "_law_at" s__law_at A.a__law_at A.fd__law_at
  b__law_at : Binds K A.fd__law_at ["_law_script", "_law_k"] []
  g__law_pick : mg "_law_pick" = some (.ref A.a__law_pick)
  F__law_pick : Fun K "_law_pick" "_law_pick" s__law_pick A.a__law_pick A.fd__law_pick
  b__law_pick : Binds K A.fd__law_pick ["_law_purse_here", "_law_some"] []
  g__law_good : mg "_law_good" = some (.ref A.a__law_good)
  F__law_good : Fun K "_law_good" "_law_good" s__law_good A.a__law_good A.fd__law_good
  b__law_good : Binds K A.fd__law_good [] []
  g__law_bad : mg "_law_bad" = some (.ref A.a__law_bad)
  F__law_bad : Fun K "_law_bad" "_law_bad" s__law_bad A.a__law_bad A.fd__law_bad
  b__law_bad : Binds K A.fd__law_bad [] []
  g__law_row_of : mg "_law_row_of" = some (.ref A.a__law_row_of)
  F__law_row_of : Fun K "_law_row_of" "_law_row_of" s__law_row_of A.a__law_row_of A.fd__law_row_of
  b__law_row_of : Binds K A.fd__law_row_of ["_law_line"] []
  g_law : mg "law" = some (.ref A.a_law)
  F_law : Fun K "law" "law" s_law A.a_law A.fd_law
  b_law : Binds K A.fd_law ["_law_script"] []
  n_enumerate : mg "enumerate" = none
  n_int : mg "int" = none
  n_len : mg "len" = none
  n_min : mg "min" = none
  n_range : mg "range" = none
  n_tuple : mg "tuple" = none
  g_SMALL : mg "SMALL" = some (.str "abcdefghijklmnopqrstuvwxyz" A.t_SMALL)
  g_FIGURES : mg "FIGURES" = some (.str "0123456789" A.t_FIGURES)
  g_SIGNS : mg "SIGNS" = some (.str "()+-<=," A.t_SIGNS)
  g_WORDS : mg "WORDS" = some (.ref A.w_WORDS)
  w_WORDS : ∀ H, SqT K H A.w_WORDS ((["fact", "on", "one", "all", "leaf", "end", "back", "deep", "into", "out", "go", "after", "done", "if", "do", "to", "set", "raise", "say", "in", "not", "and", "or", "yes"] : List Str).map V.str)
  g_MOST_SIGNS : mg "MOST_SIGNS" = some (.int 8 A.t_MOST_SIGNS)
  g_MOST_FIGURES : mg "MOST_FIGURES" = some (.int 9 A.t_MOST_FIGURES)
  g_NESTS : mg "NESTS" = some (.ref A.w_NESTS)
  w_NESTS : ∀ H, SqT K H A.w_NESTS ((["one", "all"] : List Str).map V.str)
  g_MARKERS : mg "MARKERS" = some (.ref A.w_MARKERS)
  w_MARKERS : ∀ H, SqT K H A.w_MARKERS ((["back", "deep"] : List Str).map V.str)
  g_SORTS : mg "SORTS" = some (.ref A.w_SORTS)
  w_SORTS : ∀ H, SqT K H A.w_SORTS ((["one", "all", "leaf", "end", "back", "deep"] : List Str).map V.str)
section
variable {P : Program} {w : World} {K : PySem.W.Frag} {mg : Str → Option Value} {base : Heap} {A : Ads}
theorem fl_number (T : Txt K mg A) : ∀ C ∈ ([0] : List Nat), Cls K (cl A C) ∧ NoAttr K (cl A C) "number" := fun C h => by
  rw [List.mem_singleton.mp h]
  exact ⟨T.cl_Line, T.na_Line_number⟩
theorem fl_blanks (T : Txt K mg A) : ∀ C ∈ ([0] : List Nat), Cls K (cl A C) ∧ NoAttr K (cl A C) "blanks" := fun C h => by
  rw [List.mem_singleton.mp h]
  exact ⟨T.cl_Line, T.na_Line_blanks⟩
theorem fl_left (T : Txt K mg A) : ∀ C ∈ ([0] : List Nat), Cls K (cl A C) ∧ NoAttr K (cl A C) "left" := fun C h => by
  rw [List.mem_singleton.mp h]
  exact ⟨T.cl_Line, T.na_Line_left⟩
theorem fl_lines (T : Txt K mg A) : ∀ C ∈ ([1] : List Nat), Cls K (cl A C) ∧ NoAttr K (cl A C) "lines" := fun C h => by
  rw [List.mem_singleton.mp h]
  exact ⟨T.cl_Reading, T.na_Reading_lines⟩
theorem fl_end (T : Txt K mg A) : ∀ C ∈ ([1] : List Nat), Cls K (cl A C) ∧ NoAttr K (cl A C) "end" := fun C h => by
  rw [List.mem_singleton.mp h]
  exact ⟨T.cl_Reading, T.na_Reading_end⟩
theorem fl_at (T : Txt K mg A) : ∀ C ∈ ([1] : List Nat), Cls K (cl A C) ∧ NoAttr K (cl A C) "at" := fun C h => by
  rw [List.mem_singleton.mp h]
  exact ⟨T.cl_Reading, T.na_Reading_at⟩
theorem fl_noted (T : Txt K mg A) : ∀ C ∈ ([1] : List Nat), Cls K (cl A C) ∧ NoAttr K (cl A C) "noted" := fun C h => by
  rw [List.mem_singleton.mp h]
  exact ⟨T.cl_Reading, T.na_Reading_noted⟩
theorem x_NoText (T : Txt K mg A) : Xc2 P w K mg base "NoText" "row" "column" A.C_NoText A.f_NoText A.fd_NoText := by
  obtain ⟨dvs, hl, F⟩ := T.FD_NoText
  have b : Binds K A.fd_NoText ["self", "row", "column"] [] := by
    obtain ⟨ds, r, b⟩ := F.binds1 (ps := ["self", "row", "column"]) 3 2 (fun z => by rw [z] at hl; cases hl) (by rw [hl]; rfl) (fun T kV doc pm an cdv ct us its h1 h2 => by
      rw [hl] at h2
      exact match us, its, h1, h2 with | [_, _, _], [_, _], _, _ => ⟨_, rfl, rfl⟩)
    rw [List.drop_of_length_le (by rw [hl]; exact Nat.le_refl _)] at r
    cases r
    exact b
  refine ⟨T.ox_NoText, T.it_NoText, T.ty_NoText, T.g_NoText, b, T.no_NoText_row, T.no_NoText_column, F.ok sc_NoText (fun vs H Q E h => ?_) (fun cdv A outer s H vs Q E hr h => ?_)⟩
  · obtain ⟨a, C, v, u, rfl, _⟩ := h
    rfl
  · obtain ⟨a, C, v, u, rfl, ox, no, no2, ha, k⟩ := h
    refine ⟨_, pss_cons (ps_ost (pv 0) (pv 1)) (pss_one (ps_ost (pv 0) (pv 2))), ?_⟩
    refine ⟨_, rfl, _, rfl, a, C, rfl, ox, no, .inl ⟨ha, fun dx hd ne => ?_⟩⟩
    exact ⟨_, rfl, _, rfl, a, C, rfl, ox, no2, .inr ⟨dx, [("row", v)], upd_same, by rw [upd_ne ne, upd_same], (by show 1 ≤ 900; decide), k dx hd ne⟩⟩
end
end K06
set_option Elab.async false
set_option linter.all false
set_option maxRecDepth 100000
set_option maxHeartbeats 8000000
namespace K06
open PySem PySem.Spec PyProof.Rows L2 SA
def w_run_end_0 : AT := (aAnd (aTest (aBin fLt (aVar 4) (aCall cLen (aCons (aVar 0) aNil)))) (aAnd (aTest (aBin fLt (aVar 4) (aBin fAdd (aVar 1) (aVar 3)))) (aTest (aBin (fIn false) (aBin fIx (aVar 0) (aVar 4)) (aVar 2)))))
def w_run_end_1 : AC := (aAugI 4 (fun i j => i + j) (aC (.int 1)))
def d_run_end : List A → AH → Res A := defA 5 (aSeq (aSet 4 (aVar 1))
    (aSeq (aWhile w_run_end_0 w_run_end_1 200)
    (aRet (aVar 4))))
theorem ok_run_end {P : Program} {w : World} {K : PySem.W.Frag} {mg : Str → Option Value} {base : Heap} {A : Ads} (T : Txt K mg A) : FnOk P w K mg base (L2.CX P w) 2 A.a_run_end A.fd_run_end ["row", "at", "signs", "most"] (spOf ⟨K, cl A⟩ 4 d_run_end) := fd_of (k := 1) T.F_run_end sc_run_end (fun cdv Ar outer s H E hr => (db_cons (ds_set (i := 4) sc_run_end.nd rfl (by first | exact Or.inl rfl | exact Or.inr rfl) (dv 1))
      (db_cons (ds_while 200 (passes_of rfl) (dt_w (dw_and (dt_cmp op_lt sim_lt (dv 4) (de_callB sim_len call_lenU (by rfl) T.n_len (by decide +kernel) (da_cons (dv 0) da_nil)) (nomark _)) (dw_and (dt_cmp op_lt sim_lt (dv 4) (de_op op_addU sim_add (dv 1) (dv 3)) (nomark _)) (dw_and1 (dt_cmp (op_inU (hu_of hr)) sim_in (de_ix (hu_of hr) (dv 0) (dv 4) (fun _ _ => rfl)) (dv 2) (by rfl)))))) (db_one (ds_augI (i := 4) (g := (fun i j => i + j)) sc_run_end.nd rfl (by first | exact Or.inl rfl | exact Or.inr rfl) de_int ip_add)))
      (db_one (ds_ret (dv 4))))))
def d_word_end : List A → AH → Res A := defA 3 (aSeq (aIfS (aTest (aBin (fIn false) (aBin fIx (aVar 0) (aVar 1)) (aC (.str "abcdefghijklmnopqrstuvwxyz")))) (aSeq (aSet 2 (aCallF 4 d_run_end (aCons (aVar 0) (aCons (aVar 1) (aCons (aBin fAdd (aC (.str "abcdefghijklmnopqrstuvwxyz")) (aC (.str "0123456789"))) (aCons (aC (.int 8)) aNil))))))
    (aRet (aTup (aCons (aIf (aTest (aBin (fIn false) (aSl (aVar 0) (aPart (aVar 1)) (aPart (aVar 2))) (aC (.tup ((["fact", "on", "one", "all", "leaf", "end", "back", "deep", "into", "out", "go", "after", "done", "if", "do", "to", "set", "raise", "say", "in", "not", "and", "or", "yes"] : List Str).map A.str))))) (aC (.str "word")) (aC (.str "name"))) (aCons (aVar 2) aNil))))) aPass)
    (aSeq (aIfS (aTest (aBin (eqA false) (aBin fIx (aVar 0) (aVar 1)) (aC (.str "0")))) (aRet (aTup (aCons (aC (.str "number")) (aCons (aBin fAdd (aVar 1) (aC (.int 1))) aNil)))) aPass)
    (aSeq (aIfS (aTest (aBin (fIn false) (aBin fIx (aVar 0) (aVar 1)) (aC (.str "0123456789")))) (aRet (aTup (aCons (aC (.str "number")) (aCons (aCallF 4 d_run_end (aCons (aVar 0) (aCons (aVar 1) (aCons (aC (.str "0123456789")) (aCons (aC (.int 9)) aNil))))) aNil)))) aPass)
    (aSeq (aIfS (aTest (aBin (fIn false) (aBin fIx (aVar 0) (aVar 1)) (aC (.str "()+-<=,")))) (aRet (aTup (aCons (aC (.str "sign")) (aCons (aBin fAdd (aVar 1) (aC (.int 1))) aNil)))) aPass)
    (aRet (aTup (aCons (aC (.str "none")) (aCons (aVar 1) aNil))))))))
theorem ok_word_end {P : Program} {w : World} {K : PySem.W.Frag} {mg : Str → Option Value} {base : Heap} {A : Ads} (T : Txt K mg A) : FnOk P w K mg base (L2.CX P w) 3 A.a_word_end A.fd_word_end ["row", "at"] (spOf ⟨K, cl A⟩ 2 d_word_end) := fd_of (k := 2) T.F_word_end sc_word_end (fun cdv Ar outer s H E hr => (db_cons (ds_if (dt_cmp (op_inU (hu_of hr)) sim_in (de_ix (hu_of hr) (dv 0) (dv 1) (fun _ _ => rfl)) (dg_str (by rfl) T.g_SMALL) (by rfl)) (db_cons (ds_set (i := 2) sc_word_end.nd rfl (by first | exact Or.inl rfl | exact Or.inr rfl) (de_call (ok_run_end (P := P) (w := w) (base := base) T) (hr.mono (by first | decide | omega)) rfl T.g_run_end T.F_run_end.kp T.b_run_end (takes_of rfl rfl rfl rfl) (da_cons (dv 0) (da_cons (dv 1) (da_cons (de_op op_addU sim_add (dg_str (by rfl) T.g_SMALL) (dg_str (by rfl) T.g_FIGURES)) (da_cons (dg_int (by rfl) T.g_MOST_SIGNS) da_nil))))))
      (db_one (ds_ret (de_tup (da_cons (de_if (dt_cmp (op_inU (hu_of hr)) sim_in (de_sl (dv 0) (dp_some (dv 1)) (dp_some (dv 2))) (dg_strs (by rfl) T.g_WORDS T.w_WORDS) (by rfl)) de_str de_str) (da_cons (dv 2) da_nil)))))) db_nil)
      (db_cons (ds_if (dt_cmp (op_eqU hr.units) sim_eq (de_ix (hu_of hr) (dv 0) (dv 1) (fun _ _ => rfl)) de_str (nomark _)) (db_one (ds_ret (de_tup (da_cons de_str (da_cons (de_op op_addU sim_add (dv 1) de_int) da_nil))))) db_nil)
      (db_cons (ds_if (dt_cmp (op_inU (hu_of hr)) sim_in (de_ix (hu_of hr) (dv 0) (dv 1) (fun _ _ => rfl)) (dg_str (by rfl) T.g_FIGURES) (by rfl)) (db_one (ds_ret (de_tup (da_cons de_str (da_cons (de_call (ok_run_end (P := P) (w := w) (base := base) T) (hr.mono (by first | decide | omega)) rfl T.g_run_end T.F_run_end.kp T.b_run_end (takes_of rfl rfl rfl rfl) (da_cons (dv 0) (da_cons (dv 1) (da_cons (dg_str (by rfl) T.g_FIGURES) (da_cons (dg_int (by rfl) T.g_MOST_FIGURES) da_nil))))) da_nil))))) db_nil)
      (db_cons (ds_if (dt_cmp (op_inU (hu_of hr)) sim_in (de_ix (hu_of hr) (dv 0) (dv 1) (fun _ _ => rfl)) (dg_str (by rfl) T.g_SIGNS) (by rfl)) (db_one (ds_ret (de_tup (da_cons de_str (da_cons (de_op op_addU sim_add (dv 1) de_int) da_nil))))) db_nil)
      (db_one (ds_ret (de_tup (da_cons de_str (da_cons (dv 1) da_nil))))))))))
def w_words_of_0 : AT := (aTest (aBin fLt (aVar 2) (aCall cLen (aCons (aVar 0) aNil))))
def w_words_of_1 : AC := (aIfS (aTest (aBin (eqA false) (aBin fIx (aVar 0) (aVar 2)) (aC (.str " ")))) (aSeq (aAugI 2 (fun i j => i + j) (aC (.int 1)))
    (aSet 3 (aC (.bl true)))) (aSeq (aAsg (gSq 2 (gsCons (gNm 4) (gsCons (gNm 5) gsNil))) (aCallF 2 d_word_end (aCons (aVar 0) (aCons (aVar 2) aNil))))
    (aSeq (aIfS (aOr (aTest (aBin (eqA false) (aVar 4) (aC (.str "none")))) (aAnd (aTest (aBin (eqA true) (aVar 4) (aC (.str "sign")))) (aNotT (aTru (aVar 3))))) (aRet (aBin fAdd (aVar 1) (aLst (aCons (aTup (aCons (aBin fAdd (aVar 2) (aC (.int 1))) (aCons (aC (.str "none")) (aCons (aC (.str "")) aNil)))) aNil)))) aPass)
    (aSeq (aExpr (aBM "list" mAppend (aVar 1) (aCons (aTup (aCons (aBin fAdd (aVar 2) (aC (.int 1))) (aCons (aVar 4) (aCons (aSl (aVar 0) (aPart (aVar 2)) (aPart (aVar 5))) aNil)))) aNil)))
    (aSeq (aSet 3 (aBin (eqA false) (aVar 4) (aC (.str "sign"))))
    (aSet 2 (aVar 5)))))))
def d_words_of : List A → AH → Res A := defA 6 (aSeq (aSet 1 (aLst aNil))
    (aSeq (aSet 2 (aC (.int 0)))
    (aSeq (aSet 3 (aC (.bl true)))
    (aSeq (aWhile w_words_of_0 w_words_of_1 200)
    (aRet (aBin fAdd (aVar 1) (aLst (aCons (aTup (aCons (aBin fAdd (aCall cLen (aCons (aBM "str" mRstrip (aVar 0) (aCons (aC (.str " ")) aNil)) aNil)) (aC (.int 1))) (aCons (aC (.str "ends")) (aCons (aC (.str "")) aNil)))) aNil))))))))
theorem ok_words_of {P : Program} {w : World} {K : PySem.W.Frag} {mg : Str → Option Value} {base : Heap} {A : Ads} (T : Txt K mg A) : FnOk P w K mg base (L2.CX P w) 4 A.a_words_of A.fd_words_of ["row"] (spOf ⟨K, cl A⟩ 1 d_words_of) := fd_of (k := 3) T.F_words_of sc_words_of (fun cdv Ar outer s H E hr => (db_cons (ds_set (i := 1) sc_words_of.nd rfl (by first | exact Or.inl rfl | exact Or.inr rfl) (de_lst da_nil))
      (db_cons (ds_set (i := 2) sc_words_of.nd rfl (by first | exact Or.inl rfl | exact Or.inr rfl) de_int)
      (db_cons (ds_set (i := 3) sc_words_of.nd rfl (by first | exact Or.inl rfl | exact Or.inr rfl) de_bl)
      (db_cons (ds_while 200 (passes_of rfl) (dt_cmp op_lt sim_lt (dv 2) (de_callB sim_len call_lenU (by rfl) T.n_len (by decide +kernel) (da_cons (dv 0) da_nil)) (nomark _)) (db_one (ds_if (dt_cmp (op_eqU hr.units) sim_eq (de_ix (hu_of hr) (dv 0) (dv 2) (fun _ _ => rfl)) de_str (nomark _)) (db_cons (ds_augI (i := 2) (g := (fun i j => i + j)) sc_words_of.nd rfl (by first | exact Or.inl rfl | exact Or.inr rfl) de_int ip_add)
      (db_one (ds_set (i := 3) sc_words_of.nd rfl (by first | exact Or.inl rfl | exact Or.inr rfl) de_bl))) (db_cons (ds_asg (de_call (ok_word_end (P := P) (w := w) (base := base) T) (hr.mono (by first | decide | omega)) rfl T.g_word_end T.F_word_end.kp T.b_word_end (takes_of rfl rfl rfl rfl) (da_cons (dv 0) (da_cons (dv 2) da_nil))) (dg_seq rfl (dgs_cons (dg_name (i := 4) sc_words_of.nd rfl (by first | exact Or.inl rfl | exact Or.inr rfl)) (dgs_cons (dg_name (i := 5) sc_words_of.nd rfl (by first | exact Or.inl rfl | exact Or.inr rfl)) dgs_nil))))
      (db_cons (ds_if (dt_w (dw_or (dt_cmp (op_eqU hr.units) sim_eq (dv 4) de_str (nomark _)) (dw_or1 (dt_w (dw_and (dt_cmp (op_neU hr.units) sim_eq (dv 4) de_str (nomark _)) (dw_and1 (dt_not (dt_tru (dv 3) (by intro _; rfl))))))))) (db_one (ds_ret (de_op op_addU sim_add (dv 1) (de_lst (da_cons (de_tup (da_cons (de_op op_addU sim_add (dv 2) de_int) (da_cons de_str (da_cons de_str da_nil)))) da_nil))))) db_nil)
      (db_cons (ds_expr (de_bm sim_append PySem.F.plainAttrs_list PySem.F.slot_list_append PySem.F.type_list_append mt_append (dv 1) (da_cons (de_tup (da_cons (de_op op_addU sim_add (dv 2) de_int) (da_cons (dv 4) (da_cons (de_sl (dv 0) (dp_some (dv 2)) (dp_some (dv 5))) da_nil)))) da_nil)))
      (db_cons (ds_set (i := 3) sc_words_of.nd rfl (by first | exact Or.inl rfl | exact Or.inr rfl) (de_cmp (op_eqU hr.units) sim_eq (dv 4) de_str (nomark _)))
      (db_one (ds_set (i := 2) sc_words_of.nd rfl (by first | exact Or.inl rfl | exact Or.inr rfl) (dv 5))))))))))
      (db_one (ds_ret (de_op op_addU sim_add (dv 1) (de_lst (da_cons (de_tup (da_cons (de_op op_addU sim_add (de_callB sim_len call_lenU (by rfl) T.n_len (by decide +kernel) (da_cons (de_bm sim_rstrip PySem.F.plainAttrs_str PySem.F.slot_str_rstrip PySem.F.type_str_rstrip mt_rstripChars (dv 0) (da_cons de_str da_nil)) da_nil)) de_int) (da_cons de_str (da_cons de_str da_nil)))) da_nil))))))))))
def d_Line___init__ : List A → AH → Res A := defA 3 (aSeq (aFldS [0] "number" (aVar 0) (aVar 1))
    (aSeq (aFldS [0] "blanks" (aVar 0) (aBin fSub (aCall cLen (aCons (aVar 2) aNil)) (aCall cLen (aCons (aBM "str" mLstrip (aVar 2) (aCons (aC (.str " ")) aNil)) aNil))))
    (aFldS [0] "left" (aVar 0) (aCallF 1 d_words_of (aCons (aVar 2) aNil)))))
theorem ok_Line___init__ {P : Program} {w : World} {K : PySem.W.Frag} {mg : Str → Option Value} {base : Heap} {A : Ads} (T : Txt K mg A) : FnOk P w K mg base (L2.CX P w) 5 A.a_Line___init__ A.fd_Line___init__ ["self", "number", "row"] (spOf ⟨K, cl A⟩ 3 d_Line___init__) := fd_of (k := 4) T.F_Line___init__ sc_Line___init__ (fun cdv Ar outer s H E hr => (db_cons (ds_fld (fl_number T) (dv 0) (dv 1) rfl)
      (db_cons (ds_fld (fl_blanks T) (dv 0) (de_op op_sub sim_sub (de_callB sim_len call_lenU (by rfl) T.n_len (by decide +kernel) (da_cons (dv 2) da_nil)) (de_callB sim_len call_lenU (by rfl) T.n_len (by decide +kernel) (da_cons (de_bm sim_lstrip PySem.F.plainAttrs_str PySem.F.slot_str_lstrip PySem.F.type_str_lstrip mt_lstripChars (dv 2) (da_cons de_str da_nil)) da_nil))) rfl)
      (db_one (ds_fld (fl_left T) (dv 0) (de_call (ok_words_of (P := P) (w := w) (base := base) T) (hr.mono (by first | decide | omega)) rfl T.g_words_of T.F_words_of.kp T.b_words_of (takes_of rfl rfl rfl rfl) (da_cons (dv 2) da_nil)) rfl)))))
def d_Line_refuse : List A → AH → Res A := defA 1 (aRaise2 2 "row" "column" (aCons (aUn (fFld [0] "number") (aVar 0)) (aCons (aBin fIx (aBin fIx (aUn (fFld [0] "left") (aVar 0)) (aC (.int 0))) (aC (.int 0))) aNil)))
theorem ok_Line_refuse {P : Program} {w : World} {K : PySem.W.Frag} {mg : Str → Option Value} {base : Heap} {A : Ads} (T : Txt K mg A) : FnOk P w K mg base (L2.CX P w) 3 A.a_Line_refuse A.fd_Line_refuse ["self"] (spOf ⟨K, cl A⟩ 1 d_Line_refuse) := fd_of (k := 2) T.F_Line_refuse sc_Line_refuse (fun cdv Ar outer s H E hr => (db_one (ds_raise2 (x_NoText T) rfl (takes_of rfl rfl rfl rfl) (hr.mono (by first | decide | omega)) rfl (da_cons (de_fld (fl_number T) (dv 0) rfl) (da_cons (de_ix (hu_of hr) (de_ix (hu_of hr) (de_fld (fl_left T) (dv 0) rfl) de_int (fun _ _ => rfl)) de_int (fun _ _ => rfl)) da_nil)))))
def d_Line_is_next : List A → AH → Res A := defA 2 (aRet (aAndV (aBin (fIn false) (aBin fIx (aBin fIx (aUn (fFld [0] "left") (aVar 0)) (aC (.int 0))) (aC (.int 1))) (aTup (aCons (aC (.str "word")) (aCons (aC (.str "sign")) aNil)))) (aBin (fIn false) (aBin fIx (aBin fIx (aUn (fFld [0] "left") (aVar 0)) (aC (.int 0))) (aC (.int 2))) (aVar 1))))
theorem ok_Line_is_next {P : Program} {w : World} {K : PySem.W.Frag} {mg : Str → Option Value} {base : Heap} {A : Ads} (T : Txt K mg A) : FnOk P w K mg base (L2.CX P w) 2 A.a_Line_is_next A.fd_Line_is_next ["self", "words"] (spOf ⟨K, cl A⟩ 2 d_Line_is_next) := fd_of (k := 1) T.F_Line_is_next sc_Line_is_next (fun cdv Ar outer s H E hr => (db_one (ds_ret (de_and (de_cmp (op_inU (hu_of hr)) sim_in (de_ix (hu_of hr) (de_ix (hu_of hr) (de_fld (fl_left T) (dv 0) rfl) de_int (fun _ _ => rfl)) de_int (fun _ _ => rfl)) (de_tup (da_cons de_str (da_cons de_str da_nil))) (by rfl)) (de_one (de_cmp (op_inU (hu_of hr)) sim_in (de_ix (hu_of hr) (de_ix (hu_of hr) (de_fld (fl_left T) (dv 0) rfl) de_int (fun _ _ => rfl)) de_int (fun _ _ => rfl)) (dv 1) (by rfl)))))))
def d_Line_is_sort : List A → AH → Res A := defA 2 (aRet (aBin (eqA false) (aBin fIx (aBin fIx (aUn (fFld [0] "left") (aVar 0)) (aC (.int 0))) (aC (.int 1))) (aVar 1)))
theorem ok_Line_is_sort {P : Program} {w : World} {K : PySem.W.Frag} {mg : Str → Option Value} {base : Heap} {A : Ads} (T : Txt K mg A) : FnOk P w K mg base (L2.CX P w) 2 A.a_Line_is_sort A.fd_Line_is_sort ["self", "sort"] (spOf ⟨K, cl A⟩ 2 d_Line_is_sort) := fd_of (k := 1) T.F_Line_is_sort sc_Line_is_sort (fun cdv Ar outer s H E hr => (db_one (ds_ret (de_cmp (op_eqU hr.units) sim_eq (de_ix (hu_of hr) (de_ix (hu_of hr) (de_fld (fl_left T) (dv 0) rfl) de_int (fun _ _ => rfl)) de_int (fun _ _ => rfl)) (dv 1) (nomark _)))))
def d_Line_taken : List A → AH → Res A := defA 1 (aRet (aBin fIx (aBM "list" mPopAt (aUn (fFld [0] "left") (aVar 0)) (aCons (aC (.int 0)) aNil)) (aC (.int 2))))
theorem ok_Line_taken {P : Program} {w : World} {K : PySem.W.Frag} {mg : Str → Option Value} {base : Heap} {A : Ads} (T : Txt K mg A) : FnOk P w K mg base (L2.CX P w) 2 A.a_Line_taken A.fd_Line_taken ["self"] (spOf ⟨K, cl A⟩ 1 d_Line_taken) := fd_of (k := 1) T.F_Line_taken sc_Line_taken (fun cdv Ar outer s H E hr => (db_one (ds_ret (de_ix (hu_of hr) (de_bm sim_popAt PySem.F.plainAttrs_list PySem.F.slot_list_pop PySem.F.type_list_pop mt_popAt (de_fld (fl_left T) (dv 0) rfl) (da_cons de_int da_nil)) de_int (fun _ _ => rfl)))))
def d_Line_want : List A → AH → Res A := defA 2 (aSeq (aIfS (aNotT (aTru (aMethF 0 "is_next" 2 d_Line_is_next (aVar 0) (aCons (aVar 1) aNil)))) (aExpr (aMethF 0 "refuse" 1 d_Line_refuse (aVar 0) aNil)) aPass)
    (aRet (aMethF 0 "taken" 1 d_Line_taken (aVar 0) aNil)))
theorem ok_Line_want {P : Program} {w : World} {K : PySem.W.Frag} {mg : Str → Option Value} {base : Heap} {A : Ads} (T : Txt K mg A) : FnOk P w K mg base (L2.CX P w) 4 A.a_Line_want A.fd_Line_want ["self", "words"] (spOf ⟨K, cl A⟩ 2 d_Line_want) := fd_of (k := 3) T.F_Line_want sc_Line_want (fun cdv Ar outer s H E hr => (db_cons (ds_if (dt_not (dt_tru (de_meth (C := 0) (dv 0) T.cl_Line T.m_Line_is_next (ok_Line_is_next (P := P) (w := w) (base := base) T) (hr.mono (by first | decide | omega)) T.b_Line_is_next (takes_of rfl rfl rfl rfl) (da_cons (dv 1) da_nil)) (by intro _; rfl))) (db_one (ds_expr (de_meth0 (C := 0) (dv 0) T.cl_Line T.m_Line_refuse (ok_Line_refuse (P := P) (w := w) (base := base) T) (hr.mono (by first | decide | omega)) T.b_Line_refuse (takes_of rfl rfl rfl rfl)))) db_nil)
      (db_one (ds_ret (de_meth0 (C := 0) (dv 0) T.cl_Line T.m_Line_taken (ok_Line_taken (P := P) (w := w) (base := base) T) (hr.mono (by first | decide | omega)) T.b_Line_taken (takes_of rfl rfl rfl rfl))))))
def d_Line_a_name : List A → AH → Res A := defA 1 (aSeq (aIfS (aNotT (aTru (aMethF 0 "is_sort" 2 d_Line_is_sort (aVar 0) (aCons (aC (.str "name")) aNil)))) (aExpr (aMethF 0 "refuse" 1 d_Line_refuse (aVar 0) aNil)) aPass)
    (aRet (aMethF 0 "taken" 1 d_Line_taken (aVar 0) aNil)))
theorem ok_Line_a_name {P : Program} {w : World} {K : PySem.W.Frag} {mg : Str → Option Value} {base : Heap} {A : Ads} (T : Txt K mg A) : FnOk P w K mg base (L2.CX P w) 4 A.a_Line_a_name A.fd_Line_a_name ["self"] (spOf ⟨K, cl A⟩ 1 d_Line_a_name) := fd_of (k := 3) T.F_Line_a_name sc_Line_a_name (fun cdv Ar outer s H E hr => (db_cons (ds_if (dt_not (dt_tru (de_meth (C := 0) (dv 0) T.cl_Line T.m_Line_is_sort (ok_Line_is_sort (P := P) (w := w) (base := base) T) (hr.mono (by first | decide | omega)) T.b_Line_is_sort (takes_of rfl rfl rfl rfl) (da_cons de_str da_nil)) (by intro _; rfl))) (db_one (ds_expr (de_meth0 (C := 0) (dv 0) T.cl_Line T.m_Line_refuse (ok_Line_refuse (P := P) (w := w) (base := base) T) (hr.mono (by first | decide | omega)) T.b_Line_refuse (takes_of rfl rfl rfl rfl)))) db_nil)
      (db_one (ds_ret (de_meth0 (C := 0) (dv 0) T.cl_Line T.m_Line_taken (ok_Line_taken (P := P) (w := w) (base := base) T) (hr.mono (by first | decide | omega)) T.b_Line_taken (takes_of rfl rfl rfl rfl))))))
def d_Line_whole : List A → AH → Res A := defA 1 (aSeq (aIfS (aNotT (aTru (aMethF 0 "is_sort" 2 d_Line_is_sort (aVar 0) (aCons (aC (.str "number")) aNil)))) (aExpr (aMethF 0 "refuse" 1 d_Line_refuse (aVar 0) aNil)) aPass)
    (aRet (aCall cInt (aCons (aMethF 0 "taken" 1 d_Line_taken (aVar 0) aNil) aNil))))
theorem ok_Line_whole {P : Program} {w : World} {K : PySem.W.Frag} {mg : Str → Option Value} {base : Heap} {A : Ads} (T : Txt K mg A) : FnOk P w K mg base (L2.CX P w) 4 A.a_Line_whole A.fd_Line_whole ["self"] (spOf ⟨K, cl A⟩ 1 d_Line_whole) := fd_of (k := 3) T.F_Line_whole sc_Line_whole (fun cdv Ar outer s H E hr => (db_cons (ds_if (dt_not (dt_tru (de_meth (C := 0) (dv 0) T.cl_Line T.m_Line_is_sort (ok_Line_is_sort (P := P) (w := w) (base := base) T) (hr.mono (by first | decide | omega)) T.b_Line_is_sort (takes_of rfl rfl rfl rfl) (da_cons de_str da_nil)) (by intro _; rfl))) (db_one (ds_expr (de_meth0 (C := 0) (dv 0) T.cl_Line T.m_Line_refuse (ok_Line_refuse (P := P) (w := w) (base := base) T) (hr.mono (by first | decide | omega)) T.b_Line_refuse (takes_of rfl rfl rfl rfl)))) db_nil)
      (db_one (ds_ret (de_callTy sim_intU call_intU (by rfl) T.n_int (by decide +kernel) (da_cons (de_meth0 (C := 0) (dv 0) T.cl_Line T.m_Line_taken (ok_Line_taken (P := P) (w := w) (base := base) T) (hr.mono (by first | decide | omega)) T.b_Line_taken (takes_of rfl rfl rfl rfl)) da_nil))))))
def d_Line_signed : List A → AH → Res A := defA 1 (aSeq (aIfS (aTru (aMethF 0 "is_next" 2 d_Line_is_next (aVar 0) (aCons (aTup (aCons (aC (.str "-")) aNil)) aNil))) (aSeq (aExpr (aMethF 0 "taken" 1 d_Line_taken (aVar 0) aNil))
    (aRet (aBin fSub (aC (.int 0)) (aMethF 0 "whole" 1 d_Line_whole (aVar 0) aNil)))) aPass)
    (aRet (aMethF 0 "whole" 1 d_Line_whole (aVar 0) aNil)))
theorem ok_Line_signed {P : Program} {w : World} {K : PySem.W.Frag} {mg : Str → Option Value} {base : Heap} {A : Ads} (T : Txt K mg A) : FnOk P w K mg base (L2.CX P w) 5 A.a_Line_signed A.fd_Line_signed ["self"] (spOf ⟨K, cl A⟩ 1 d_Line_signed) := fd_of (k := 4) T.F_Line_signed sc_Line_signed (fun cdv Ar outer s H E hr => (db_cons (ds_if (dt_tru (de_meth (C := 0) (dv 0) T.cl_Line T.m_Line_is_next (ok_Line_is_next (P := P) (w := w) (base := base) T) (hr.mono (by first | decide | omega)) T.b_Line_is_next (takes_of rfl rfl rfl rfl) (da_cons (de_tup (da_cons de_str da_nil)) da_nil)) (by intro _; rfl)) (db_cons (ds_expr (de_meth0 (C := 0) (dv 0) T.cl_Line T.m_Line_taken (ok_Line_taken (P := P) (w := w) (base := base) T) (hr.mono (by first | decide | omega)) T.b_Line_taken (takes_of rfl rfl rfl rfl)))
      (db_one (ds_ret (de_op op_sub sim_sub de_int (de_meth0 (C := 0) (dv 0) T.cl_Line T.m_Line_whole (ok_Line_whole (P := P) (w := w) (base := base) T) (hr.mono (by first | decide | omega)) T.b_Line_whole (takes_of rfl rfl rfl rfl)))))) db_nil)
      (db_one (ds_ret (de_meth0 (C := 0) (dv 0) T.cl_Line T.m_Line_whole (ok_Line_whole (P := P) (w := w) (base := base) T) (hr.mono (by first | decide | omega)) T.b_Line_whole (takes_of rfl rfl rfl rfl))))))
def d_Line_ends : List A → AH → Res A := defA 1 (aIfS (aNotT (aTru (aMethF 0 "is_sort" 2 d_Line_is_sort (aVar 0) (aCons (aC (.str "ends")) aNil)))) (aExpr (aMethF 0 "refuse" 1 d_Line_refuse (aVar 0) aNil)) aPass)
theorem ok_Line_ends {P : Program} {w : World} {K : PySem.W.Frag} {mg : Str → Option Value} {base : Heap} {A : Ads} (T : Txt K mg A) : FnOk P w K mg base (L2.CX P w) 4 A.a_Line_ends A.fd_Line_ends ["self"] (spOf ⟨K, cl A⟩ 1 d_Line_ends) := fd_of (k := 3) T.F_Line_ends sc_Line_ends (fun cdv Ar outer s H E hr => (db_one (ds_if (dt_not (dt_tru (de_meth (C := 0) (dv 0) T.cl_Line T.m_Line_is_sort (ok_Line_is_sort (P := P) (w := w) (base := base) T) (hr.mono (by first | decide | omega)) T.b_Line_is_sort (takes_of rfl rfl rfl rfl) (da_cons de_str da_nil)) (by intro _; rfl))) (db_one (ds_expr (de_meth0 (C := 0) (dv 0) T.cl_Line T.m_Line_refuse (ok_Line_refuse (P := P) (w := w) (base := base) T) (hr.mono (by first | decide | omega)) T.b_Line_refuse (takes_of rfl rfl rfl rfl)))) db_nil)))
def b_Line_term (call : Nat → List A → AH → Res A) : List A → AH → Res A := defA 1 (aRet (aMethF 0 "sums" 2 (call 2) (aVar 0) (aCons (aMethF 0 "piece" 1 (call 1) (aVar 0) aNil) aNil)))
def b_Line_piece (call : Nat → List A → AH → Res A) : List A → AH → Res A := defA 2 (aSeq (aIfS (aTru (aMethF 0 "is_sort" 2 d_Line_is_sort (aVar 0) (aCons (aC (.str "number")) aNil))) (aRet (aTup (aCons (aC (.str "num")) (aCons (aMethF 0 "whole" 1 d_Line_whole (aVar 0) aNil) aNil)))) aPass)
    (aSeq (aIfS (aTru (aMethF 0 "is_sort" 2 d_Line_is_sort (aVar 0) (aCons (aC (.str "name")) aNil))) (aRet (aTup (aCons (aC (.str "fact")) (aCons (aMethF 0 "taken" 1 d_Line_taken (aVar 0) aNil) aNil)))) aPass)
    (aSeq (aExpr (aMethF 0 "want" 2 d_Line_want (aVar 0) (aCons (aTup (aCons (aC (.str "(")) aNil)) aNil)))
    (aSeq (aSet 1 (aMethF 0 "term" 1 (call 0) (aVar 0) aNil))
    (aSeq (aExpr (aMethF 0 "want" 2 d_Line_want (aVar 0) (aCons (aTup (aCons (aC (.str ")")) aNil)) aNil)))
    (aRet (aVar 1)))))))
def w_Line_sums_0 (call : Nat → List A → AH → Res A) : AT := (aTru (aMethF 0 "is_next" 2 d_Line_is_next (aVar 0) (aCons (aTup (aCons (aC (.str "+")) (aCons (aC (.str "-")) aNil))) aNil)))
def w_Line_sums_1 (call : Nat → List A → AH → Res A) : AC := (aSeq (aSet 2 (aBin fIx (aDisp (((aC (.str "+")), (aC (.str "sum"))) :: (((aC (.str "-")), (aC (.str "less"))) :: []))) (aMethF 0 "taken" 1 d_Line_taken (aVar 0) aNil)))
    (aSet 1 (aTup (aCons (aVar 2) (aCons (aVar 1) (aCons (aMethF 0 "piece" 1 (call 1) (aVar 0) aNil) aNil))))))
def b_Line_sums (call : Nat → List A → AH → Res A) : List A → AH → Res A := defA 3 (aSeq (aWhile (w_Line_sums_0 call) (w_Line_sums_1 call) 200)
    (aRet (aVar 1)))
def g13 : Nat → Nat → List A → AH → Res A
  | 0, _ => fun _ _ => .bad
  | n + 1, k => match k with
    | 0 => b_Line_term (g13 n)
    | 1 => b_Line_piece (g13 n)
    | _ => b_Line_sums (g13 n)
theorem st_Line_term {P : Program} {w : World} {K : PySem.W.Frag} {mg : Str → Option Value} {base : Heap} {A : Ads} (T : Txt K mg A) {n : Nat} (G_Line_term : FnOk P w K mg base (L2.CX P w) (4 + n) A.a_Line_term A.fd_Line_term ["self"] (spOf ⟨K, cl A⟩ 1 (g13 n 0))) (G_Line_piece : FnOk P w K mg base (L2.CX P w) (4 + n) A.a_Line_piece A.fd_Line_piece ["self"] (spOf ⟨K, cl A⟩ 1 (g13 n 1))) (G_Line_sums : FnOk P w K mg base (L2.CX P w) (4 + n) A.a_Line_sums A.fd_Line_sums ["self", "found"] (spOf ⟨K, cl A⟩ 2 (g13 n 2))) : FnOk P w K mg base (L2.CX P w) (4 + (n + 1)) A.a_Line_term A.fd_Line_term ["self"] (spOf ⟨K, cl A⟩ 1 (g13 (n + 1) 0)) := fd_of (k := 4 + n) T.F_Line_term sc_Line_term (fun cdv Ar outer s H E hr => (db_one (ds_ret (de_meth (C := 0) (dv 0) T.cl_Line T.m_Line_sums G_Line_sums (hr.mono (by first | decide | omega)) T.b_Line_sums (takes_of rfl rfl rfl rfl) (da_cons (de_meth0 (C := 0) (dv 0) T.cl_Line T.m_Line_piece G_Line_piece (hr.mono (by first | decide | omega)) T.b_Line_piece (takes_of rfl rfl rfl rfl)) da_nil)))))
theorem st_Line_piece {P : Program} {w : World} {K : PySem.W.Frag} {mg : Str → Option Value} {base : Heap} {A : Ads} (T : Txt K mg A) {n : Nat} (G_Line_term : FnOk P w K mg base (L2.CX P w) (4 + n) A.a_Line_term A.fd_Line_term ["self"] (spOf ⟨K, cl A⟩ 1 (g13 n 0))) (G_Line_piece : FnOk P w K mg base (L2.CX P w) (4 + n) A.a_Line_piece A.fd_Line_piece ["self"] (spOf ⟨K, cl A⟩ 1 (g13 n 1))) (G_Line_sums : FnOk P w K mg base (L2.CX P w) (4 + n) A.a_Line_sums A.fd_Line_sums ["self", "found"] (spOf ⟨K, cl A⟩ 2 (g13 n 2))) : FnOk P w K mg base (L2.CX P w) (4 + (n + 1)) A.a_Line_piece A.fd_Line_piece ["self"] (spOf ⟨K, cl A⟩ 1 (g13 (n + 1) 1)) := fd_of (k := 4 + n) T.F_Line_piece sc_Line_piece (fun cdv Ar outer s H E hr => (db_cons (ds_if (dt_tru (de_meth (C := 0) (dv 0) T.cl_Line T.m_Line_is_sort (ok_Line_is_sort (P := P) (w := w) (base := base) T) (hr.mono (by first | decide | omega)) T.b_Line_is_sort (takes_of rfl rfl rfl rfl) (da_cons de_str da_nil)) (by intro _; rfl)) (db_one (ds_ret (de_tup (da_cons de_str (da_cons (de_meth0 (C := 0) (dv 0) T.cl_Line T.m_Line_whole (ok_Line_whole (P := P) (w := w) (base := base) T) (hr.mono (by first | decide | omega)) T.b_Line_whole (takes_of rfl rfl rfl rfl)) da_nil))))) db_nil)
      (db_cons (ds_if (dt_tru (de_meth (C := 0) (dv 0) T.cl_Line T.m_Line_is_sort (ok_Line_is_sort (P := P) (w := w) (base := base) T) (hr.mono (by first | decide | omega)) T.b_Line_is_sort (takes_of rfl rfl rfl rfl) (da_cons de_str da_nil)) (by intro _; rfl)) (db_one (ds_ret (de_tup (da_cons de_str (da_cons (de_meth0 (C := 0) (dv 0) T.cl_Line T.m_Line_taken (ok_Line_taken (P := P) (w := w) (base := base) T) (hr.mono (by first | decide | omega)) T.b_Line_taken (takes_of rfl rfl rfl rfl)) da_nil))))) db_nil)
      (db_cons (ds_expr (de_meth (C := 0) (dv 0) T.cl_Line T.m_Line_want (ok_Line_want (P := P) (w := w) (base := base) T) (hr.mono (by first | decide | omega)) T.b_Line_want (takes_of rfl rfl rfl rfl) (da_cons (de_tup (da_cons de_str da_nil)) da_nil)))
      (db_cons (ds_set (i := 1) sc_Line_piece.nd rfl (by first | exact Or.inl rfl | exact Or.inr rfl) (de_meth0 (C := 0) (dv 0) T.cl_Line T.m_Line_term G_Line_term (hr.mono (by first | decide | omega)) T.b_Line_term (takes_of rfl rfl rfl rfl)))
      (db_cons (ds_expr (de_meth (C := 0) (dv 0) T.cl_Line T.m_Line_want (ok_Line_want (P := P) (w := w) (base := base) T) (hr.mono (by first | decide | omega)) T.b_Line_want (takes_of rfl rfl rfl rfl) (da_cons (de_tup (da_cons de_str da_nil)) da_nil)))
      (db_one (ds_ret (dv 1)))))))))
theorem st_Line_sums {P : Program} {w : World} {K : PySem.W.Frag} {mg : Str → Option Value} {base : Heap} {A : Ads} (T : Txt K mg A) {n : Nat} (G_Line_term : FnOk P w K mg base (L2.CX P w) (4 + n) A.a_Line_term A.fd_Line_term ["self"] (spOf ⟨K, cl A⟩ 1 (g13 n 0))) (G_Line_piece : FnOk P w K mg base (L2.CX P w) (4 + n) A.a_Line_piece A.fd_Line_piece ["self"] (spOf ⟨K, cl A⟩ 1 (g13 n 1))) (G_Line_sums : FnOk P w K mg base (L2.CX P w) (4 + n) A.a_Line_sums A.fd_Line_sums ["self", "found"] (spOf ⟨K, cl A⟩ 2 (g13 n 2))) : FnOk P w K mg base (L2.CX P w) (4 + (n + 1)) A.a_Line_sums A.fd_Line_sums ["self", "found"] (spOf ⟨K, cl A⟩ 2 (g13 (n + 1) 2)) := fd_of (k := 4 + n) T.F_Line_sums sc_Line_sums (fun cdv Ar outer s H E hr => (db_cons (ds_while 200 (passes_of rfl) (dt_tru (de_meth (C := 0) (dv 0) T.cl_Line T.m_Line_is_next (ok_Line_is_next (P := P) (w := w) (base := base) T) (hr.mono (by first | decide | omega)) T.b_Line_is_next (takes_of rfl rfl rfl rfl) (da_cons (de_tup (da_cons de_str (da_cons de_str da_nil))) da_nil)) (by intro _; rfl)) (db_cons (ds_set (i := 2) sc_Line_sums.nd rfl (by first | exact Or.inl rfl | exact Or.inr rfl) (de_ix (hu_of hr) (de_disp (dpp_cons de_str de_str (dpp_cons de_str de_str dpp_nil)) (by rfl) (by rfl) (fun z => by cases z) (by decide)) (de_meth0 (C := 0) (dv 0) T.cl_Line T.m_Line_taken (ok_Line_taken (P := P) (w := w) (base := base) T) (hr.mono (by first | decide | omega)) T.b_Line_taken (takes_of rfl rfl rfl rfl)) (fun _ _ => rfl)))
      (db_one (ds_set (i := 1) sc_Line_sums.nd rfl (by first | exact Or.inl rfl | exact Or.inr rfl) (de_tup (da_cons (dv 2) (da_cons (dv 1) (da_cons (de_meth0 (C := 0) (dv 0) T.cl_Line T.m_Line_piece G_Line_piece (hr.mono (by first | decide | omega)) T.b_Line_piece (takes_of rfl rfl rfl rfl)) da_nil))))))))
      (db_one (ds_ret (dv 1)))))
theorem all_g13 {P : Program} {w : World} {K : PySem.W.Frag} {mg : Str → Option Value} {base : Heap} {A : Ads} (T : Txt K mg A) : ∀ n : Nat, FnOk P w K mg base (L2.CX P w) (4 + n) A.a_Line_term A.fd_Line_term ["self"] (spOf ⟨K, cl A⟩ 1 (g13 n 0)) ∧ FnOk P w K mg base (L2.CX P w) (4 + n) A.a_Line_piece A.fd_Line_piece ["self"] (spOf ⟨K, cl A⟩ 1 (g13 n 1)) ∧ FnOk P w K mg base (L2.CX P w) (4 + n) A.a_Line_sums A.fd_Line_sums ["self", "found"] (spOf ⟨K, cl A⟩ 2 (g13 n 2))
  | 0 => ⟨fd_bad, fd_bad, fd_bad⟩
  | n + 1 => by
    obtain ⟨h0, h1, h2⟩ := all_g13 (P := P) (w := w) (base := base) T n
    exact ⟨st_Line_term T h0 h1 h2, st_Line_piece T h0 h1 h2, st_Line_sums T h0 h1 h2⟩
def d_Line_term : List A → AH → Res A := g13 50 0
theorem ok_Line_term {P : Program} {w : World} {K : PySem.W.Frag} {mg : Str → Option Value} {base : Heap} {A : Ads} (T : Txt K mg A) : FnOk P w K mg base (L2.CX P w) 54 A.a_Line_term A.fd_Line_term ["self"] (spOf ⟨K, cl A⟩ 1 d_Line_term) := (all_g13 T 50).1
def d_Line_piece : List A → AH → Res A := g13 50 1
theorem ok_Line_piece {P : Program} {w : World} {K : PySem.W.Frag} {mg : Str → Option Value} {base : Heap} {A : Ads} (T : Txt K mg A) : FnOk P w K mg base (L2.CX P w) 54 A.a_Line_piece A.fd_Line_piece ["self"] (spOf ⟨K, cl A⟩ 1 d_Line_piece) := (all_g13 T 50).2.1
def d_Line_sums : List A → AH → Res A := g13 50 2
theorem ok_Line_sums {P : Program} {w : World} {K : PySem.W.Frag} {mg : Str → Option Value} {base : Heap} {A : Ads} (T : Txt K mg A) : FnOk P w K mg base (L2.CX P w) 54 A.a_Line_sums A.fd_Line_sums ["self", "found"] (spOf ⟨K, cl A⟩ 2 d_Line_sums) := (all_g13 T 50).2.2
def d_Line_must : List A → AH → Res A := defA 4 (aSeq (aAsg (gSq 2 (gsCons (gNm 2) (gsCons (gNm 3) gsNil))) (aVar 1))
    (aSeq (aIfS (aNotT (aTru (aVar 2))) (aExpr (aMethF 0 "refuse" 1 d_Line_refuse (aVar 0) aNil)) aPass)
    (aRet (aVar 3))))
theorem ok_Line_must {P : Program} {w : World} {K : PySem.W.Frag} {mg : Str → Option Value} {base : Heap} {A : Ads} (T : Txt K mg A) : FnOk P w K mg base (L2.CX P w) 4 A.a_Line_must A.fd_Line_must ["self", "pair"] (spOf ⟨K, cl A⟩ 2 d_Line_must) := fd_of (k := 3) T.F_Line_must sc_Line_must (fun cdv Ar outer s H E hr => (db_cons (ds_asg (dv 1) (dg_seq rfl (dgs_cons (dg_name (i := 2) sc_Line_must.nd rfl (by first | exact Or.inl rfl | exact Or.inr rfl)) (dgs_cons (dg_name (i := 3) sc_Line_must.nd rfl (by first | exact Or.inl rfl | exact Or.inr rfl)) dgs_nil))))
      (db_cons (ds_if (dt_not (dt_tru (dv 2) (by intro _; rfl))) (db_one (ds_expr (de_meth0 (C := 0) (dv 0) T.cl_Line T.m_Line_refuse (ok_Line_refuse (P := P) (w := w) (base := base) T) (hr.mono (by first | decide | omega)) T.b_Line_refuse (takes_of rfl rfl rfl rfl)))) db_nil)
      (db_one (ds_ret (dv 3))))))
def d_Line_compared : List A → AH → Res A := defA 3 (aSeq (aIfS (aTru (aMethF 0 "is_next" 2 d_Line_is_next (aVar 0) (aCons (aTup (aCons (aC (.str "<")) (aCons (aC (.str "=")) aNil))) aNil))) (aSeq (aSet 2 (aBin fIx (aDisp (((aC (.str "<")), (aC (.str "below"))) :: (((aC (.str "=")), (aC (.str "same"))) :: []))) (aMethF 0 "taken" 1 d_Line_taken (aVar 0) aNil)))
    (aRet (aTup (aCons (aC (.bl true)) (aCons (aTup (aCons (aVar 2) (aCons (aVar 1) (aCons (aMethF 0 "term" 1 d_Line_term (aVar 0) aNil) aNil)))) aNil))))) aPass)
    (aRet (aTup (aCons (aC (.bl false)) (aCons (aVar 1) aNil)))))
theorem ok_Line_compared {P : Program} {w : World} {K : PySem.W.Frag} {mg : Str → Option Value} {base : Heap} {A : Ads} (T : Txt K mg A) : FnOk P w K mg base (L2.CX P w) 55 A.a_Line_compared A.fd_Line_compared ["self", "found"] (spOf ⟨K, cl A⟩ 2 d_Line_compared) := fd_of (k := 54) T.F_Line_compared sc_Line_compared (fun cdv Ar outer s H E hr => (db_cons (ds_if (dt_tru (de_meth (C := 0) (dv 0) T.cl_Line T.m_Line_is_next (ok_Line_is_next (P := P) (w := w) (base := base) T) (hr.mono (by first | decide | omega)) T.b_Line_is_next (takes_of rfl rfl rfl rfl) (da_cons (de_tup (da_cons de_str (da_cons de_str da_nil))) da_nil)) (by intro _; rfl)) (db_cons (ds_set (i := 2) sc_Line_compared.nd rfl (by first | exact Or.inl rfl | exact Or.inr rfl) (de_ix (hu_of hr) (de_disp (dpp_cons de_str de_str (dpp_cons de_str de_str dpp_nil)) (by rfl) (by rfl) (fun z => by cases z) (by decide)) (de_meth0 (C := 0) (dv 0) T.cl_Line T.m_Line_taken (ok_Line_taken (P := P) (w := w) (base := base) T) (hr.mono (by first | decide | omega)) T.b_Line_taken (takes_of rfl rfl rfl rfl)) (fun _ _ => rfl)))
      (db_one (ds_ret (de_tup (da_cons de_bl (da_cons (de_tup (da_cons (dv 2) (da_cons (dv 1) (da_cons (de_meth0 (C := 0) (dv 0) T.cl_Line T.m_Line_term (ok_Line_term (P := P) (w := w) (base := base) T) (hr.mono (by first | decide | omega)) T.b_Line_term (takes_of rfl rfl rfl rfl)) da_nil)))) da_nil)))))) db_nil)
      (db_one (ds_ret (de_tup (da_cons de_bl (da_cons (dv 1) da_nil)))))))
def w_Line_either_0 (call : Nat → List A → AH → Res A) : AT := (aAnd (aTru (aBin fIx (aVar 1) (aC (.int 0)))) (aTru (aMethF 0 "is_next" 2 d_Line_is_next (aVar 0) (aCons (aTup (aCons (aC (.str "or")) aNil)) aNil))))
def w_Line_either_1 (call : Nat → List A → AH → Res A) : AC := (aSeq (aExpr (aMethF 0 "taken" 1 d_Line_taken (aVar 0) aNil))
    (aSet 1 (aTup (aCons (aC (.bl true)) (aCons (aTup (aCons (aC (.str "either")) (aCons (aBin fIx (aVar 1) (aC (.int 1))) (aCons (aMethF 0 "must" 2 d_Line_must (aVar 0) (aCons (aMethF 0 "both" 1 (call 1) (aVar 0) aNil) aNil)) aNil)))) aNil)))))
def b_Line_either (call : Nat → List A → AH → Res A) : List A → AH → Res A := defA 2 (aSeq (aSet 1 (aMethF 0 "both" 1 (call 1) (aVar 0) aNil))
    (aSeq (aWhile (w_Line_either_0 call) (w_Line_either_1 call) 200)
    (aRet (aVar 1))))
def w_Line_both_0 (call : Nat → List A → AH → Res A) : AT := (aAnd (aTru (aBin fIx (aVar 1) (aC (.int 0)))) (aTru (aMethF 0 "is_next" 2 d_Line_is_next (aVar 0) (aCons (aTup (aCons (aC (.str "and")) aNil)) aNil))))
def w_Line_both_1 (call : Nat → List A → AH → Res A) : AC := (aSeq (aExpr (aMethF 0 "taken" 1 d_Line_taken (aVar 0) aNil))
    (aSet 1 (aTup (aCons (aC (.bl true)) (aCons (aTup (aCons (aC (.str "both")) (aCons (aBin fIx (aVar 1) (aC (.int 1))) (aCons (aMethF 0 "must" 2 d_Line_must (aVar 0) (aCons (aMethF 0 "single" 1 (call 2) (aVar 0) aNil) aNil)) aNil)))) aNil)))))
def b_Line_both (call : Nat → List A → AH → Res A) : List A → AH → Res A := defA 2 (aSeq (aSet 1 (aMethF 0 "single" 1 (call 2) (aVar 0) aNil))
    (aSeq (aWhile (w_Line_both_0 call) (w_Line_both_1 call) 200)
    (aRet (aVar 1))))
def b_Line_single (call : Nat → List A → AH → Res A) : List A → AH → Res A := defA 3 (aSeq (aIfS (aTru (aMethF 0 "is_next" 2 d_Line_is_next (aVar 0) (aCons (aTup (aCons (aC (.str "not")) aNil)) aNil))) (aSeq (aExpr (aMethF 0 "taken" 1 d_Line_taken (aVar 0) aNil))
    (aRet (aTup (aCons (aC (.bl true)) (aCons (aTup (aCons (aC (.str "not")) (aCons (aMethF 0 "must" 2 d_Line_must (aVar 0) (aCons (aMethF 0 "single" 1 (call 2) (aVar 0) aNil) aNil)) aNil))) aNil))))) aPass)
    (aSeq (aIfS (aTru (aMethF 0 "is_next" 2 d_Line_is_next (aVar 0) (aCons (aTup (aCons (aC (.str "yes")) aNil)) aNil))) (aSeq (aExpr (aMethF 0 "taken" 1 d_Line_taken (aVar 0) aNil))
    (aRet (aTup (aCons (aC (.bl true)) (aCons (aTup (aCons (aC (.str "yes")) aNil)) aNil))))) aPass)
    (aSeq (aIfS (aTru (aMethF 0 "is_next" 2 d_Line_is_next (aVar 0) (aCons (aTup (aCons (aC (.str "in")) aNil)) aNil))) (aSeq (aExpr (aMethF 0 "taken" 1 d_Line_taken (aVar 0) aNil))
    (aRet (aTup (aCons (aC (.bl true)) (aCons (aTup (aCons (aC (.str "in")) (aCons (aMethF 0 "a_name" 1 d_Line_a_name (aVar 0) aNil) aNil))) aNil))))) aPass)
    (aSeq (aIfS (aTru (aMethF 0 "is_next" 2 d_Line_is_next (aVar 0) (aCons (aTup (aCons (aC (.str "(")) aNil)) aNil))) (aSeq (aExpr (aMethF 0 "taken" 1 d_Line_taken (aVar 0) aNil))
    (aSeq (aSet 1 (aMethF 0 "either" 1 (call 0) (aVar 0) aNil))
    (aSeq (aExpr (aMethF 0 "want" 2 d_Line_want (aVar 0) (aCons (aTup (aCons (aC (.str ")")) aNil)) aNil)))
    (aSeq (aIfS (aTru (aBin fIx (aVar 1) (aC (.int 0)))) (aRet (aVar 1)) aPass)
    (aSet 2 (aBin fIx (aVar 1) (aC (.int 1)))))))) (aSet 2 (aMethF 0 "piece" 1 d_Line_piece (aVar 0) aNil)))
    (aRet (aMethF 0 "compared" 2 d_Line_compared (aVar 0) (aCons (aMethF 0 "sums" 2 d_Line_sums (aVar 0) (aCons (aVar 2) aNil)) aNil)))))))
def g16 : Nat → Nat → List A → AH → Res A
  | 0, _ => fun _ _ => .bad
  | n + 1, k => match k with
    | 0 => b_Line_either (g16 n)
    | 1 => b_Line_both (g16 n)
    | _ => b_Line_single (g16 n)
theorem st_Line_either {P : Program} {w : World} {K : PySem.W.Frag} {mg : Str → Option Value} {base : Heap} {A : Ads} (T : Txt K mg A) {n : Nat} (G_Line_either : FnOk P w K mg base (L2.CX P w) (55 + n) A.a_Line_either A.fd_Line_either ["self"] (spOf ⟨K, cl A⟩ 1 (g16 n 0))) (G_Line_both : FnOk P w K mg base (L2.CX P w) (55 + n) A.a_Line_both A.fd_Line_both ["self"] (spOf ⟨K, cl A⟩ 1 (g16 n 1))) (G_Line_single : FnOk P w K mg base (L2.CX P w) (55 + n) A.a_Line_single A.fd_Line_single ["self"] (spOf ⟨K, cl A⟩ 1 (g16 n 2))) : FnOk P w K mg base (L2.CX P w) (55 + (n + 1)) A.a_Line_either A.fd_Line_either ["self"] (spOf ⟨K, cl A⟩ 1 (g16 (n + 1) 0)) := fd_of (k := 55 + n) T.F_Line_either sc_Line_either (fun cdv Ar outer s H E hr => (db_cons (ds_set (i := 1) sc_Line_either.nd rfl (by first | exact Or.inl rfl | exact Or.inr rfl) (de_meth0 (C := 0) (dv 0) T.cl_Line T.m_Line_both G_Line_both (hr.mono (by first | decide | omega)) T.b_Line_both (takes_of rfl rfl rfl rfl)))
      (db_cons (ds_while 200 (passes_of rfl) (dt_w (dw_and (dt_tru (de_ix (hu_of hr) (dv 1) de_int (fun _ _ => rfl)) (by intro _; rfl)) (dw_and1 (dt_tru (de_meth (C := 0) (dv 0) T.cl_Line T.m_Line_is_next (ok_Line_is_next (P := P) (w := w) (base := base) T) (hr.mono (by first | decide | omega)) T.b_Line_is_next (takes_of rfl rfl rfl rfl) (da_cons (de_tup (da_cons de_str da_nil)) da_nil)) (by intro _; rfl))))) (db_cons (ds_expr (de_meth0 (C := 0) (dv 0) T.cl_Line T.m_Line_taken (ok_Line_taken (P := P) (w := w) (base := base) T) (hr.mono (by first | decide | omega)) T.b_Line_taken (takes_of rfl rfl rfl rfl)))
      (db_one (ds_set (i := 1) sc_Line_either.nd rfl (by first | exact Or.inl rfl | exact Or.inr rfl) (de_tup (da_cons de_bl (da_cons (de_tup (da_cons de_str (da_cons (de_ix (hu_of hr) (dv 1) de_int (fun _ _ => rfl)) (da_cons (de_meth (C := 0) (dv 0) T.cl_Line T.m_Line_must (ok_Line_must (P := P) (w := w) (base := base) T) (hr.mono (by first | decide | omega)) T.b_Line_must (takes_of rfl rfl rfl rfl) (da_cons (de_meth0 (C := 0) (dv 0) T.cl_Line T.m_Line_both G_Line_both (hr.mono (by first | decide | omega)) T.b_Line_both (takes_of rfl rfl rfl rfl)) da_nil)) da_nil)))) da_nil)))))))
      (db_one (ds_ret (dv 1))))))
theorem st_Line_both {P : Program} {w : World} {K : PySem.W.Frag} {mg : Str → Option Value} {base : Heap} {A : Ads} (T : Txt K mg A) {n : Nat} (G_Line_either : FnOk P w K mg base (L2.CX P w) (55 + n) A.a_Line_either A.fd_Line_either ["self"] (spOf ⟨K, cl A⟩ 1 (g16 n 0))) (G_Line_both : FnOk P w K mg base (L2.CX P w) (55 + n) A.a_Line_both A.fd_Line_both ["self"] (spOf ⟨K, cl A⟩ 1 (g16 n 1))) (G_Line_single : FnOk P w K mg base (L2.CX P w) (55 + n) A.a_Line_single A.fd_Line_single ["self"] (spOf ⟨K, cl A⟩ 1 (g16 n 2))) : FnOk P w K mg base (L2.CX P w) (55 + (n + 1)) A.a_Line_both A.fd_Line_both ["self"] (spOf ⟨K, cl A⟩ 1 (g16 (n + 1) 1)) := fd_of (k := 55 + n) T.F_Line_both sc_Line_both (fun cdv Ar outer s H E hr => (db_cons (ds_set (i := 1) sc_Line_both.nd rfl (by first | exact Or.inl rfl | exact Or.inr rfl) (de_meth0 (C := 0) (dv 0) T.cl_Line T.m_Line_single G_Line_single (hr.mono (by first | decide | omega)) T.b_Line_single (takes_of rfl rfl rfl rfl)))
      (db_cons (ds_while 200 (passes_of rfl) (dt_w (dw_and (dt_tru (de_ix (hu_of hr) (dv 1) de_int (fun _ _ => rfl)) (by intro _; rfl)) (dw_and1 (dt_tru (de_meth (C := 0) (dv 0) T.cl_Line T.m_Line_is_next (ok_Line_is_next (P := P) (w := w) (base := base) T) (hr.mono (by first | decide | omega)) T.b_Line_is_next (takes_of rfl rfl rfl rfl) (da_cons (de_tup (da_cons de_str da_nil)) da_nil)) (by intro _; rfl))))) (db_cons (ds_expr (de_meth0 (C := 0) (dv 0) T.cl_Line T.m_Line_taken (ok_Line_taken (P := P) (w := w) (base := base) T) (hr.mono (by first | decide | omega)) T.b_Line_taken (takes_of rfl rfl rfl rfl)))
      (db_one (ds_set (i := 1) sc_Line_both.nd rfl (by first | exact Or.inl rfl | exact Or.inr rfl) (de_tup (da_cons de_bl (da_cons (de_tup (da_cons de_str (da_cons (de_ix (hu_of hr) (dv 1) de_int (fun _ _ => rfl)) (da_cons (de_meth (C := 0) (dv 0) T.cl_Line T.m_Line_must (ok_Line_must (P := P) (w := w) (base := base) T) (hr.mono (by first | decide | omega)) T.b_Line_must (takes_of rfl rfl rfl rfl) (da_cons (de_meth0 (C := 0) (dv 0) T.cl_Line T.m_Line_single G_Line_single (hr.mono (by first | decide | omega)) T.b_Line_single (takes_of rfl rfl rfl rfl)) da_nil)) da_nil)))) da_nil)))))))
      (db_one (ds_ret (dv 1))))))
theorem st_Line_single {P : Program} {w : World} {K : PySem.W.Frag} {mg : Str → Option Value} {base : Heap} {A : Ads} (T : Txt K mg A) {n : Nat} (G_Line_either : FnOk P w K mg base (L2.CX P w) (55 + n) A.a_Line_either A.fd_Line_either ["self"] (spOf ⟨K, cl A⟩ 1 (g16 n 0))) (G_Line_both : FnOk P w K mg base (L2.CX P w) (55 + n) A.a_Line_both A.fd_Line_both ["self"] (spOf ⟨K, cl A⟩ 1 (g16 n 1))) (G_Line_single : FnOk P w K mg base (L2.CX P w) (55 + n) A.a_Line_single A.fd_Line_single ["self"] (spOf ⟨K, cl A⟩ 1 (g16 n 2))) : FnOk P w K mg base (L2.CX P w) (55 + (n + 1)) A.a_Line_single A.fd_Line_single ["self"] (spOf ⟨K, cl A⟩ 1 (g16 (n + 1) 2)) := fd_of (k := 55 + n) T.F_Line_single sc_Line_single (fun cdv Ar outer s H E hr => (db_cons (ds_if (dt_tru (de_meth (C := 0) (dv 0) T.cl_Line T.m_Line_is_next (ok_Line_is_next (P := P) (w := w) (base := base) T) (hr.mono (by first | decide | omega)) T.b_Line_is_next (takes_of rfl rfl rfl rfl) (da_cons (de_tup (da_cons de_str da_nil)) da_nil)) (by intro _; rfl)) (db_cons (ds_expr (de_meth0 (C := 0) (dv 0) T.cl_Line T.m_Line_taken (ok_Line_taken (P := P) (w := w) (base := base) T) (hr.mono (by first | decide | omega)) T.b_Line_taken (takes_of rfl rfl rfl rfl)))
      (db_one (ds_ret (de_tup (da_cons de_bl (da_cons (de_tup (da_cons de_str (da_cons (de_meth (C := 0) (dv 0) T.cl_Line T.m_Line_must (ok_Line_must (P := P) (w := w) (base := base) T) (hr.mono (by first | decide | omega)) T.b_Line_must (takes_of rfl rfl rfl rfl) (da_cons (de_meth0 (C := 0) (dv 0) T.cl_Line T.m_Line_single G_Line_single (hr.mono (by first | decide | omega)) T.b_Line_single (takes_of rfl rfl rfl rfl)) da_nil)) da_nil))) da_nil)))))) db_nil)
      (db_cons (ds_if (dt_tru (de_meth (C := 0) (dv 0) T.cl_Line T.m_Line_is_next (ok_Line_is_next (P := P) (w := w) (base := base) T) (hr.mono (by first | decide | omega)) T.b_Line_is_next (takes_of rfl rfl rfl rfl) (da_cons (de_tup (da_cons de_str da_nil)) da_nil)) (by intro _; rfl)) (db_cons (ds_expr (de_meth0 (C := 0) (dv 0) T.cl_Line T.m_Line_taken (ok_Line_taken (P := P) (w := w) (base := base) T) (hr.mono (by first | decide | omega)) T.b_Line_taken (takes_of rfl rfl rfl rfl)))
      (db_one (ds_ret (de_tup (da_cons de_bl (da_cons (de_tup (da_cons de_str da_nil)) da_nil)))))) db_nil)
      (db_cons (ds_if (dt_tru (de_meth (C := 0) (dv 0) T.cl_Line T.m_Line_is_next (ok_Line_is_next (P := P) (w := w) (base := base) T) (hr.mono (by first | decide | omega)) T.b_Line_is_next (takes_of rfl rfl rfl rfl) (da_cons (de_tup (da_cons de_str da_nil)) da_nil)) (by intro _; rfl)) (db_cons (ds_expr (de_meth0 (C := 0) (dv 0) T.cl_Line T.m_Line_taken (ok_Line_taken (P := P) (w := w) (base := base) T) (hr.mono (by first | decide | omega)) T.b_Line_taken (takes_of rfl rfl rfl rfl)))
      (db_one (ds_ret (de_tup (da_cons de_bl (da_cons (de_tup (da_cons de_str (da_cons (de_meth0 (C := 0) (dv 0) T.cl_Line T.m_Line_a_name (ok_Line_a_name (P := P) (w := w) (base := base) T) (hr.mono (by first | decide | omega)) T.b_Line_a_name (takes_of rfl rfl rfl rfl)) da_nil))) da_nil)))))) db_nil)
      (db_cons (ds_if (dt_tru (de_meth (C := 0) (dv 0) T.cl_Line T.m_Line_is_next (ok_Line_is_next (P := P) (w := w) (base := base) T) (hr.mono (by first | decide | omega)) T.b_Line_is_next (takes_of rfl rfl rfl rfl) (da_cons (de_tup (da_cons de_str da_nil)) da_nil)) (by intro _; rfl)) (db_cons (ds_expr (de_meth0 (C := 0) (dv 0) T.cl_Line T.m_Line_taken (ok_Line_taken (P := P) (w := w) (base := base) T) (hr.mono (by first | decide | omega)) T.b_Line_taken (takes_of rfl rfl rfl rfl)))
      (db_cons (ds_set (i := 1) sc_Line_single.nd rfl (by first | exact Or.inl rfl | exact Or.inr rfl) (de_meth0 (C := 0) (dv 0) T.cl_Line T.m_Line_either G_Line_either (hr.mono (by first | decide | omega)) T.b_Line_either (takes_of rfl rfl rfl rfl)))
      (db_cons (ds_expr (de_meth (C := 0) (dv 0) T.cl_Line T.m_Line_want (ok_Line_want (P := P) (w := w) (base := base) T) (hr.mono (by first | decide | omega)) T.b_Line_want (takes_of rfl rfl rfl rfl) (da_cons (de_tup (da_cons de_str da_nil)) da_nil)))
      (db_cons (ds_if (dt_tru (de_ix (hu_of hr) (dv 1) de_int (fun _ _ => rfl)) (by intro _; rfl)) (db_one (ds_ret (dv 1))) db_nil)
      (db_one (ds_set (i := 2) sc_Line_single.nd rfl (by first | exact Or.inl rfl | exact Or.inr rfl) (de_ix (hu_of hr) (dv 1) de_int (fun _ _ => rfl)))))))) (db_one (ds_set (i := 2) sc_Line_single.nd rfl (by first | exact Or.inl rfl | exact Or.inr rfl) (de_meth0 (C := 0) (dv 0) T.cl_Line T.m_Line_piece (ok_Line_piece (P := P) (w := w) (base := base) T) (hr.mono (by first | decide | omega)) T.b_Line_piece (takes_of rfl rfl rfl rfl)))))
      (db_one (ds_ret (de_meth (C := 0) (dv 0) T.cl_Line T.m_Line_compared (ok_Line_compared (P := P) (w := w) (base := base) T) (hr.mono (by first | decide | omega)) T.b_Line_compared (takes_of rfl rfl rfl rfl) (da_cons (de_meth (C := 0) (dv 0) T.cl_Line T.m_Line_sums (ok_Line_sums (P := P) (w := w) (base := base) T) (hr.mono (by first | decide | omega)) T.b_Line_sums (takes_of rfl rfl rfl rfl) (da_cons (dv 2) da_nil)) da_nil)))))))))
theorem all_g16 {P : Program} {w : World} {K : PySem.W.Frag} {mg : Str → Option Value} {base : Heap} {A : Ads} (T : Txt K mg A) : ∀ n : Nat, FnOk P w K mg base (L2.CX P w) (55 + n) A.a_Line_either A.fd_Line_either ["self"] (spOf ⟨K, cl A⟩ 1 (g16 n 0)) ∧ FnOk P w K mg base (L2.CX P w) (55 + n) A.a_Line_both A.fd_Line_both ["self"] (spOf ⟨K, cl A⟩ 1 (g16 n 1)) ∧ FnOk P w K mg base (L2.CX P w) (55 + n) A.a_Line_single A.fd_Line_single ["self"] (spOf ⟨K, cl A⟩ 1 (g16 n 2))
  | 0 => ⟨fd_bad, fd_bad, fd_bad⟩
  | n + 1 => by
    obtain ⟨h0, h1, h2⟩ := all_g16 (P := P) (w := w) (base := base) T n
    exact ⟨st_Line_either T h0 h1 h2, st_Line_both T h0 h1 h2, st_Line_single T h0 h1 h2⟩
def d_Line_either : List A → AH → Res A := g16 50 0
theorem ok_Line_either {P : Program} {w : World} {K : PySem.W.Frag} {mg : Str → Option Value} {base : Heap} {A : Ads} (T : Txt K mg A) : FnOk P w K mg base (L2.CX P w) 105 A.a_Line_either A.fd_Line_either ["self"] (spOf ⟨K, cl A⟩ 1 d_Line_either) := (all_g16 T 50).1
def d_Line_both : List A → AH → Res A := g16 50 1
theorem ok_Line_both {P : Program} {w : World} {K : PySem.W.Frag} {mg : Str → Option Value} {base : Heap} {A : Ads} (T : Txt K mg A) : FnOk P w K mg base (L2.CX P w) 105 A.a_Line_both A.fd_Line_both ["self"] (spOf ⟨K, cl A⟩ 1 d_Line_both) := (all_g16 T 50).2.1
def d_Line_single : List A → AH → Res A := g16 50 2
theorem ok_Line_single {P : Program} {w : World} {K : PySem.W.Frag} {mg : Str → Option Value} {base : Heap} {A : Ads} (T : Txt K mg A) : FnOk P w K mg base (L2.CX P w) 105 A.a_Line_single A.fd_Line_single ["self"] (spOf ⟨K, cl A⟩ 1 d_Line_single) := (all_g16 T 50).2.2
def d_Line_guard : List A → AH → Res A := defA 1 (aRet (aMethF 0 "must" 2 d_Line_must (aVar 0) (aCons (aMethF 0 "either" 1 d_Line_either (aVar 0) aNil) aNil)))
theorem ok_Line_guard {P : Program} {w : World} {K : PySem.W.Frag} {mg : Str → Option Value} {base : Heap} {A : Ads} (T : Txt K mg A) : FnOk P w K mg base (L2.CX P w) 106 A.a_Line_guard A.fd_Line_guard ["self"] (spOf ⟨K, cl A⟩ 1 d_Line_guard) := fd_of (k := 105) T.F_Line_guard sc_Line_guard (fun cdv Ar outer s H E hr => (db_one (ds_ret (de_meth (C := 0) (dv 0) T.cl_Line T.m_Line_must (ok_Line_must (P := P) (w := w) (base := base) T) (hr.mono (by first | decide | omega)) T.b_Line_must (takes_of rfl rfl rfl rfl) (da_cons (de_meth0 (C := 0) (dv 0) T.cl_Line T.m_Line_either (ok_Line_either (P := P) (w := w) (base := base) T) (hr.mono (by first | decide | omega)) T.b_Line_either (takes_of rfl rfl rfl rfl)) da_nil)))))
def d_Line_a_deed : List A → AH → Res A := defA 3 (aSeq (aSet 1 (aMethF 0 "want" 2 d_Line_want (aVar 0) (aCons (aTup (aCons (aC (.str "set")) (aCons (aC (.str "raise")) (aCons (aC (.str "say")) aNil)))) aNil)))
    (aSeq (aSet 2 (aMethF 0 "a_name" 1 d_Line_a_name (aVar 0) aNil))
    (aRet (aIf (aTest (aBin (eqA false) (aVar 1) (aC (.str "raise")))) (aTup (aCons (aVar 1) (aCons (aVar 2) aNil))) (aTup (aCons (aVar 1) (aCons (aVar 2) (aCons (aMethF 0 "term" 1 d_Line_term (aVar 0) aNil) aNil))))))))
theorem ok_Line_a_deed {P : Program} {w : World} {K : PySem.W.Frag} {mg : Str → Option Value} {base : Heap} {A : Ads} (T : Txt K mg A) : FnOk P w K mg base (L2.CX P w) 55 A.a_Line_a_deed A.fd_Line_a_deed ["self"] (spOf ⟨K, cl A⟩ 1 d_Line_a_deed) := fd_of (k := 54) T.F_Line_a_deed sc_Line_a_deed (fun cdv Ar outer s H E hr => (db_cons (ds_set (i := 1) sc_Line_a_deed.nd rfl (by first | exact Or.inl rfl | exact Or.inr rfl) (de_meth (C := 0) (dv 0) T.cl_Line T.m_Line_want (ok_Line_want (P := P) (w := w) (base := base) T) (hr.mono (by first | decide | omega)) T.b_Line_want (takes_of rfl rfl rfl rfl) (da_cons (de_tup (da_cons de_str (da_cons de_str (da_cons de_str da_nil)))) da_nil)))
      (db_cons (ds_set (i := 2) sc_Line_a_deed.nd rfl (by first | exact Or.inl rfl | exact Or.inr rfl) (de_meth0 (C := 0) (dv 0) T.cl_Line T.m_Line_a_name (ok_Line_a_name (P := P) (w := w) (base := base) T) (hr.mono (by first | decide | omega)) T.b_Line_a_name (takes_of rfl rfl rfl rfl)))
      (db_one (ds_ret (de_if (dt_cmp (op_eqU hr.units) sim_eq (dv 1) de_str (nomark _)) (de_tup (da_cons (dv 1) (da_cons (dv 2) da_nil))) (de_tup (da_cons (dv 1) (da_cons (dv 2) (da_cons (de_meth0 (C := 0) (dv 0) T.cl_Line T.m_Line_term (ok_Line_term (P := P) (w := w) (base := base) T) (hr.mono (by first | decide | omega)) T.b_Line_term (takes_of rfl rfl rfl rfl)) da_nil))))))))))
def w_Line_some_deeds_0 : AT := (aTru (aMethF 0 "is_next" 2 d_Line_is_next (aVar 0) (aCons (aTup (aCons (aC (.str ",")) aNil)) aNil)))
def w_Line_some_deeds_1 : AC := (aSeq (aExpr (aMethF 0 "taken" 1 d_Line_taken (aVar 0) aNil))
    (aExpr (aBM "list" mAppend (aVar 1) (aCons (aMethF 0 "a_deed" 1 d_Line_a_deed (aVar 0) aNil) aNil))))
def d_Line_some_deeds : List A → AH → Res A := defA 2 (aSeq (aSet 1 (aLst (aCons (aMethF 0 "a_deed" 1 d_Line_a_deed (aVar 0) aNil) aNil)))
    (aSeq (aWhile w_Line_some_deeds_0 w_Line_some_deeds_1 200)
    (aRet (aCall cTup (aCons (aVar 1) aNil)))))
theorem ok_Line_some_deeds {P : Program} {w : World} {K : PySem.W.Frag} {mg : Str → Option Value} {base : Heap} {A : Ads} (T : Txt K mg A) : FnOk P w K mg base (L2.CX P w) 56 A.a_Line_some_deeds A.fd_Line_some_deeds ["self"] (spOf ⟨K, cl A⟩ 1 d_Line_some_deeds) := fd_of (k := 55) T.F_Line_some_deeds sc_Line_some_deeds (fun cdv Ar outer s H E hr => (db_cons (ds_set (i := 1) sc_Line_some_deeds.nd rfl (by first | exact Or.inl rfl | exact Or.inr rfl) (de_lst (da_cons (de_meth0 (C := 0) (dv 0) T.cl_Line T.m_Line_a_deed (ok_Line_a_deed (P := P) (w := w) (base := base) T) (hr.mono (by first | decide | omega)) T.b_Line_a_deed (takes_of rfl rfl rfl rfl)) da_nil)))
      (db_cons (ds_while 200 (passes_of rfl) (dt_tru (de_meth (C := 0) (dv 0) T.cl_Line T.m_Line_is_next (ok_Line_is_next (P := P) (w := w) (base := base) T) (hr.mono (by first | decide | omega)) T.b_Line_is_next (takes_of rfl rfl rfl rfl) (da_cons (de_tup (da_cons de_str da_nil)) da_nil)) (by intro _; rfl)) (db_cons (ds_expr (de_meth0 (C := 0) (dv 0) T.cl_Line T.m_Line_taken (ok_Line_taken (P := P) (w := w) (base := base) T) (hr.mono (by first | decide | omega)) T.b_Line_taken (takes_of rfl rfl rfl rfl)))
      (db_one (ds_expr (de_bm sim_append PySem.F.plainAttrs_list PySem.F.slot_list_append PySem.F.type_list_append mt_append (dv 1) (da_cons (de_meth0 (C := 0) (dv 0) T.cl_Line T.m_Line_a_deed (ok_Line_a_deed (P := P) (w := w) (base := base) T) (hr.mono (by first | decide | omega)) T.b_Line_a_deed (takes_of rfl rfl rfl rfl)) da_nil))))))
      (db_one (ds_ret (de_callTy sim_tupC call_tuple_of (by rfl) T.n_tuple (by decide +kernel) (da_cons (dv 1) da_nil)))))))
def w_Line_goals_0 : AT := (aTru (aMethF 0 "is_next" 2 d_Line_is_next (aVar 0) (aCons (aTup (aCons (aC (.str ",")) aNil)) aNil)))
def w_Line_goals_1 : AC := (aSeq (aExpr (aMethF 0 "taken" 1 d_Line_taken (aVar 0) aNil))
    (aExpr (aBM "list" mAppend (aVar 1) (aCons (aMethF 0 "a_name" 1 d_Line_a_name (aVar 0) aNil) aNil))))
def d_Line_goals : List A → AH → Res A := defA 2 (aSeq (aSet 1 (aLst (aCons (aMethF 0 "a_name" 1 d_Line_a_name (aVar 0) aNil) aNil)))
    (aSeq (aWhile w_Line_goals_0 w_Line_goals_1 200)
    (aRet (aCall cTup (aCons (aVar 1) aNil)))))
theorem ok_Line_goals {P : Program} {w : World} {K : PySem.W.Frag} {mg : Str → Option Value} {base : Heap} {A : Ads} (T : Txt K mg A) : FnOk P w K mg base (L2.CX P w) 5 A.a_Line_goals A.fd_Line_goals ["self"] (spOf ⟨K, cl A⟩ 1 d_Line_goals) := fd_of (k := 4) T.F_Line_goals sc_Line_goals (fun cdv Ar outer s H E hr => (db_cons (ds_set (i := 1) sc_Line_goals.nd rfl (by first | exact Or.inl rfl | exact Or.inr rfl) (de_lst (da_cons (de_meth0 (C := 0) (dv 0) T.cl_Line T.m_Line_a_name (ok_Line_a_name (P := P) (w := w) (base := base) T) (hr.mono (by first | decide | omega)) T.b_Line_a_name (takes_of rfl rfl rfl rfl)) da_nil)))
      (db_cons (ds_while 200 (passes_of rfl) (dt_tru (de_meth (C := 0) (dv 0) T.cl_Line T.m_Line_is_next (ok_Line_is_next (P := P) (w := w) (base := base) T) (hr.mono (by first | decide | omega)) T.b_Line_is_next (takes_of rfl rfl rfl rfl) (da_cons (de_tup (da_cons de_str da_nil)) da_nil)) (by intro _; rfl)) (db_cons (ds_expr (de_meth0 (C := 0) (dv 0) T.cl_Line T.m_Line_taken (ok_Line_taken (P := P) (w := w) (base := base) T) (hr.mono (by first | decide | omega)) T.b_Line_taken (takes_of rfl rfl rfl rfl)))
      (db_one (ds_expr (de_bm sim_append PySem.F.plainAttrs_list PySem.F.slot_list_append PySem.F.type_list_append mt_append (dv 1) (da_cons (de_meth0 (C := 0) (dv 0) T.cl_Line T.m_Line_a_name (ok_Line_a_name (P := P) (w := w) (base := base) T) (hr.mono (by first | decide | omega)) T.b_Line_a_name (takes_of rfl rfl rfl rfl)) da_nil))))))
      (db_one (ds_ret (de_callTy sim_tupC call_tuple_of (by rfl) T.n_tuple (by decide +kernel) (da_cons (dv 1) da_nil)))))))
def w_Reading___init___0 : AC := (aIfS (aAnd (aTest (aBin (eqA true) (aBM "str" mStrip (aVar 3) (aCons (aC (.str " ")) aNil)) (aC (.str "")))) (aNotT (aTru (aBM "str" mStarts (aBM "str" mLstrip (aVar 3) (aCons (aC (.str " ")) aNil)) (aCons (aC (.str "--")) aNil))))) (aExpr (aBM "list" mAppend (aUn (fFld [1] "lines") (aVar 0)) (aCons (aMakeF 0 3 d_Line___init__ (aCons (aBin fAdd (aVar 2) (aC (.int 1))) (aCons (aVar 3) aNil))) aNil))) aPass)
def d_Reading___init__ : List A → AH → Res A := defA 4 (aSeq (aFldS [1] "lines" (aVar 0) (aLst aNil))
    (aSeq (aFor (aEnum (aCons (aVar 1) aNil)) (gSq 2 (gsCons (gNm 2) (gsCons (gNm 3) gsNil))) w_Reading___init___0 200)
    (aSeq (aFldS [1] "end" (aVar 0) (aBin fAdd (aCall cLen (aCons (aVar 1) aNil)) (aC (.int 1))))
    (aSeq (aFldS [1] "at" (aVar 0) (aC (.int 0)))
    (aFldS [1] "noted" (aVar 0) (aLst aNil))))))
theorem ok_Reading___init__ {P : Program} {w : World} {K : PySem.W.Frag} {mg : Str → Option Value} {base : Heap} {A : Ads} (T : Txt K mg A) : FnOk P w K mg base (L2.CX P w) 7 A.a_Reading___init__ A.fd_Reading___init__ ["self", "rows"] (spOf ⟨K, cl A⟩ 2 d_Reading___init__) := fd_of (k := 6) T.F_Reading___init__ sc_Reading___init__ (fun cdv Ar outer s H E hr => (db_cons (ds_fld (fl_lines T) (dv 0) (de_lst da_nil) rfl)
      (db_cons (ds_for 200 (passes_of rfl) rfl (di_enum (by rfl) T.n_enumerate (da_cons (dv 1) da_nil)) (dg_seq rfl (dgs_cons (dg_name (i := 2) sc_Reading___init__.nd rfl (by first | exact Or.inl rfl | exact Or.inr rfl)) (dgs_cons (dg_name (i := 3) sc_Reading___init__.nd rfl (by first | exact Or.inl rfl | exact Or.inr rfl)) dgs_nil))) (db_one (ds_if (dt_w (dw_and (dt_cmp (op_neU hr.units) sim_eq (de_bm sim_strip PySem.F.plainAttrs_str PySem.F.slot_str_strip PySem.F.type_str_strip mt_stripChars (dv 3) (da_cons de_str da_nil)) de_str (nomark _)) (dw_and1 (dt_not (dt_tru (de_bm sim_starts PySem.F.plainAttrs_str PySem.F.slot_str_startswith PySem.F.type_str_startswith mt_startswith (de_bm sim_lstrip PySem.F.plainAttrs_str PySem.F.slot_str_lstrip PySem.F.type_str_lstrip mt_lstripChars (dv 3) (da_cons de_str da_nil)) (da_cons de_str da_nil)) (by intro _; rfl)))))) (db_one (ds_expr (de_bm sim_append PySem.F.plainAttrs_list PySem.F.slot_list_append PySem.F.type_list_append mt_append (de_fld (fl_lines T) (dv 0) rfl) (da_cons (de_make (C := 0) T.mk_Line (ok_Line___init__ (P := P) (w := w) (base := base) T) (hr.mono (by first | decide | omega)) rfl T.g_Line T.b_Line___init__ (takes_of rfl rfl rfl rfl) (da_cons (de_op op_addU sim_add (dv 2) de_int) (da_cons (dv 3) da_nil))) da_nil)))) db_nil)))
      (db_cons (ds_fld (fl_end T) (dv 0) (de_op op_addU sim_add (de_callB sim_len call_lenU (by rfl) T.n_len (by decide +kernel) (da_cons (dv 1) da_nil)) de_int) rfl)
      (db_cons (ds_fld (fl_at T) (dv 0) de_int rfl)
      (db_one (ds_fld (fl_noted T) (dv 0) (de_lst da_nil) rfl)))))))
def d_Reading_here : List A → AH → Res A := defA 1 (aSeq (aIfS (aTest (aBin (eqA false) (aUn (fFld [1] "at") (aVar 0)) (aCall cLen (aCons (aUn (fFld [1] "lines") (aVar 0)) aNil)))) (aRaise2 2 "row" "column" (aCons (aUn (fFld [1] "end") (aVar 0)) (aCons (aC (.int 1)) aNil))) aPass)
    (aRet (aBin fIx (aUn (fFld [1] "lines") (aVar 0)) (aUn (fFld [1] "at") (aVar 0)))))
theorem ok_Reading_here {P : Program} {w : World} {K : PySem.W.Frag} {mg : Str → Option Value} {base : Heap} {A : Ads} (T : Txt K mg A) : FnOk P w K mg base (L2.CX P w) 3 A.a_Reading_here A.fd_Reading_here ["self"] (spOf ⟨K, cl A⟩ 1 d_Reading_here) := fd_of (k := 2) T.F_Reading_here sc_Reading_here (fun cdv Ar outer s H E hr => (db_cons (ds_if (dt_cmp (op_eqU hr.units) sim_eq (de_fld (fl_at T) (dv 0) rfl) (de_callB sim_len call_lenU (by rfl) T.n_len (by decide +kernel) (da_cons (de_fld (fl_lines T) (dv 0) rfl) da_nil)) (nomark _)) (db_one (ds_raise2 (x_NoText T) rfl (takes_of rfl rfl rfl rfl) (hr.mono (by first | decide | omega)) rfl (da_cons (de_fld (fl_end T) (dv 0) rfl) (da_cons de_int da_nil)))) db_nil)
      (db_one (ds_ret (de_ix (hu_of hr) (de_fld (fl_lines T) (dv 0) rfl) (de_fld (fl_at T) (dv 0) rfl) (fun _ _ => rfl))))))
def d_Reading_next_blanks : List A → AH → Res A := defA 1 (aRet (aIf (aTest (aBin fLt (aUn (fFld [1] "at") (aVar 0)) (aCall cLen (aCons (aUn (fFld [1] "lines") (aVar 0)) aNil)))) (aUn (fFld [0] "blanks") (aBin fIx (aUn (fFld [1] "lines") (aVar 0)) (aUn (fFld [1] "at") (aVar 0)))) (aC .non)))
theorem ok_Reading_next_blanks {P : Program} {w : World} {K : PySem.W.Frag} {mg : Str → Option Value} {base : Heap} {A : Ads} (T : Txt K mg A) : FnOk P w K mg base (L2.CX P w) 2 A.a_Reading_next_blanks A.fd_Reading_next_blanks ["self"] (spOf ⟨K, cl A⟩ 1 d_Reading_next_blanks) := fd_of (k := 1) T.F_Reading_next_blanks sc_Reading_next_blanks (fun cdv Ar outer s H E hr => (db_one (ds_ret (de_if (dt_cmp op_lt sim_lt (de_fld (fl_at T) (dv 0) rfl) (de_callB sim_len call_lenU (by rfl) T.n_len (by decide +kernel) (da_cons (de_fld (fl_lines T) (dv 0) rfl) da_nil)) (nomark _)) (de_fld (fl_blanks T) (de_ix (hu_of hr) (de_fld (fl_lines T) (dv 0) rfl) (de_fld (fl_at T) (dv 0) rfl) (fun _ _ => rfl)) rfl) de_non))))
def d_Reading_finished : List A → AH → Res A := defA 2 (aSeq (aExpr (aMethF 0 "ends" 1 d_Line_ends (aVar 1) aNil))
    (aFldI 1 "at" (fun i j => i + j) (aVar 0) (aC (.int 1))))
theorem ok_Reading_finished {P : Program} {w : World} {K : PySem.W.Frag} {mg : Str → Option Value} {base : Heap} {A : Ads} (T : Txt K mg A) : FnOk P w K mg base (L2.CX P w) 5 A.a_Reading_finished A.fd_Reading_finished ["self", "line"] (spOf ⟨K, cl A⟩ 2 d_Reading_finished) := fd_of (k := 4) T.F_Reading_finished sc_Reading_finished (fun cdv Ar outer s H E hr => (db_cons (ds_expr (de_meth0 (C := 0) (dv 1) T.cl_Line T.m_Line_ends (ok_Line_ends (P := P) (w := w) (base := base) T) (hr.mono (by first | decide | omega)) T.b_Line_ends (takes_of rfl rfl rfl rfl)))
      (db_one (ds_fldI (g := (fun i j => i + j)) (fl_at T) in_add (dv 0) de_int))))
def d_Reading_flush : List A → AH → Res A := defA 2 (aSeq (aSet 1 (aMethF 1 "here" 1 d_Reading_here (aVar 0) aNil))
    (aSeq (aIfS (aTest (aBin fGt (aUn (fFld [0] "blanks") (aVar 1)) (aC (.int 0)))) (aRaise2 2 "row" "column" (aCons (aUn (fFld [0] "number") (aVar 1)) (aCons (aC (.int 1)) aNil))) aPass)
    (aRet (aVar 1))))
theorem ok_Reading_flush {P : Program} {w : World} {K : PySem.W.Frag} {mg : Str → Option Value} {base : Heap} {A : Ads} (T : Txt K mg A) : FnOk P w K mg base (L2.CX P w) 4 A.a_Reading_flush A.fd_Reading_flush ["self"] (spOf ⟨K, cl A⟩ 1 d_Reading_flush) := fd_of (k := 3) T.F_Reading_flush sc_Reading_flush (fun cdv Ar outer s H E hr => (db_cons (ds_set (i := 1) sc_Reading_flush.nd rfl (by first | exact Or.inl rfl | exact Or.inr rfl) (de_meth0 (C := 1) (dv 0) T.cl_Reading T.m_Reading_here (ok_Reading_here (P := P) (w := w) (base := base) T) (hr.mono (by first | decide | omega)) T.b_Reading_here (takes_of rfl rfl rfl rfl)))
      (db_cons (ds_if (dt_cmp op_gt sim_gt (de_fld (fl_blanks T) (dv 1) rfl) de_int (nomark _)) (db_one (ds_raise2 (x_NoText T) rfl (takes_of rfl rfl rfl rfl) (hr.mono (by first | decide | omega)) rfl (da_cons (de_fld (fl_number T) (dv 1) rfl) (da_cons de_int da_nil)))) db_nil)
      (db_one (ds_ret (dv 1))))))
def d_Reading_a_move : List A → AH → Res A := defA 7 (aSeq (aSet 1 (aMethF 1 "here" 1 d_Reading_here (aVar 0) aNil))
    (aSeq (aExpr (aMethF 0 "taken" 1 d_Line_taken (aVar 1) aNil))
    (aSeq (aSet 2 (aMethF 0 "want" 2 d_Line_want (aVar 1) (aCons (aTup (aCons (aC (.str "on")) (aCons (aC (.str "after")) (aCons (aC (.str "done")) aNil)))) aNil)))
    (aSeq (aSet 3 (aTup (aCons (aVar 2) aNil)))
    (aSeq (aIfS (aTest (aBin (eqA false) (aVar 2) (aC (.str "on")))) (aSet 3 (aTup (aCons (aVar 2) (aCons (aMethF 0 "a_name" 1 d_Line_a_name (aVar 1) aNil) aNil)))) (aIfS (aTest (aBin (eqA false) (aVar 2) (aC (.str "after")))) (aSet 3 (aTup (aCons (aVar 2) (aCons (aMethF 0 "whole" 1 d_Line_whole (aVar 1) aNil) aNil)))) aPass))
    (aSeq (aAsg (gSq 3 (gsCons (gNm 4) (gsCons (gNm 5) (gsCons (gNm 6) gsNil)))) (aTup (aCons (aTup (aCons (aC (.str "yes")) aNil)) (aCons (aTup aNil) (aCons (aTup aNil) aNil)))))
    (aSeq (aIfS (aTru (aMethF 0 "is_next" 2 d_Line_is_next (aVar 1) (aCons (aTup (aCons (aC (.str "if")) aNil)) aNil))) (aSeq (aExpr (aMethF 0 "taken" 1 d_Line_taken (aVar 1) aNil))
    (aSet 4 (aMethF 0 "guard" 1 d_Line_guard (aVar 1) aNil))) aPass)
    (aSeq (aIfS (aTru (aMethF 0 "is_next" 2 d_Line_is_next (aVar 1) (aCons (aTup (aCons (aC (.str "do")) aNil)) aNil))) (aSeq (aExpr (aMethF 0 "taken" 1 d_Line_taken (aVar 1) aNil))
    (aSet 5 (aMethF 0 "some_deeds" 1 d_Line_some_deeds (aVar 1) aNil))) aPass)
    (aSeq (aIfS (aTru (aMethF 0 "is_next" 2 d_Line_is_next (aVar 1) (aCons (aTup (aCons (aC (.str "to")) aNil)) aNil))) (aSeq (aExpr (aMethF 0 "taken" 1 d_Line_taken (aVar 1) aNil))
    (aSet 6 (aMethF 0 "goals" 1 d_Line_goals (aVar 1) aNil))) aPass)
    (aSeq (aExpr (aMethF 1 "finished" 2 d_Reading_finished (aVar 0) (aCons (aVar 1) aNil)))
    (aRet (aTup (aCons (aVar 3) (aCons (aVar 4) (aCons (aVar 5) (aCons (aVar 6) aNil))))))))))))))))
theorem ok_Reading_a_move {P : Program} {w : World} {K : PySem.W.Frag} {mg : Str → Option Value} {base : Heap} {A : Ads} (T : Txt K mg A) : FnOk P w K mg base (L2.CX P w) 107 A.a_Reading_a_move A.fd_Reading_a_move ["self"] (spOf ⟨K, cl A⟩ 1 d_Reading_a_move) := fd_of (k := 106) T.F_Reading_a_move sc_Reading_a_move (fun cdv Ar outer s H E hr => (db_cons (ds_set (i := 1) sc_Reading_a_move.nd rfl (by first | exact Or.inl rfl | exact Or.inr rfl) (de_meth0 (C := 1) (dv 0) T.cl_Reading T.m_Reading_here (ok_Reading_here (P := P) (w := w) (base := base) T) (hr.mono (by first | decide | omega)) T.b_Reading_here (takes_of rfl rfl rfl rfl)))
      (db_cons (ds_expr (de_meth0 (C := 0) (dv 1) T.cl_Line T.m_Line_taken (ok_Line_taken (P := P) (w := w) (base := base) T) (hr.mono (by first | decide | omega)) T.b_Line_taken (takes_of rfl rfl rfl rfl)))
      (db_cons (ds_set (i := 2) sc_Reading_a_move.nd rfl (by first | exact Or.inl rfl | exact Or.inr rfl) (de_meth (C := 0) (dv 1) T.cl_Line T.m_Line_want (ok_Line_want (P := P) (w := w) (base := base) T) (hr.mono (by first | decide | omega)) T.b_Line_want (takes_of rfl rfl rfl rfl) (da_cons (de_tup (da_cons de_str (da_cons de_str (da_cons de_str da_nil)))) da_nil)))
      (db_cons (ds_set (i := 3) sc_Reading_a_move.nd rfl (by first | exact Or.inl rfl | exact Or.inr rfl) (de_tup (da_cons (dv 2) da_nil)))
      (db_cons (ds_if (dt_cmp (op_eqU hr.units) sim_eq (dv 2) de_str (nomark _)) (db_one (ds_set (i := 3) sc_Reading_a_move.nd rfl (by first | exact Or.inl rfl | exact Or.inr rfl) (de_tup (da_cons (dv 2) (da_cons (de_meth0 (C := 0) (dv 1) T.cl_Line T.m_Line_a_name (ok_Line_a_name (P := P) (w := w) (base := base) T) (hr.mono (by first | decide | omega)) T.b_Line_a_name (takes_of rfl rfl rfl rfl)) da_nil))))) (db_one (ds_if (dt_cmp (op_eqU hr.units) sim_eq (dv 2) de_str (nomark _)) (db_one (ds_set (i := 3) sc_Reading_a_move.nd rfl (by first | exact Or.inl rfl | exact Or.inr rfl) (de_tup (da_cons (dv 2) (da_cons (de_meth0 (C := 0) (dv 1) T.cl_Line T.m_Line_whole (ok_Line_whole (P := P) (w := w) (base := base) T) (hr.mono (by first | decide | omega)) T.b_Line_whole (takes_of rfl rfl rfl rfl)) da_nil))))) db_nil)))
      (db_cons (ds_asg (de_tup (da_cons (de_tup (da_cons de_str da_nil)) (da_cons (de_tup da_nil) (da_cons (de_tup da_nil) da_nil)))) (dg_seq rfl (dgs_cons (dg_name (i := 4) sc_Reading_a_move.nd rfl (by first | exact Or.inl rfl | exact Or.inr rfl)) (dgs_cons (dg_name (i := 5) sc_Reading_a_move.nd rfl (by first | exact Or.inl rfl | exact Or.inr rfl)) (dgs_cons (dg_name (i := 6) sc_Reading_a_move.nd rfl (by first | exact Or.inl rfl | exact Or.inr rfl)) dgs_nil)))))
      (db_cons (ds_if (dt_tru (de_meth (C := 0) (dv 1) T.cl_Line T.m_Line_is_next (ok_Line_is_next (P := P) (w := w) (base := base) T) (hr.mono (by first | decide | omega)) T.b_Line_is_next (takes_of rfl rfl rfl rfl) (da_cons (de_tup (da_cons de_str da_nil)) da_nil)) (by intro _; rfl)) (db_cons (ds_expr (de_meth0 (C := 0) (dv 1) T.cl_Line T.m_Line_taken (ok_Line_taken (P := P) (w := w) (base := base) T) (hr.mono (by first | decide | omega)) T.b_Line_taken (takes_of rfl rfl rfl rfl)))
      (db_one (ds_set (i := 4) sc_Reading_a_move.nd rfl (by first | exact Or.inl rfl | exact Or.inr rfl) (de_meth0 (C := 0) (dv 1) T.cl_Line T.m_Line_guard (ok_Line_guard (P := P) (w := w) (base := base) T) (hr.mono (by first | decide | omega)) T.b_Line_guard (takes_of rfl rfl rfl rfl))))) db_nil)
      (db_cons (ds_if (dt_tru (de_meth (C := 0) (dv 1) T.cl_Line T.m_Line_is_next (ok_Line_is_next (P := P) (w := w) (base := base) T) (hr.mono (by first | decide | omega)) T.b_Line_is_next (takes_of rfl rfl rfl rfl) (da_cons (de_tup (da_cons de_str da_nil)) da_nil)) (by intro _; rfl)) (db_cons (ds_expr (de_meth0 (C := 0) (dv 1) T.cl_Line T.m_Line_taken (ok_Line_taken (P := P) (w := w) (base := base) T) (hr.mono (by first | decide | omega)) T.b_Line_taken (takes_of rfl rfl rfl rfl)))
      (db_one (ds_set (i := 5) sc_Reading_a_move.nd rfl (by first | exact Or.inl rfl | exact Or.inr rfl) (de_meth0 (C := 0) (dv 1) T.cl_Line T.m_Line_some_deeds (ok_Line_some_deeds (P := P) (w := w) (base := base) T) (hr.mono (by first | decide | omega)) T.b_Line_some_deeds (takes_of rfl rfl rfl rfl))))) db_nil)
      (db_cons (ds_if (dt_tru (de_meth (C := 0) (dv 1) T.cl_Line T.m_Line_is_next (ok_Line_is_next (P := P) (w := w) (base := base) T) (hr.mono (by first | decide | omega)) T.b_Line_is_next (takes_of rfl rfl rfl rfl) (da_cons (de_tup (da_cons de_str da_nil)) da_nil)) (by intro _; rfl)) (db_cons (ds_expr (de_meth0 (C := 0) (dv 1) T.cl_Line T.m_Line_taken (ok_Line_taken (P := P) (w := w) (base := base) T) (hr.mono (by first | decide | omega)) T.b_Line_taken (takes_of rfl rfl rfl rfl)))
      (db_one (ds_set (i := 6) sc_Reading_a_move.nd rfl (by first | exact Or.inl rfl | exact Or.inr rfl) (de_meth0 (C := 0) (dv 1) T.cl_Line T.m_Line_goals (ok_Line_goals (P := P) (w := w) (base := base) T) (hr.mono (by first | decide | omega)) T.b_Line_goals (takes_of rfl rfl rfl rfl))))) db_nil)
      (db_cons (ds_expr (de_meth (C := 1) (dv 0) T.cl_Reading T.m_Reading_finished (ok_Reading_finished (P := P) (w := w) (base := base) T) (hr.mono (by first | decide | omega)) T.b_Reading_finished (takes_of rfl rfl rfl rfl) (da_cons (dv 1) da_nil)))
      (db_one (ds_ret (de_tup (da_cons (dv 3) (da_cons (dv 4) (da_cons (dv 5) (da_cons (dv 6) da_nil))))))))))))))))))
def d_Reading_is_below : List A → AH → Res A := defA 4 (aSeq (aSet 3 (aMethF 1 "next_blanks" 1 d_Reading_next_blanks (aVar 0) aNil))
    (aSeq (aIfS (aTest (aBin (isA false) (aVar 3) (aC .non))) (aRet (aC (.bl false))) aPass)
    (aSeq (aIfS (aTest (aBin (eqA false) (aVar 3) (aVar 2))) (aRet (aC (.bl true))) aPass)
    (aSeq (aIfS (aOr (aTest (aBin fGt (aVar 3) (aVar 1))) (aTest (aBin (eqA false) (aBin fMod (aVar 3) (aC (.int 2))) (aC (.int 1))))) (aRaise2 2 "row" "column" (aCons (aUn (fFld [0] "number") (aMethF 1 "here" 1 d_Reading_here (aVar 0) aNil)) (aCons (aC (.int 1)) aNil))) aPass)
    (aRet (aC (.bl false)))))))
theorem ok_Reading_is_below {P : Program} {w : World} {K : PySem.W.Frag} {mg : Str → Option Value} {base : Heap} {A : Ads} (T : Txt K mg A) : FnOk P w K mg base (L2.CX P w) 4 A.a_Reading_is_below A.fd_Reading_is_below ["self", "blanks", "below"] (spOf ⟨K, cl A⟩ 3 d_Reading_is_below) := fd_of (k := 3) T.F_Reading_is_below sc_Reading_is_below (fun cdv Ar outer s H E hr => (db_cons (ds_set (i := 3) sc_Reading_is_below.nd rfl (by first | exact Or.inl rfl | exact Or.inr rfl) (de_meth0 (C := 1) (dv 0) T.cl_Reading T.m_Reading_next_blanks (ok_Reading_next_blanks (P := P) (w := w) (base := base) T) (hr.mono (by first | decide | omega)) T.b_Reading_next_blanks (takes_of rfl rfl rfl rfl)))
      (db_cons (ds_if (dt_cmp op_isN sim_isN (dv 3) de_non (nomark _)) (db_one (ds_ret de_bl)) db_nil)
      (db_cons (ds_if (dt_cmp (op_eqU hr.units) sim_eq (dv 3) (dv 2) (nomark _)) (db_one (ds_ret de_bl)) db_nil)
      (db_cons (ds_if (dt_w (dw_or (dt_cmp op_gt sim_gt (dv 3) (dv 1) (nomark _)) (dw_or1 (dt_cmp (op_eqU hr.units) sim_eq (de_op op_mod sim_mod (dv 3) de_int) de_int (nomark _))))) (db_one (ds_raise2 (x_NoText T) rfl (takes_of rfl rfl rfl rfl) (hr.mono (by first | decide | omega)) rfl (da_cons (de_fld (fl_number T) (de_meth0 (C := 1) (dv 0) T.cl_Reading T.m_Reading_here (ok_Reading_here (P := P) (w := w) (base := base) T) (hr.mono (by first | decide | omega)) T.b_Reading_here (takes_of rfl rfl rfl rfl)) rfl) (da_cons de_int da_nil)))) db_nil)
      (db_one (ds_ret de_bl)))))))
def d_Reading_deeds_of : List A → AH → Res A := defA 6 (aSeq (aIfS (aOr (aNotT (aTru (aMethF 1 "is_below" 3 d_Reading_is_below (aVar 0) (aCons (aVar 2) (aCons (aVar 3) aNil))))) (aNotT (aTru (aMethF 0 "is_next" 2 d_Line_is_next (aMethF 1 "here" 1 d_Reading_here (aVar 0) aNil) (aCons (aTup (aCons (aVar 1) aNil)) aNil))))) (aRet (aTup aNil)) aPass)
    (aSeq (aSet 4 (aMethF 1 "here" 1 d_Reading_here (aVar 0) aNil))
    (aSeq (aExpr (aMethF 0 "taken" 1 d_Line_taken (aVar 4) aNil))
    (aSeq (aSet 5 (aMethF 0 "some_deeds" 1 d_Line_some_deeds (aVar 4) aNil))
    (aSeq (aExpr (aMethF 1 "finished" 2 d_Reading_finished (aVar 0) (aCons (aVar 4) aNil)))
    (aRet (aVar 5)))))))
theorem ok_Reading_deeds_of {P : Program} {w : World} {K : PySem.W.Frag} {mg : Str → Option Value} {base : Heap} {A : Ads} (T : Txt K mg A) : FnOk P w K mg base (L2.CX P w) 57 A.a_Reading_deeds_of A.fd_Reading_deeds_of ["self", "word", "blanks", "below"] (spOf ⟨K, cl A⟩ 4 d_Reading_deeds_of) := fd_of (k := 56) T.F_Reading_deeds_of sc_Reading_deeds_of (fun cdv Ar outer s H E hr => (db_cons (ds_if (dt_w (dw_or (dt_not (dt_tru (de_meth (C := 1) (dv 0) T.cl_Reading T.m_Reading_is_below (ok_Reading_is_below (P := P) (w := w) (base := base) T) (hr.mono (by first | decide | omega)) T.b_Reading_is_below (takes_of rfl rfl rfl rfl) (da_cons (dv 2) (da_cons (dv 3) da_nil))) (by intro _; rfl))) (dw_or1 (dt_not (dt_tru (de_meth (C := 0) (de_meth0 (C := 1) (dv 0) T.cl_Reading T.m_Reading_here (ok_Reading_here (P := P) (w := w) (base := base) T) (hr.mono (by first | decide | omega)) T.b_Reading_here (takes_of rfl rfl rfl rfl)) T.cl_Line T.m_Line_is_next (ok_Line_is_next (P := P) (w := w) (base := base) T) (hr.mono (by first | decide | omega)) T.b_Line_is_next (takes_of rfl rfl rfl rfl) (da_cons (de_tup (da_cons (dv 1) da_nil)) da_nil)) (by intro _; rfl)))))) (db_one (ds_ret (de_tup da_nil))) db_nil)
      (db_cons (ds_set (i := 4) sc_Reading_deeds_of.nd rfl (by first | exact Or.inl rfl | exact Or.inr rfl) (de_meth0 (C := 1) (dv 0) T.cl_Reading T.m_Reading_here (ok_Reading_here (P := P) (w := w) (base := base) T) (hr.mono (by first | decide | omega)) T.b_Reading_here (takes_of rfl rfl rfl rfl)))
      (db_cons (ds_expr (de_meth0 (C := 0) (dv 4) T.cl_Line T.m_Line_taken (ok_Line_taken (P := P) (w := w) (base := base) T) (hr.mono (by first | decide | omega)) T.b_Line_taken (takes_of rfl rfl rfl rfl)))
      (db_cons (ds_set (i := 5) sc_Reading_deeds_of.nd rfl (by first | exact Or.inl rfl | exact Or.inr rfl) (de_meth0 (C := 0) (dv 4) T.cl_Line T.m_Line_some_deeds (ok_Line_some_deeds (P := P) (w := w) (base := base) T) (hr.mono (by first | decide | omega)) T.b_Line_some_deeds (takes_of rfl rfl rfl rfl)))
      (db_cons (ds_expr (de_meth (C := 1) (dv 0) T.cl_Reading T.m_Reading_finished (ok_Reading_finished (P := P) (w := w) (base := base) T) (hr.mono (by first | decide | omega)) T.b_Reading_finished (takes_of rfl rfl rfl rfl) (da_cons (dv 4) da_nil)))
      (db_one (ds_ret (dv 5)))))))))
def w_Reading_a_stand_0 (call : Nat → List A → AH → Res A) : AT := (aAnd (aTru (aMethF 1 "is_below" 3 d_Reading_is_below (aVar 0) (aCons (aVar 1) (aCons (aVar 6) aNil)))) (aTru (aMethF 0 "is_next" 2 d_Line_is_next (aMethF 1 "here" 1 d_Reading_here (aVar 0) aNil) (aCons (aTup (aCons (aC (.str "go")) aNil)) aNil))))
def w_Reading_a_stand_1 (call : Nat → List A → AH → Res A) : AC := (aSeq (aExpr (aBM "list" mAppend (aVar 5) (aCons (aUn (fFld [0] "number") (aMethF 1 "here" 1 d_Reading_here (aVar 0) aNil)) aNil)))
    (aExpr (aBM "list" mAppend (aVar 9) (aCons (aMethF 1 "a_move" 1 d_Reading_a_move (aVar 0) aNil) aNil))))
def w_Reading_a_stand_2 (call : Nat → List A → AH → Res A) : AT := (aTru (aMethF 1 "is_below" 3 d_Reading_is_below (aVar 0) (aCons (aVar 1) (aCons (aVar 6) aNil))))
def w_Reading_a_stand_3 (call : Nat → List A → AH → Res A) : AC := (aSeq (aIfS (aTest (aBin (fIn true) (aVar 3) (aC (.tup ((["one", "all"] : List Str).map A.str))))) (aExpr (aMethF 0 "refuse" 1 d_Line_refuse (aMethF 1 "here" 1 d_Reading_here (aVar 0) aNil) aNil)) aPass)
    (aExpr (aBM "list" mAppend (aVar 10) (aCons (aMethF 1 "a_stand" 2 (call 0) (aVar 0) (aCons (aVar 6) aNil)) aNil))))
def b_Reading_a_stand (call : Nat → List A → AH → Res A) : List A → AH → Res A := defA 11 (aSeq (aSet 2 (aMethF 1 "here" 1 d_Reading_here (aVar 0) aNil))
    (aSeq (aSet 3 (aMethF 0 "want" 2 d_Line_want (aVar 2) (aCons (aC (.tup ((["one", "all", "leaf", "end", "back", "deep"] : List Str).map A.str))) aNil)))
    (aSeq (aSet 4 (aMethF 0 "a_name" 1 d_Line_a_name (aVar 2) aNil))
    (aSeq (aExpr (aMethF 1 "finished" 2 d_Reading_finished (aVar 0) (aCons (aVar 2) aNil)))
    (aSeq (aSet 5 (aLst aNil))
    (aSeq (aExpr (aBM "list" mAppend (aUn (fFld [1] "noted") (aVar 0)) (aCons (aTup (aCons (aVar 4) (aCons (aUn (fFld [0] "number") (aVar 2)) (aCons (aVar 5) aNil)))) aNil)))
    (aSeq (aSet 6 (aIf (aTest (aBin (fIn false) (aVar 3) (aC (.tup ((["back", "deep"] : List Str).map A.str))))) (aC .non) (aBin fAdd (aVar 1) (aC (.int 2)))))
    (aSeq (aSet 7 (aMethF 1 "deeds_of" 4 d_Reading_deeds_of (aVar 0) (aCons (aC (.str "into")) (aCons (aVar 1) (aCons (aVar 6) aNil)))))
    (aSeq (aSet 8 (aMethF 1 "deeds_of" 4 d_Reading_deeds_of (aVar 0) (aCons (aC (.str "out")) (aCons (aVar 1) (aCons (aVar 6) aNil)))))
    (aSeq (aSet 9 (aLst aNil))
    (aSeq (aWhile (w_Reading_a_stand_0 call) (w_Reading_a_stand_1 call) 200)
    (aSeq (aSet 10 (aLst aNil))
    (aSeq (aWhile (w_Reading_a_stand_2 call) (w_Reading_a_stand_3 call) 200)
    (aRet (aTup (aCons (aVar 4) (aCons (aVar 3) (aCons (aCall cTup (aCons (aVar 10) aNil)) (aCons (aVar 7) (aCons (aVar 8) (aCons (aCall cTup (aCons (aVar 9) aNil)) aNil)))))))))))))))))))))
def g29 : Nat → Nat → List A → AH → Res A
  | 0, _ => fun _ _ => .bad
  | n + 1, k => match k with
    | _ => b_Reading_a_stand (g29 n)
theorem st_Reading_a_stand {P : Program} {w : World} {K : PySem.W.Frag} {mg : Str → Option Value} {base : Heap} {A : Ads} (T : Txt K mg A) {n : Nat} (G_Reading_a_stand : FnOk P w K mg base (L2.CX P w) (107 + n) A.a_Reading_a_stand A.fd_Reading_a_stand ["self", "blanks"] (spOf ⟨K, cl A⟩ 2 (g29 n 0))) : FnOk P w K mg base (L2.CX P w) (107 + (n + 1)) A.a_Reading_a_stand A.fd_Reading_a_stand ["self", "blanks"] (spOf ⟨K, cl A⟩ 2 (g29 (n + 1) 0)) := fd_of (k := 107 + n) T.F_Reading_a_stand sc_Reading_a_stand (fun cdv Ar outer s H E hr => (db_cons (ds_set (i := 2) sc_Reading_a_stand.nd rfl (by first | exact Or.inl rfl | exact Or.inr rfl) (de_meth0 (C := 1) (dv 0) T.cl_Reading T.m_Reading_here (ok_Reading_here (P := P) (w := w) (base := base) T) (hr.mono (by first | decide | omega)) T.b_Reading_here (takes_of rfl rfl rfl rfl)))
      (db_cons (ds_set (i := 3) sc_Reading_a_stand.nd rfl (by first | exact Or.inl rfl | exact Or.inr rfl) (de_meth (C := 0) (dv 2) T.cl_Line T.m_Line_want (ok_Line_want (P := P) (w := w) (base := base) T) (hr.mono (by first | decide | omega)) T.b_Line_want (takes_of rfl rfl rfl rfl) (da_cons (dg_strs (by rfl) T.g_SORTS T.w_SORTS) da_nil)))
      (db_cons (ds_set (i := 4) sc_Reading_a_stand.nd rfl (by first | exact Or.inl rfl | exact Or.inr rfl) (de_meth0 (C := 0) (dv 2) T.cl_Line T.m_Line_a_name (ok_Line_a_name (P := P) (w := w) (base := base) T) (hr.mono (by first | decide | omega)) T.b_Line_a_name (takes_of rfl rfl rfl rfl)))
      (db_cons (ds_expr (de_meth (C := 1) (dv 0) T.cl_Reading T.m_Reading_finished (ok_Reading_finished (P := P) (w := w) (base := base) T) (hr.mono (by first | decide | omega)) T.b_Reading_finished (takes_of rfl rfl rfl rfl) (da_cons (dv 2) da_nil)))
      (db_cons (ds_set (i := 5) sc_Reading_a_stand.nd rfl (by first | exact Or.inl rfl | exact Or.inr rfl) (de_lst da_nil))
      (db_cons (ds_expr (de_bm sim_append PySem.F.plainAttrs_list PySem.F.slot_list_append PySem.F.type_list_append mt_append (de_fld (fl_noted T) (dv 0) rfl) (da_cons (de_tup (da_cons (dv 4) (da_cons (de_fld (fl_number T) (dv 2) rfl) (da_cons (dv 5) da_nil)))) da_nil)))
      (db_cons (ds_set (i := 6) sc_Reading_a_stand.nd rfl (by first | exact Or.inl rfl | exact Or.inr rfl) (de_if (dt_cmp (op_inU (hu_of hr)) sim_in (dv 3) (dg_strs (by rfl) T.g_MARKERS T.w_MARKERS) (by rfl)) de_non (de_op op_addU sim_add (dv 1) de_int)))
      (db_cons (ds_set (i := 7) sc_Reading_a_stand.nd rfl (by first | exact Or.inl rfl | exact Or.inr rfl) (de_meth (C := 1) (dv 0) T.cl_Reading T.m_Reading_deeds_of (ok_Reading_deeds_of (P := P) (w := w) (base := base) T) (hr.mono (by first | decide | omega)) T.b_Reading_deeds_of (takes_of rfl rfl rfl rfl) (da_cons de_str (da_cons (dv 1) (da_cons (dv 6) da_nil)))))
      (db_cons (ds_set (i := 8) sc_Reading_a_stand.nd rfl (by first | exact Or.inl rfl | exact Or.inr rfl) (de_meth (C := 1) (dv 0) T.cl_Reading T.m_Reading_deeds_of (ok_Reading_deeds_of (P := P) (w := w) (base := base) T) (hr.mono (by first | decide | omega)) T.b_Reading_deeds_of (takes_of rfl rfl rfl rfl) (da_cons de_str (da_cons (dv 1) (da_cons (dv 6) da_nil)))))
      (db_cons (ds_set (i := 9) sc_Reading_a_stand.nd rfl (by first | exact Or.inl rfl | exact Or.inr rfl) (de_lst da_nil))
      (db_cons (ds_while 200 (passes_of rfl) (dt_w (dw_and (dt_tru (de_meth (C := 1) (dv 0) T.cl_Reading T.m_Reading_is_below (ok_Reading_is_below (P := P) (w := w) (base := base) T) (hr.mono (by first | decide | omega)) T.b_Reading_is_below (takes_of rfl rfl rfl rfl) (da_cons (dv 1) (da_cons (dv 6) da_nil))) (by intro _; rfl)) (dw_and1 (dt_tru (de_meth (C := 0) (de_meth0 (C := 1) (dv 0) T.cl_Reading T.m_Reading_here (ok_Reading_here (P := P) (w := w) (base := base) T) (hr.mono (by first | decide | omega)) T.b_Reading_here (takes_of rfl rfl rfl rfl)) T.cl_Line T.m_Line_is_next (ok_Line_is_next (P := P) (w := w) (base := base) T) (hr.mono (by first | decide | omega)) T.b_Line_is_next (takes_of rfl rfl rfl rfl) (da_cons (de_tup (da_cons de_str da_nil)) da_nil)) (by intro _; rfl))))) (db_cons (ds_expr (de_bm sim_append PySem.F.plainAttrs_list PySem.F.slot_list_append PySem.F.type_list_append mt_append (dv 5) (da_cons (de_fld (fl_number T) (de_meth0 (C := 1) (dv 0) T.cl_Reading T.m_Reading_here (ok_Reading_here (P := P) (w := w) (base := base) T) (hr.mono (by first | decide | omega)) T.b_Reading_here (takes_of rfl rfl rfl rfl)) rfl) da_nil)))
      (db_one (ds_expr (de_bm sim_append PySem.F.plainAttrs_list PySem.F.slot_list_append PySem.F.type_list_append mt_append (dv 9) (da_cons (de_meth0 (C := 1) (dv 0) T.cl_Reading T.m_Reading_a_move (ok_Reading_a_move (P := P) (w := w) (base := base) T) (hr.mono (by first | decide | omega)) T.b_Reading_a_move (takes_of rfl rfl rfl rfl)) da_nil))))))
      (db_cons (ds_set (i := 10) sc_Reading_a_stand.nd rfl (by first | exact Or.inl rfl | exact Or.inr rfl) (de_lst da_nil))
      (db_cons (ds_while 200 (passes_of rfl) (dt_tru (de_meth (C := 1) (dv 0) T.cl_Reading T.m_Reading_is_below (ok_Reading_is_below (P := P) (w := w) (base := base) T) (hr.mono (by first | decide | omega)) T.b_Reading_is_below (takes_of rfl rfl rfl rfl) (da_cons (dv 1) (da_cons (dv 6) da_nil))) (by intro _; rfl)) (db_cons (ds_if (dt_cmp (op_ninU (hu_of hr)) sim_in (dv 3) (dg_strs (by rfl) T.g_NESTS T.w_NESTS) (by rfl)) (db_one (ds_expr (de_meth0 (C := 0) (de_meth0 (C := 1) (dv 0) T.cl_Reading T.m_Reading_here (ok_Reading_here (P := P) (w := w) (base := base) T) (hr.mono (by first | decide | omega)) T.b_Reading_here (takes_of rfl rfl rfl rfl)) T.cl_Line T.m_Line_refuse (ok_Line_refuse (P := P) (w := w) (base := base) T) (hr.mono (by first | decide | omega)) T.b_Line_refuse (takes_of rfl rfl rfl rfl)))) db_nil)
      (db_one (ds_expr (de_bm sim_append PySem.F.plainAttrs_list PySem.F.slot_list_append PySem.F.type_list_append mt_append (dv 10) (da_cons (de_meth (C := 1) (dv 0) T.cl_Reading T.m_Reading_a_stand G_Reading_a_stand (hr.mono (by first | decide | omega)) T.b_Reading_a_stand (takes_of rfl rfl rfl rfl) (da_cons (dv 6) da_nil)) da_nil))))))
      (db_one (ds_ret (de_tup (da_cons (dv 4) (da_cons (dv 3) (da_cons (de_callTy sim_tupC call_tuple_of (by rfl) T.n_tuple (by decide +kernel) (da_cons (dv 10) da_nil)) (da_cons (dv 7) (da_cons (dv 8) (da_cons (de_callTy sim_tupC call_tuple_of (by rfl) T.n_tuple (by decide +kernel) (da_cons (dv 9) da_nil)) da_nil)))))))))))))))))))))))
theorem all_g29 {P : Program} {w : World} {K : PySem.W.Frag} {mg : Str → Option Value} {base : Heap} {A : Ads} (T : Txt K mg A) : ∀ n : Nat, FnOk P w K mg base (L2.CX P w) (107 + n) A.a_Reading_a_stand A.fd_Reading_a_stand ["self", "blanks"] (spOf ⟨K, cl A⟩ 2 (g29 n 0))
  | 0 => fd_bad
  | n + 1 => by
    have h0 := all_g29 (P := P) (w := w) (base := base) T n
    exact st_Reading_a_stand T h0
def d_Reading_a_stand : List A → AH → Res A := g29 50 0
theorem ok_Reading_a_stand {P : Program} {w : World} {K : PySem.W.Frag} {mg : Str → Option Value} {base : Heap} {A : Ads} (T : Txt K mg A) : FnOk P w K mg base (L2.CX P w) 157 A.a_Reading_a_stand A.fd_Reading_a_stand ["self", "blanks"] (spOf ⟨K, cl A⟩ 2 d_Reading_a_stand) := (all_g29 T 50)
def w_Reading_a_chart_0 : AT := (aTru (aMethF 0 "is_next" 2 d_Line_is_next (aMethF 1 "flush" 1 d_Reading_flush (aVar 0) aNil) (aCons (aTup (aCons (aC (.str "fact")) aNil)) aNil)))
def w_Reading_a_chart_1 : AC := (aSeq (aSet 2 (aMethF 1 "here" 1 d_Reading_here (aVar 0) aNil))
    (aSeq (aExpr (aMethF 0 "taken" 1 d_Line_taken (aVar 2) aNil))
    (aSeq (aExpr (aBM "list" mAppend (aVar 1) (aCons (aTup (aCons (aMethF 0 "a_name" 1 d_Line_a_name (aVar 2) aNil) (aCons (aMethF 0 "signed" 1 d_Line_signed (aVar 2) aNil) (aCons (aMethF 0 "signed" 1 d_Line_signed (aVar 2) aNil) (aCons (aMethF 0 "signed" 1 d_Line_signed (aVar 2) aNil) aNil))))) aNil)))
    (aExpr (aMethF 1 "finished" 2 d_Reading_finished (aVar 0) (aCons (aVar 2) aNil))))))
def w_Reading_a_chart_2 : AT := (aTru (aMethF 0 "is_next" 2 d_Line_is_next (aMethF 1 "flush" 1 d_Reading_flush (aVar 0) aNil) (aCons (aTup (aCons (aC (.str "on")) aNil)) aNil)))
def w_Reading_a_chart_3 : AC := (aSeq (aSet 2 (aMethF 1 "here" 1 d_Reading_here (aVar 0) aNil))
    (aSeq (aExpr (aMethF 0 "taken" 1 d_Line_taken (aVar 2) aNil))
    (aSeq (aExpr (aBM "list" mAppend (aVar 3) (aCons (aMethF 0 "a_name" 1 d_Line_a_name (aVar 2) aNil) aNil)))
    (aExpr (aMethF 1 "finished" 2 d_Reading_finished (aVar 0) (aCons (aVar 2) aNil))))))
def d_Reading_a_chart : List A → AH → Res A := defA 5 (aSeq (aSet 1 (aLst aNil))
    (aSeq (aWhile w_Reading_a_chart_0 w_Reading_a_chart_1 200)
    (aSeq (aSet 3 (aLst aNil))
    (aSeq (aWhile w_Reading_a_chart_2 w_Reading_a_chart_3 200)
    (aSeq (aSet 4 (aMethF 1 "a_stand" 2 d_Reading_a_stand (aVar 0) (aCons (aC (.int 0)) aNil)))
    (aSeq (aIfS (aTest (aBin fLt (aUn (fFld [1] "at") (aVar 0)) (aCall cLen (aCons (aUn (fFld [1] "lines") (aVar 0)) aNil)))) (aRaise2 2 "row" "column" (aCons (aUn (fFld [0] "number") (aMethF 1 "here" 1 d_Reading_here (aVar 0) aNil)) (aCons (aC (.int 1)) aNil))) aPass)
    (aRet (aTup (aCons (aCall cTup (aCons (aVar 1) aNil)) (aCons (aCall cTup (aCons (aVar 3) aNil)) (aCons (aVar 4) aNil)))))))))))
theorem ok_Reading_a_chart {P : Program} {w : World} {K : PySem.W.Frag} {mg : Str → Option Value} {base : Heap} {A : Ads} (T : Txt K mg A) : FnOk P w K mg base (L2.CX P w) 158 A.a_Reading_a_chart A.fd_Reading_a_chart ["self"] (spOf ⟨K, cl A⟩ 1 d_Reading_a_chart) := fd_of (k := 157) T.F_Reading_a_chart sc_Reading_a_chart (fun cdv Ar outer s H E hr => (db_cons (ds_set (i := 1) sc_Reading_a_chart.nd rfl (by first | exact Or.inl rfl | exact Or.inr rfl) (de_lst da_nil))
      (db_cons (ds_while 200 (passes_of rfl) (dt_tru (de_meth (C := 0) (de_meth0 (C := 1) (dv 0) T.cl_Reading T.m_Reading_flush (ok_Reading_flush (P := P) (w := w) (base := base) T) (hr.mono (by first | decide | omega)) T.b_Reading_flush (takes_of rfl rfl rfl rfl)) T.cl_Line T.m_Line_is_next (ok_Line_is_next (P := P) (w := w) (base := base) T) (hr.mono (by first | decide | omega)) T.b_Line_is_next (takes_of rfl rfl rfl rfl) (da_cons (de_tup (da_cons de_str da_nil)) da_nil)) (by intro _; rfl)) (db_cons (ds_set (i := 2) sc_Reading_a_chart.nd rfl (by first | exact Or.inl rfl | exact Or.inr rfl) (de_meth0 (C := 1) (dv 0) T.cl_Reading T.m_Reading_here (ok_Reading_here (P := P) (w := w) (base := base) T) (hr.mono (by first | decide | omega)) T.b_Reading_here (takes_of rfl rfl rfl rfl)))
      (db_cons (ds_expr (de_meth0 (C := 0) (dv 2) T.cl_Line T.m_Line_taken (ok_Line_taken (P := P) (w := w) (base := base) T) (hr.mono (by first | decide | omega)) T.b_Line_taken (takes_of rfl rfl rfl rfl)))
      (db_cons (ds_expr (de_bm sim_append PySem.F.plainAttrs_list PySem.F.slot_list_append PySem.F.type_list_append mt_append (dv 1) (da_cons (de_tup (da_cons (de_meth0 (C := 0) (dv 2) T.cl_Line T.m_Line_a_name (ok_Line_a_name (P := P) (w := w) (base := base) T) (hr.mono (by first | decide | omega)) T.b_Line_a_name (takes_of rfl rfl rfl rfl)) (da_cons (de_meth0 (C := 0) (dv 2) T.cl_Line T.m_Line_signed (ok_Line_signed (P := P) (w := w) (base := base) T) (hr.mono (by first | decide | omega)) T.b_Line_signed (takes_of rfl rfl rfl rfl)) (da_cons (de_meth0 (C := 0) (dv 2) T.cl_Line T.m_Line_signed (ok_Line_signed (P := P) (w := w) (base := base) T) (hr.mono (by first | decide | omega)) T.b_Line_signed (takes_of rfl rfl rfl rfl)) (da_cons (de_meth0 (C := 0) (dv 2) T.cl_Line T.m_Line_signed (ok_Line_signed (P := P) (w := w) (base := base) T) (hr.mono (by first | decide | omega)) T.b_Line_signed (takes_of rfl rfl rfl rfl)) da_nil))))) da_nil)))
      (db_one (ds_expr (de_meth (C := 1) (dv 0) T.cl_Reading T.m_Reading_finished (ok_Reading_finished (P := P) (w := w) (base := base) T) (hr.mono (by first | decide | omega)) T.b_Reading_finished (takes_of rfl rfl rfl rfl) (da_cons (dv 2) da_nil))))))))
      (db_cons (ds_set (i := 3) sc_Reading_a_chart.nd rfl (by first | exact Or.inl rfl | exact Or.inr rfl) (de_lst da_nil))
      (db_cons (ds_while 200 (passes_of rfl) (dt_tru (de_meth (C := 0) (de_meth0 (C := 1) (dv 0) T.cl_Reading T.m_Reading_flush (ok_Reading_flush (P := P) (w := w) (base := base) T) (hr.mono (by first | decide | omega)) T.b_Reading_flush (takes_of rfl rfl rfl rfl)) T.cl_Line T.m_Line_is_next (ok_Line_is_next (P := P) (w := w) (base := base) T) (hr.mono (by first | decide | omega)) T.b_Line_is_next (takes_of rfl rfl rfl rfl) (da_cons (de_tup (da_cons de_str da_nil)) da_nil)) (by intro _; rfl)) (db_cons (ds_set (i := 2) sc_Reading_a_chart.nd rfl (by first | exact Or.inl rfl | exact Or.inr rfl) (de_meth0 (C := 1) (dv 0) T.cl_Reading T.m_Reading_here (ok_Reading_here (P := P) (w := w) (base := base) T) (hr.mono (by first | decide | omega)) T.b_Reading_here (takes_of rfl rfl rfl rfl)))
      (db_cons (ds_expr (de_meth0 (C := 0) (dv 2) T.cl_Line T.m_Line_taken (ok_Line_taken (P := P) (w := w) (base := base) T) (hr.mono (by first | decide | omega)) T.b_Line_taken (takes_of rfl rfl rfl rfl)))
      (db_cons (ds_expr (de_bm sim_append PySem.F.plainAttrs_list PySem.F.slot_list_append PySem.F.type_list_append mt_append (dv 3) (da_cons (de_meth0 (C := 0) (dv 2) T.cl_Line T.m_Line_a_name (ok_Line_a_name (P := P) (w := w) (base := base) T) (hr.mono (by first | decide | omega)) T.b_Line_a_name (takes_of rfl rfl rfl rfl)) da_nil)))
      (db_one (ds_expr (de_meth (C := 1) (dv 0) T.cl_Reading T.m_Reading_finished (ok_Reading_finished (P := P) (w := w) (base := base) T) (hr.mono (by first | decide | omega)) T.b_Reading_finished (takes_of rfl rfl rfl rfl) (da_cons (dv 2) da_nil))))))))
      (db_cons (ds_set (i := 4) sc_Reading_a_chart.nd rfl (by first | exact Or.inl rfl | exact Or.inr rfl) (de_meth (C := 1) (dv 0) T.cl_Reading T.m_Reading_a_stand (ok_Reading_a_stand (P := P) (w := w) (base := base) T) (hr.mono (by first | decide | omega)) T.b_Reading_a_stand (takes_of rfl rfl rfl rfl) (da_cons de_int da_nil)))
      (db_cons (ds_if (dt_cmp op_lt sim_lt (de_fld (fl_at T) (dv 0) rfl) (de_callB sim_len call_lenU (by rfl) T.n_len (by decide +kernel) (da_cons (de_fld (fl_lines T) (dv 0) rfl) da_nil)) (nomark _)) (db_one (ds_raise2 (x_NoText T) rfl (takes_of rfl rfl rfl rfl) (hr.mono (by first | decide | omega)) rfl (da_cons (de_fld (fl_number T) (de_meth0 (C := 1) (dv 0) T.cl_Reading T.m_Reading_here (ok_Reading_here (P := P) (w := w) (base := base) T) (hr.mono (by first | decide | omega)) T.b_Reading_here (takes_of rfl rfl rfl rfl)) rfl) (da_cons de_int da_nil)))) db_nil)
      (db_one (ds_ret (de_tup (da_cons (de_callTy sim_tupC call_tuple_of (by rfl) T.n_tuple (by decide +kernel) (da_cons (dv 1) da_nil)) (da_cons (de_callTy sim_tupC call_tuple_of (by rfl) T.n_tuple (by decide +kernel) (da_cons (dv 3) da_nil)) (da_cons (dv 4) da_nil)))))))))))))
def d_read_chart : List A → AH → Res A := defA 1 (aRet (aMethF 1 "a_chart" 1 d_Reading_a_chart (aMakeF 1 2 d_Reading___init__ (aCons (aVar 0) aNil)) aNil))
theorem ok_read_chart {P : Program} {w : World} {K : PySem.W.Frag} {mg : Str → Option Value} {base : Heap} {A : Ads} (T : Txt K mg A) : FnOk P w K mg base (L2.CX P w) 159 A.a_read_chart A.fd_read_chart ["text"] (spOf ⟨K, cl A⟩ 1 d_read_chart) := fd_of (k := 158) T.F_read_chart sc_read_chart (fun cdv Ar outer s H E hr => (db_one (ds_ret (de_meth0 (C := 1) (de_make (C := 1) T.mk_Reading (ok_Reading___init__ (P := P) (w := w) (base := base) T) (hr.mono (by first | decide | omega)) rfl T.g_Reading T.b_Reading___init__ (takes_of rfl rfl rfl rfl) (da_cons (dv 0) da_nil)) T.cl_Reading T.m_Reading_a_chart (ok_Reading_a_chart (P := P) (w := w) (base := base) T) (hr.mono (by first | decide | omega)) T.b_Reading_a_chart (takes_of rfl rfl rfl rfl)))))
def d__law_mixed : List A → AH → Res A := defA 3 (aSeq (aSet 2 (aBin fAdd (aBin fAdd (aBin fMul (aBin fAdd (aBin fMod (aVar 0) (aBin fAdd (aBin fPow (aC (.int 10)) (aC (.int 18))) (aC (.int 9)))) (aBin fMul (aC (.int 7)) (aVar 1))) (aC (.int 739108512309184756019283746561))) (aBin fMul (aC (.int 7919)) (aVar 1))) (aC (.int 1))))
    (aSeq (aSet 2 (aBin fMod (aBin fMul (aVar 2) (aVar 2)) (aBin fAdd (aBin fPow (aC (.int 10)) (aC (.int 60))) (aC (.int 7)))))
    (aRet (aBin fMod (aBin fMul (aBin fAdd (aVar 2) (aC (.int 40503))) (aBin fAdd (aVar 2) (aC (.int 57)))) (aBin fAdd (aBin fPow (aC (.int 10)) (aC (.int 60))) (aC (.int 7)))))))
theorem ok__law_mixed {P : Program} {w : World} {K : PySem.W.Frag} {mg : Str → Option Value} {base : Heap} {A : Ads} (T : Txt K mg A) : FnOk P w K mg base (L2.CX P w) 2 A.a__law_mixed A.fd__law_mixed ["_law_cell", "_law_k"] (spOf ⟨K, cl A⟩ 2 d__law_mixed) := fd_of (k := 1) T.F__law_mixed sc__law_mixed (fun cdv Ar outer s H E hr => (db_cons (ds_set (i := 2) sc__law_mixed.nd rfl (by first | exact Or.inl rfl | exact Or.inr rfl) (de_op op_addU sim_add (de_op op_addU sim_add (de_op op_mulU sim_mul (de_op op_addU sim_add (de_op op_mod sim_mod (dv 0) (de_op op_addU sim_add (de_op op_powU sim_pow de_int de_int) de_int)) (de_op op_mulU sim_mul de_int (dv 1))) de_int) (de_op op_mulU sim_mul de_int (dv 1))) de_int))
      (db_cons (ds_set (i := 2) sc__law_mixed.nd rfl (by first | exact Or.inl rfl | exact Or.inr rfl) (de_op op_mod sim_mod (de_op op_mulU sim_mul (dv 2) (dv 2)) (de_op op_addU sim_add (de_op op_powU sim_pow de_int de_int) de_int)))
      (db_one (ds_ret (de_op op_mod sim_mod (de_op op_mulU sim_mul (de_op op_addU sim_add (dv 2) de_int) (de_op op_addU sim_add (dv 2) de_int)) (de_op op_addU sim_add (de_op op_powU sim_pow de_int de_int) de_int)))))))
def d__law_purse : List A → AH → Res A := defA 2 (aSeq (aIfS (aTest (aBin fGe (aVar 0) (aBin fPow (aC (.int 10)) (aC (.int 18))))) (aRet (aLst (aCons (aBin fMod (aBin fSub (aVar 0) (aBin fPow (aC (.int 10)) (aC (.int 18)))) (aBin fPow (aBin fPow (aC (.int 10)) (aC (.int 60))) (aC (.int 10)))) (aCons (aC (.int 0)) (aCons (aVar 1) aNil))))) aPass)
    (aRet (aLst (aCons (aCallF 2 d__law_mixed (aCons (aVar 0) (aCons (aVar 1) aNil))) (aCons (aC (.int 0)) (aCons (aBin fAdd (aBin fMod (aVar 0) (aBin fAdd (aBin fPow (aC (.int 10)) (aC (.int 18))) (aC (.int 9)))) (aVar 1)) aNil))))))
theorem ok__law_purse {P : Program} {w : World} {K : PySem.W.Frag} {mg : Str → Option Value} {base : Heap} {A : Ads} (T : Txt K mg A) : FnOk P w K mg base (L2.CX P w) 3 A.a__law_purse A.fd__law_purse ["_law_cell", "_law_k"] (spOf ⟨K, cl A⟩ 2 d__law_purse) := fd_of (k := 2) T.F__law_purse sc__law_purse (fun cdv Ar outer s H E hr => (db_cons (ds_if (dt_cmp op_ge sim_ge (dv 0) (de_op op_powU sim_pow de_int de_int) (nomark _)) (db_one (ds_ret (de_lst (da_cons (de_op op_mod sim_mod (de_op op_sub sim_sub (dv 0) (de_op op_powU sim_pow de_int de_int)) (de_op op_powU sim_pow (de_op op_powU sim_pow de_int de_int) de_int)) (da_cons de_int (da_cons (dv 1) da_nil)))))) db_nil)
      (db_one (ds_ret (de_lst (da_cons (de_call (ok__law_mixed (P := P) (w := w) (base := base) T) (hr.mono (by first | decide | omega)) rfl T.g__law_mixed T.F__law_mixed.kp T.b__law_mixed (takes_of rfl rfl rfl rfl) (da_cons (dv 0) (da_cons (dv 1) da_nil))) (da_cons de_int (da_cons (de_op op_addU sim_add (de_op op_mod sim_mod (dv 0) (de_op op_addU sim_add (de_op op_powU sim_pow de_int de_int) de_int)) (dv 1)) da_nil))))))))
def d__law_take : List A → AH → Res A := defA 3 (aSeq (aIfS (aTest (aBin fLt (aBin fIx (aVar 0) (aC (.int 0))) (aVar 1))) (aSeq (aSetL (aVar 0) (aC (.int 1)) (aBin fAdd (aBin fIx (aVar 0) (aC (.int 1))) (aC (.int 1))))
    (aSetL (aVar 0) (aC (.int 0)) (aBin fAdd (aBin fIx (aVar 0) (aC (.int 0))) (aBin fMul (aVar 1) (aCallF 2 d__law_mixed (aCons (aBin fIx (aVar 0) (aC (.int 2))) (aCons (aBin fAdd (aBin fMul (aC (.int 11)) (aBin fIx (aVar 0) (aC (.int 1)))) (aC (.int 5))) aNil))))))) aPass)
    (aSeq (aSet 2 (aBin fMod (aBin fIx (aVar 0) (aC (.int 0))) (aVar 1)))
    (aSeq (aSetL (aVar 0) (aC (.int 0)) (aBin fDiv (aBin fIx (aVar 0) (aC (.int 0))) (aVar 1)))
    (aRet (aVar 2)))))
theorem ok__law_take {P : Program} {w : World} {K : PySem.W.Frag} {mg : Str → Option Value} {base : Heap} {A : Ads} (T : Txt K mg A) : FnOk P w K mg base (L2.CX P w) 3 A.a__law_take A.fd__law_take ["_law_purse_here", "_law_far"] (spOf ⟨K, cl A⟩ 2 d__law_take) := fd_of (k := 2) T.F__law_take sc__law_take (fun cdv Ar outer s H E hr => (db_cons (ds_if (dt_cmp op_lt sim_lt (de_ix (hu_of hr) (dv 0) de_int (fun _ _ => rfl)) (dv 1) (nomark _)) (db_cons (ds_setL (de_op op_addU sim_add (de_ix (hu_of hr) (dv 0) de_int (fun _ _ => rfl)) de_int) (dv 0) de_int (ps_asg (de_op op_addU sim_add (de_ix (hu_of hr) (dv 0) de_int (fun _ _ => rfl)) de_int) (pg_sub (dv 0) de_int set_list)))
      (db_one (ds_setL (de_op op_addU sim_add (de_ix (hu_of hr) (dv 0) de_int (fun _ _ => rfl)) (de_op op_mulU sim_mul (dv 1) (de_call (ok__law_mixed (P := P) (w := w) (base := base) T) (hr.mono (by first | decide | omega)) rfl T.g__law_mixed T.F__law_mixed.kp T.b__law_mixed (takes_of rfl rfl rfl rfl) (da_cons (de_ix (hu_of hr) (dv 0) de_int (fun _ _ => rfl)) (da_cons (de_op op_addU sim_add (de_op op_mulU sim_mul de_int (de_ix (hu_of hr) (dv 0) de_int (fun _ _ => rfl))) de_int) da_nil))))) (dv 0) de_int (ps_asg (de_op op_addU sim_add (de_ix (hu_of hr) (dv 0) de_int (fun _ _ => rfl)) (de_op op_mulU sim_mul (dv 1) (de_call (ok__law_mixed (P := P) (w := w) (base := base) T) (hr.mono (by first | decide | omega)) rfl T.g__law_mixed T.F__law_mixed.kp T.b__law_mixed (takes_of rfl rfl rfl rfl) (da_cons (de_ix (hu_of hr) (dv 0) de_int (fun _ _ => rfl)) (da_cons (de_op op_addU sim_add (de_op op_mulU sim_mul de_int (de_ix (hu_of hr) (dv 0) de_int (fun _ _ => rfl))) de_int) da_nil))))) (pg_sub (dv 0) de_int set_list))))) db_nil)
      (db_cons (ds_set (i := 2) sc__law_take.nd rfl (by first | exact Or.inl rfl | exact Or.inr rfl) (de_op op_mod sim_mod (de_ix (hu_of hr) (dv 0) de_int (fun _ _ => rfl)) (dv 1)))
      (db_cons (ds_setL (de_op op_fdivW sim_div (de_ix (hu_of hr) (dv 0) de_int (fun _ _ => rfl)) (dv 1)) (dv 0) de_int (ps_asg (de_op op_fdivW sim_div (de_ix (hu_of hr) (dv 0) de_int (fun _ _ => rfl)) (dv 1)) (pg_sub (dv 0) de_int set_list)))
      (db_one (ds_ret (dv 2)))))))
def d__law_at : List A → AH → Res A := defA 2 (aSeq (aIfS (aTest (aBin fLt (aVar 1) (aCall cLen (aCons (aVar 0) aNil)))) (aRet (aBin fIx (aVar 0) (aVar 1))) aPass)
    (aRet (aBin fAdd (aBin fMul (aC (.int 3)) (aVar 1)) (aC (.int 1)))))
theorem ok__law_at {P : Program} {w : World} {K : PySem.W.Frag} {mg : Str → Option Value} {base : Heap} {A : Ads} (T : Txt K mg A) : FnOk P w K mg base (L2.CX P w) 2 A.a__law_at A.fd__law_at ["_law_script", "_law_k"] (spOf ⟨K, cl A⟩ 2 d__law_at) := fd_of (k := 1) T.F__law_at sc__law_at (fun cdv Ar outer s H E hr => (db_cons (ds_if (dt_cmp op_lt sim_lt (dv 1) (de_callB sim_len call_lenU (by rfl) T.n_len (by decide +kernel) (da_cons (dv 0) da_nil)) (nomark _)) (db_one (ds_ret (de_ix (hu_of hr) (dv 0) (dv 1) (fun _ _ => rfl)))) db_nil)
      (db_one (ds_ret (de_op op_addU sim_add (de_op op_mulU sim_mul de_int (dv 1)) de_int)))))
def d__law_pick : List A → AH → Res A := defA 2 (aRet (aBin fIx (aVar 1) (aCallF 2 d__law_take (aCons (aVar 0) (aCons (aCall cLen (aCons (aVar 1) aNil)) aNil)))))
theorem ok__law_pick {P : Program} {w : World} {K : PySem.W.Frag} {mg : Str → Option Value} {base : Heap} {A : Ads} (T : Txt K mg A) : FnOk P w K mg base (L2.CX P w) 4 A.a__law_pick A.fd__law_pick ["_law_purse_here", "_law_some"] (spOf ⟨K, cl A⟩ 2 d__law_pick) := fd_of (k := 3) T.F__law_pick sc__law_pick (fun cdv Ar outer s H E hr => (db_one (ds_ret (de_ix (hu_of hr) (dv 1) (de_call (ok__law_take (P := P) (w := w) (base := base) T) (hr.mono (by first | decide | omega)) rfl T.g__law_take T.F__law_take.kp T.b__law_take (takes_of rfl rfl rfl rfl) (da_cons (dv 0) (da_cons (de_callB sim_len call_lenU (by rfl) T.n_len (by decide +kernel) (da_cons (dv 1) da_nil)) da_nil))) (fun _ _ => rfl)))))
def d__law_good : List A → AH → Res A := defA 8 (aSeq (aAsg (gSq 3 (gsCons (gNm 0) (gsCons (gNm 1) (gsCons (gNm 2) gsNil)))) (aTup (aCons (aTup (aCons (aC (.str "fact")) (aCons (aC (.str "n")) aNil))) (aCons (aTup (aCons (aC (.str "fact")) (aCons (aC (.str "k")) aNil))) (aCons (aTup (aCons (aC (.str "num")) (aCons (aC (.int 1)) aNil))) aNil)))))
    (aSeq (aAsg (gSq 3 (gsCons (gNm 3) (gsCons (gNm 4) (gsCons (gNm 5) gsNil)))) (aTup (aCons (aTup (aCons (aC (.str "in")) (aCons (aC (.str "a")) aNil))) (aCons (aTup (aCons (aC (.str "in")) (aCons (aC (.str "b")) aNil))) (aCons (aTup (aCons (aC (.str "in")) (aCons (aC (.str "c")) aNil))) aNil)))))
    (aSeq (aSet 6 (aTup (aCons (aC (.str "below")) (aCons (aVar 0) (aCons (aVar 2) aNil)))))
    (aSeq (aSet 7 (aLst aNil))
    (aSeq (aExpr (aBM "list" mAppend (aVar 7) (aCons (aLst (aCons (aC (.str "in a and in b or in c")) (aCons (aTup (aCons (aC (.str "either")) (aCons (aTup (aCons (aC (.str "both")) (aCons (aVar 3) (aCons (aVar 4) aNil)))) (aCons (aVar 5) aNil)))) aNil))) aNil)))
    (aSeq (aExpr (aBM "list" mAppend (aVar 7) (aCons (aLst (aCons (aC (.str "in a or in b and in c")) (aCons (aTup (aCons (aC (.str "either")) (aCons (aVar 3) (aCons (aTup (aCons (aC (.str "both")) (aCons (aVar 4) (aCons (aVar 5) aNil)))) aNil)))) aNil))) aNil)))
    (aSeq (aExpr (aBM "list" mAppend (aVar 7) (aCons (aLst (aCons (aC (.str "in a or in b or in c")) (aCons (aTup (aCons (aC (.str "either")) (aCons (aTup (aCons (aC (.str "either")) (aCons (aVar 3) (aCons (aVar 4) aNil)))) (aCons (aVar 5) aNil)))) aNil))) aNil)))
    (aSeq (aExpr (aBM "list" mAppend (aVar 7) (aCons (aLst (aCons (aC (.str "( in a or in b ) and in c")) (aCons (aTup (aCons (aC (.str "both")) (aCons (aTup (aCons (aC (.str "either")) (aCons (aVar 3) (aCons (aVar 4) aNil)))) (aCons (aVar 5) aNil)))) aNil))) aNil)))
    (aSeq (aExpr (aBM "list" mAppend (aVar 7) (aCons (aLst (aCons (aC (.str "in a and ( in b and in c )")) (aCons (aTup (aCons (aC (.str "both")) (aCons (aVar 3) (aCons (aTup (aCons (aC (.str "both")) (aCons (aVar 4) (aCons (aVar 5) aNil)))) aNil)))) aNil))) aNil)))
    (aSeq (aExpr (aBM "list" mAppend (aVar 7) (aCons (aLst (aCons (aC (.str "not in a and in b")) (aCons (aTup (aCons (aC (.str "both")) (aCons (aTup (aCons (aC (.str "not")) (aCons (aVar 3) aNil))) (aCons (aVar 4) aNil)))) aNil))) aNil)))
    (aSeq (aExpr (aBM "list" mAppend (aVar 7) (aCons (aLst (aCons (aC (.str "not ( in a and in b )")) (aCons (aTup (aCons (aC (.str "not")) (aCons (aTup (aCons (aC (.str "both")) (aCons (aVar 3) (aCons (aVar 4) aNil)))) aNil))) aNil))) aNil)))
    (aSeq (aExpr (aBM "list" mAppend (aVar 7) (aCons (aLst (aCons (aC (.str "not not yes")) (aCons (aTup (aCons (aC (.str "not")) (aCons (aTup (aCons (aC (.str "not")) (aCons (aTup (aCons (aC (.str "yes")) aNil)) aNil))) aNil))) aNil))) aNil)))
    (aSeq (aExpr (aBM "list" mAppend (aVar 7) (aCons (aLst (aCons (aC (.str "n < 1")) (aCons (aVar 6) aNil))) aNil)))
    (aSeq (aExpr (aBM "list" mAppend (aVar 7) (aCons (aLst (aCons (aC (.str "( n ) < 1")) (aCons (aVar 6) aNil))) aNil)))
    (aSeq (aExpr (aBM "list" mAppend (aVar 7) (aCons (aLst (aCons (aC (.str "( n < 1 )")) (aCons (aVar 6) aNil))) aNil)))
    (aSeq (aExpr (aBM "list" mAppend (aVar 7) (aCons (aLst (aCons (aC (.str "(((n))<(1))")) (aCons (aVar 6) aNil))) aNil)))
    (aSeq (aExpr (aBM "list" mAppend (aVar 7) (aCons (aLst (aCons (aC (.str "not n < 1")) (aCons (aTup (aCons (aC (.str "not")) (aCons (aVar 6) aNil))) aNil))) aNil)))
    (aSeq (aExpr (aBM "list" mAppend (aVar 7) (aCons (aLst (aCons (aC (.str "( n + 1 ) - k = 1")) (aCons (aTup (aCons (aC (.str "same")) (aCons (aTup (aCons (aC (.str "less")) (aCons (aTup (aCons (aC (.str "sum")) (aCons (aVar 0) (aCons (aVar 2) aNil)))) (aCons (aVar 1) aNil)))) (aCons (aVar 2) aNil)))) aNil))) aNil)))
    (aSeq (aExpr (aBM "list" mAppend (aVar 7) (aCons (aLst (aCons (aC (.str "n - k - 1 < n - ( k - 1 )")) (aCons (aTup (aCons (aC (.str "below")) (aCons (aTup (aCons (aC (.str "less")) (aCons (aTup (aCons (aC (.str "less")) (aCons (aVar 0) (aCons (aVar 1) aNil)))) (aCons (aVar 2) aNil)))) (aCons (aTup (aCons (aC (.str "less")) (aCons (aVar 0) (aCons (aTup (aCons (aC (.str "less")) (aCons (aVar 1) (aCons (aVar 2) aNil)))) aNil)))) aNil)))) aNil))) aNil)))
    (aSeq (aExpr (aBM "list" mAppend (aVar 7) (aCons (aLst (aCons (aC (.str "( n < 1 and in a ) or ( yes )")) (aCons (aTup (aCons (aC (.str "either")) (aCons (aTup (aCons (aC (.str "both")) (aCons (aVar 6) (aCons (aVar 3) aNil)))) (aCons (aTup (aCons (aC (.str "yes")) aNil)) aNil)))) aNil))) aNil)))
    (aSeq (aExpr (aBM "list" mAppend (aVar 7) (aCons (aLst (aCons (aC (.str "( ( n ) + 1 ) = ( ( k ) )")) (aCons (aTup (aCons (aC (.str "same")) (aCons (aTup (aCons (aC (.str "sum")) (aCons (aVar 0) (aCons (aVar 2) aNil)))) (aCons (aVar 1) aNil)))) aNil))) aNil)))
    (aSeq (aExpr (aBM "list" mAppend (aVar 7) (aCons (aLst (aCons (aC (.str "((n)<1 or in b)and yes")) (aCons (aTup (aCons (aC (.str "both")) (aCons (aTup (aCons (aC (.str "either")) (aCons (aVar 6) (aCons (aVar 4) aNil)))) (aCons (aTup (aCons (aC (.str "yes")) aNil)) aNil)))) aNil))) aNil)))
    (aSeq (aExpr (aBM "list" mAppend (aVar 7) (aCons (aLst (aCons (aC (.str "n<1 and k=1")) (aCons (aTup (aCons (aC (.str "both")) (aCons (aVar 6) (aCons (aTup (aCons (aC (.str "same")) (aCons (aVar 1) (aCons (aVar 2) aNil)))) aNil)))) aNil))) aNil)))
    (aSeq (aExpr (aBM "list" mAppend (aVar 7) (aCons (aLst (aCons (aC (.str "1 = 1 or 1 < n")) (aCons (aTup (aCons (aC (.str "either")) (aCons (aTup (aCons (aC (.str "same")) (aCons (aVar 2) (aCons (aVar 2) aNil)))) (aCons (aTup (aCons (aC (.str "below")) (aCons (aVar 2) (aCons (aVar 0) aNil)))) aNil)))) aNil))) aNil)))
    (aSeq (aExpr (aBM "list" mAppend (aVar 7) (aCons (aLst (aCons (aC (.str "not ( n ) < 1")) (aCons (aTup (aCons (aC (.str "not")) (aCons (aVar 6) aNil))) aNil))) aNil)))
    (aSeq (aExpr (aBM "list" mAppend (aVar 7) (aCons (aLst (aCons (aC (.str "in a and ( n ) < 1")) (aCons (aTup (aCons (aC (.str "both")) (aCons (aVar 3) (aCons (aVar 6) aNil)))) aNil))) aNil)))
    (aRet (aVar 7))))))))))))))))))))))))))))
theorem ok__law_good {P : Program} {w : World} {K : PySem.W.Frag} {mg : Str → Option Value} {base : Heap} {A : Ads} (T : Txt K mg A) : FnOk P w K mg base (L2.CX P w) 2 A.a__law_good A.fd__law_good [] (spOf ⟨K, cl A⟩ 0 d__law_good) := fd_of (k := 1) T.F__law_good sc__law_good (fun cdv Ar outer s H E hr => (db_cons (ds_asg (de_tup (da_cons (de_tup (da_cons de_str (da_cons de_str da_nil))) (da_cons (de_tup (da_cons de_str (da_cons de_str da_nil))) (da_cons (de_tup (da_cons de_str (da_cons de_int da_nil))) da_nil)))) (dg_seq rfl (dgs_cons (dg_name (i := 0) sc__law_good.nd rfl (by first | exact Or.inl rfl | exact Or.inr rfl)) (dgs_cons (dg_name (i := 1) sc__law_good.nd rfl (by first | exact Or.inl rfl | exact Or.inr rfl)) (dgs_cons (dg_name (i := 2) sc__law_good.nd rfl (by first | exact Or.inl rfl | exact Or.inr rfl)) dgs_nil)))))
      (db_cons (ds_asg (de_tup (da_cons (de_tup (da_cons de_str (da_cons de_str da_nil))) (da_cons (de_tup (da_cons de_str (da_cons de_str da_nil))) (da_cons (de_tup (da_cons de_str (da_cons de_str da_nil))) da_nil)))) (dg_seq rfl (dgs_cons (dg_name (i := 3) sc__law_good.nd rfl (by first | exact Or.inl rfl | exact Or.inr rfl)) (dgs_cons (dg_name (i := 4) sc__law_good.nd rfl (by first | exact Or.inl rfl | exact Or.inr rfl)) (dgs_cons (dg_name (i := 5) sc__law_good.nd rfl (by first | exact Or.inl rfl | exact Or.inr rfl)) dgs_nil)))))
      (db_cons (ds_set (i := 6) sc__law_good.nd rfl (by first | exact Or.inl rfl | exact Or.inr rfl) (de_tup (da_cons de_str (da_cons (dv 0) (da_cons (dv 2) da_nil)))))
      (db_cons (ds_set (i := 7) sc__law_good.nd rfl (by first | exact Or.inl rfl | exact Or.inr rfl) (de_lst da_nil))
      (db_cons (ds_expr (de_bm sim_append PySem.F.plainAttrs_list PySem.F.slot_list_append PySem.F.type_list_append mt_append (dv 7) (da_cons (de_lst (da_cons de_str (da_cons (de_tup (da_cons de_str (da_cons (de_tup (da_cons de_str (da_cons (dv 3) (da_cons (dv 4) da_nil)))) (da_cons (dv 5) da_nil)))) da_nil))) da_nil)))
      (db_cons (ds_expr (de_bm sim_append PySem.F.plainAttrs_list PySem.F.slot_list_append PySem.F.type_list_append mt_append (dv 7) (da_cons (de_lst (da_cons de_str (da_cons (de_tup (da_cons de_str (da_cons (dv 3) (da_cons (de_tup (da_cons de_str (da_cons (dv 4) (da_cons (dv 5) da_nil)))) da_nil)))) da_nil))) da_nil)))
      (db_cons (ds_expr (de_bm sim_append PySem.F.plainAttrs_list PySem.F.slot_list_append PySem.F.type_list_append mt_append (dv 7) (da_cons (de_lst (da_cons de_str (da_cons (de_tup (da_cons de_str (da_cons (de_tup (da_cons de_str (da_cons (dv 3) (da_cons (dv 4) da_nil)))) (da_cons (dv 5) da_nil)))) da_nil))) da_nil)))
      (db_cons (ds_expr (de_bm sim_append PySem.F.plainAttrs_list PySem.F.slot_list_append PySem.F.type_list_append mt_append (dv 7) (da_cons (de_lst (da_cons de_str (da_cons (de_tup (da_cons de_str (da_cons (de_tup (da_cons de_str (da_cons (dv 3) (da_cons (dv 4) da_nil)))) (da_cons (dv 5) da_nil)))) da_nil))) da_nil)))
      (db_cons (ds_expr (de_bm sim_append PySem.F.plainAttrs_list PySem.F.slot_list_append PySem.F.type_list_append mt_append (dv 7) (da_cons (de_lst (da_cons de_str (da_cons (de_tup (da_cons de_str (da_cons (dv 3) (da_cons (de_tup (da_cons de_str (da_cons (dv 4) (da_cons (dv 5) da_nil)))) da_nil)))) da_nil))) da_nil)))
      (db_cons (ds_expr (de_bm sim_append PySem.F.plainAttrs_list PySem.F.slot_list_append PySem.F.type_list_append mt_append (dv 7) (da_cons (de_lst (da_cons de_str (da_cons (de_tup (da_cons de_str (da_cons (de_tup (da_cons de_str (da_cons (dv 3) da_nil))) (da_cons (dv 4) da_nil)))) da_nil))) da_nil)))
      (db_cons (ds_expr (de_bm sim_append PySem.F.plainAttrs_list PySem.F.slot_list_append PySem.F.type_list_append mt_append (dv 7) (da_cons (de_lst (da_cons de_str (da_cons (de_tup (da_cons de_str (da_cons (de_tup (da_cons de_str (da_cons (dv 3) (da_cons (dv 4) da_nil)))) da_nil))) da_nil))) da_nil)))
      (db_cons (ds_expr (de_bm sim_append PySem.F.plainAttrs_list PySem.F.slot_list_append PySem.F.type_list_append mt_append (dv 7) (da_cons (de_lst (da_cons de_str (da_cons (de_tup (da_cons de_str (da_cons (de_tup (da_cons de_str (da_cons (de_tup (da_cons de_str da_nil)) da_nil))) da_nil))) da_nil))) da_nil)))
      (db_cons (ds_expr (de_bm sim_append PySem.F.plainAttrs_list PySem.F.slot_list_append PySem.F.type_list_append mt_append (dv 7) (da_cons (de_lst (da_cons de_str (da_cons (dv 6) da_nil))) da_nil)))
      (db_cons (ds_expr (de_bm sim_append PySem.F.plainAttrs_list PySem.F.slot_list_append PySem.F.type_list_append mt_append (dv 7) (da_cons (de_lst (da_cons de_str (da_cons (dv 6) da_nil))) da_nil)))
      (db_cons (ds_expr (de_bm sim_append PySem.F.plainAttrs_list PySem.F.slot_list_append PySem.F.type_list_append mt_append (dv 7) (da_cons (de_lst (da_cons de_str (da_cons (dv 6) da_nil))) da_nil)))
      (db_cons (ds_expr (de_bm sim_append PySem.F.plainAttrs_list PySem.F.slot_list_append PySem.F.type_list_append mt_append (dv 7) (da_cons (de_lst (da_cons de_str (da_cons (dv 6) da_nil))) da_nil)))
      (db_cons (ds_expr (de_bm sim_append PySem.F.plainAttrs_list PySem.F.slot_list_append PySem.F.type_list_append mt_append (dv 7) (da_cons (de_lst (da_cons de_str (da_cons (de_tup (da_cons de_str (da_cons (dv 6) da_nil))) da_nil))) da_nil)))
      (db_cons (ds_expr (de_bm sim_append PySem.F.plainAttrs_list PySem.F.slot_list_append PySem.F.type_list_append mt_append (dv 7) (da_cons (de_lst (da_cons de_str (da_cons (de_tup (da_cons de_str (da_cons (de_tup (da_cons de_str (da_cons (de_tup (da_cons de_str (da_cons (dv 0) (da_cons (dv 2) da_nil)))) (da_cons (dv 1) da_nil)))) (da_cons (dv 2) da_nil)))) da_nil))) da_nil)))
      (db_cons (ds_expr (de_bm sim_append PySem.F.plainAttrs_list PySem.F.slot_list_append PySem.F.type_list_append mt_append (dv 7) (da_cons (de_lst (da_cons de_str (da_cons (de_tup (da_cons de_str (da_cons (de_tup (da_cons de_str (da_cons (de_tup (da_cons de_str (da_cons (dv 0) (da_cons (dv 1) da_nil)))) (da_cons (dv 2) da_nil)))) (da_cons (de_tup (da_cons de_str (da_cons (dv 0) (da_cons (de_tup (da_cons de_str (da_cons (dv 1) (da_cons (dv 2) da_nil)))) da_nil)))) da_nil)))) da_nil))) da_nil)))
      (db_cons (ds_expr (de_bm sim_append PySem.F.plainAttrs_list PySem.F.slot_list_append PySem.F.type_list_append mt_append (dv 7) (da_cons (de_lst (da_cons de_str (da_cons (de_tup (da_cons de_str (da_cons (de_tup (da_cons de_str (da_cons (dv 6) (da_cons (dv 3) da_nil)))) (da_cons (de_tup (da_cons de_str da_nil)) da_nil)))) da_nil))) da_nil)))
      (db_cons (ds_expr (de_bm sim_append PySem.F.plainAttrs_list PySem.F.slot_list_append PySem.F.type_list_append mt_append (dv 7) (da_cons (de_lst (da_cons de_str (da_cons (de_tup (da_cons de_str (da_cons (de_tup (da_cons de_str (da_cons (dv 0) (da_cons (dv 2) da_nil)))) (da_cons (dv 1) da_nil)))) da_nil))) da_nil)))
      (db_cons (ds_expr (de_bm sim_append PySem.F.plainAttrs_list PySem.F.slot_list_append PySem.F.type_list_append mt_append (dv 7) (da_cons (de_lst (da_cons de_str (da_cons (de_tup (da_cons de_str (da_cons (de_tup (da_cons de_str (da_cons (dv 6) (da_cons (dv 4) da_nil)))) (da_cons (de_tup (da_cons de_str da_nil)) da_nil)))) da_nil))) da_nil)))
      (db_cons (ds_expr (de_bm sim_append PySem.F.plainAttrs_list PySem.F.slot_list_append PySem.F.type_list_append mt_append (dv 7) (da_cons (de_lst (da_cons de_str (da_cons (de_tup (da_cons de_str (da_cons (dv 6) (da_cons (de_tup (da_cons de_str (da_cons (dv 1) (da_cons (dv 2) da_nil)))) da_nil)))) da_nil))) da_nil)))
      (db_cons (ds_expr (de_bm sim_append PySem.F.plainAttrs_list PySem.F.slot_list_append PySem.F.type_list_append mt_append (dv 7) (da_cons (de_lst (da_cons de_str (da_cons (de_tup (da_cons de_str (da_cons (de_tup (da_cons de_str (da_cons (dv 2) (da_cons (dv 2) da_nil)))) (da_cons (de_tup (da_cons de_str (da_cons (dv 2) (da_cons (dv 0) da_nil)))) da_nil)))) da_nil))) da_nil)))
      (db_cons (ds_expr (de_bm sim_append PySem.F.plainAttrs_list PySem.F.slot_list_append PySem.F.type_list_append mt_append (dv 7) (da_cons (de_lst (da_cons de_str (da_cons (de_tup (da_cons de_str (da_cons (dv 6) da_nil))) da_nil))) da_nil)))
      (db_cons (ds_expr (de_bm sim_append PySem.F.plainAttrs_list PySem.F.slot_list_append PySem.F.type_list_append mt_append (dv 7) (da_cons (de_lst (da_cons de_str (da_cons (de_tup (da_cons de_str (da_cons (dv 3) (da_cons (dv 6) da_nil)))) da_nil))) da_nil)))
      (db_one (ds_ret (dv 7))))))))))))))))))))))))))))))
def d__law_bad : List A → AH → Res A := defA 1 (aSeq (aSet 0 (aLst aNil))
    (aSeq (aExpr (aBM "list" mAppend (aVar 0) (aCons (aLst (aCons (aC (.str "n")) (aCons (aC (.int 2)) aNil))) aNil)))
    (aSeq (aExpr (aBM "list" mAppend (aVar 0) (aCons (aLst (aCons (aC (.str "( n )")) (aCons (aC (.int 6)) aNil))) aNil)))
    (aSeq (aExpr (aBM "list" mAppend (aVar 0) (aCons (aLst (aCons (aC (.str "n and in a")) (aCons (aC (.int 3)) aNil))) aNil)))
    (aSeq (aExpr (aBM "list" mAppend (aVar 0) (aCons (aLst (aCons (aC (.str "( n and yes )")) (aCons (aC (.int 5)) aNil))) aNil)))
    (aSeq (aExpr (aBM "list" mAppend (aVar 0) (aCons (aLst (aCons (aC (.str "( n < 1 ) < 1")) (aCons (aC (.int 11)) aNil))) aNil)))
    (aSeq (aExpr (aBM "list" mAppend (aVar 0) (aCons (aLst (aCons (aC (.str "( yes ) + 1")) (aCons (aC (.int 9)) aNil))) aNil)))
    (aSeq (aExpr (aBM "list" mAppend (aVar 0) (aCons (aLst (aCons (aC (.str "in 3")) (aCons (aC (.int 4)) aNil))) aNil)))
    (aSeq (aExpr (aBM "list" mAppend (aVar 0) (aCons (aLst (aCons (aC (.str "not n")) (aCons (aC (.int 6)) aNil))) aNil)))
    (aSeq (aExpr (aBM "list" mAppend (aVar 0) (aCons (aLst (aCons (aC (.str "n < ( in a )")) (aCons (aC (.int 7)) aNil))) aNil)))
    (aSeq (aExpr (aBM "list" mAppend (aVar 0) (aCons (aLst (aCons (aC (.str "n + ( k < 1 ) = 1")) (aCons (aC (.int 9)) aNil))) aNil)))
    (aSeq (aExpr (aBM "list" mAppend (aVar 0) (aCons (aLst (aCons (aC (.str "n < 1 < 2")) (aCons (aC (.int 7)) aNil))) aNil)))
    (aSeq (aExpr (aBM "list" mAppend (aVar 0) (aCons (aLst (aCons (aC (.str "yes yes")) (aCons (aC (.int 5)) aNil))) aNil)))
    (aSeq (aExpr (aBM "list" mAppend (aVar 0) (aCons (aLst (aCons (aC (.str "( ( n )")) (aCons (aC (.int 8)) aNil))) aNil)))
    (aSeq (aExpr (aBM "list" mAppend (aVar 0) (aCons (aLst (aCons (aC (.str "n < 1 or")) (aCons (aC (.int 9)) aNil))) aNil)))
    (aSeq (aExpr (aBM "list" mAppend (aVar 0) (aCons (aLst (aCons (aC (.str "n = = 1")) (aCons (aC (.int 5)) aNil))) aNil)))
    (aSeq (aExpr (aBM "list" mAppend (aVar 0) (aCons (aLst (aCons (aC (.str "and")) (aCons (aC (.int 1)) aNil))) aNil)))
    (aSeq (aExpr (aBM "list" mAppend (aVar 0) (aCons (aLst (aCons (aC (.str "( )")) (aCons (aC (.int 3)) aNil))) aNil)))
    (aSeq (aExpr (aBM "list" mAppend (aVar 0) (aCons (aLst (aCons (aC (.str "n < 01")) (aCons (aC (.int 6)) aNil))) aNil)))
    (aSeq (aExpr (aBM "list" mAppend (aVar 0) (aCons (aLst (aCons (aC (.str "n < 1x")) (aCons (aC (.int 6)) aNil))) aNil)))
    (aSeq (aExpr (aBM "list" mAppend (aVar 0) (aCons (aLst (aCons (aC (.str "nine45678 < 1")) (aCons (aC (.int 9)) aNil))) aNil)))
    (aSeq (aExpr (aBM "list" mAppend (aVar 0) (aCons (aLst (aCons (aC (.str "n < 1234567891")) (aCons (aC (.int 14)) aNil))) aNil)))
    (aSeq (aExpr (aBM "list" mAppend (aVar 0) (aCons (aLst (aCons (aC (.str "not ( n < 1 ) < 1")) (aCons (aC (.int 15)) aNil))) aNil)))
    (aSeq (aExpr (aBM "list" mAppend (aVar 0) (aCons (aLst (aCons (aC (.str "yes and ( n )")) (aCons (aC (.int 14)) aNil))) aNil)))
    (aRet (aVar 0))))))))))))))))))))))))))
theorem ok__law_bad {P : Program} {w : World} {K : PySem.W.Frag} {mg : Str → Option Value} {base : Heap} {A : Ads} (T : Txt K mg A) : FnOk P w K mg base (L2.CX P w) 2 A.a__law_bad A.fd__law_bad [] (spOf ⟨K, cl A⟩ 0 d__law_bad) := fd_of (k := 1) T.F__law_bad sc__law_bad (fun cdv Ar outer s H E hr => (db_cons (ds_set (i := 0) sc__law_bad.nd rfl (by first | exact Or.inl rfl | exact Or.inr rfl) (de_lst da_nil))
      (db_cons (ds_expr (de_bm sim_append PySem.F.plainAttrs_list PySem.F.slot_list_append PySem.F.type_list_append mt_append (dv 0) (da_cons (de_lst (da_cons de_str (da_cons de_int da_nil))) da_nil)))
      (db_cons (ds_expr (de_bm sim_append PySem.F.plainAttrs_list PySem.F.slot_list_append PySem.F.type_list_append mt_append (dv 0) (da_cons (de_lst (da_cons de_str (da_cons de_int da_nil))) da_nil)))
      (db_cons (ds_expr (de_bm sim_append PySem.F.plainAttrs_list PySem.F.slot_list_append PySem.F.type_list_append mt_append (dv 0) (da_cons (de_lst (da_cons de_str (da_cons de_int da_nil))) da_nil)))
      (db_cons (ds_expr (de_bm sim_append PySem.F.plainAttrs_list PySem.F.slot_list_append PySem.F.type_list_append mt_append (dv 0) (da_cons (de_lst (da_cons de_str (da_cons de_int da_nil))) da_nil)))
      (db_cons (ds_expr (de_bm sim_append PySem.F.plainAttrs_list PySem.F.slot_list_append PySem.F.type_list_append mt_append (dv 0) (da_cons (de_lst (da_cons de_str (da_cons de_int da_nil))) da_nil)))
      (db_cons (ds_expr (de_bm sim_append PySem.F.plainAttrs_list PySem.F.slot_list_append PySem.F.type_list_append mt_append (dv 0) (da_cons (de_lst (da_cons de_str (da_cons de_int da_nil))) da_nil)))
      (db_cons (ds_expr (de_bm sim_append PySem.F.plainAttrs_list PySem.F.slot_list_append PySem.F.type_list_append mt_append (dv 0) (da_cons (de_lst (da_cons de_str (da_cons de_int da_nil))) da_nil)))
      (db_cons (ds_expr (de_bm sim_append PySem.F.plainAttrs_list PySem.F.slot_list_append PySem.F.type_list_append mt_append (dv 0) (da_cons (de_lst (da_cons de_str (da_cons de_int da_nil))) da_nil)))
      (db_cons (ds_expr (de_bm sim_append PySem.F.plainAttrs_list PySem.F.slot_list_append PySem.F.type_list_append mt_append (dv 0) (da_cons (de_lst (da_cons de_str (da_cons de_int da_nil))) da_nil)))
      (db_cons (ds_expr (de_bm sim_append PySem.F.plainAttrs_list PySem.F.slot_list_append PySem.F.type_list_append mt_append (dv 0) (da_cons (de_lst (da_cons de_str (da_cons de_int da_nil))) da_nil)))
      (db_cons (ds_expr (de_bm sim_append PySem.F.plainAttrs_list PySem.F.slot_list_append PySem.F.type_list_append mt_append (dv 0) (da_cons (de_lst (da_cons de_str (da_cons de_int da_nil))) da_nil)))
      (db_cons (ds_expr (de_bm sim_append PySem.F.plainAttrs_list PySem.F.slot_list_append PySem.F.type_list_append mt_append (dv 0) (da_cons (de_lst (da_cons de_str (da_cons de_int da_nil))) da_nil)))
      (db_cons (ds_expr (de_bm sim_append PySem.F.plainAttrs_list PySem.F.slot_list_append PySem.F.type_list_append mt_append (dv 0) (da_cons (de_lst (da_cons de_str (da_cons de_int da_nil))) da_nil)))
      (db_cons (ds_expr (de_bm sim_append PySem.F.plainAttrs_list PySem.F.slot_list_append PySem.F.type_list_append mt_append (dv 0) (da_cons (de_lst (da_cons de_str (da_cons de_int da_nil))) da_nil)))
      (db_cons (ds_expr (de_bm sim_append PySem.F.plainAttrs_list PySem.F.slot_list_append PySem.F.type_list_append mt_append (dv 0) (da_cons (de_lst (da_cons de_str (da_cons de_int da_nil))) da_nil)))
      (db_cons (ds_expr (de_bm sim_append PySem.F.plainAttrs_list PySem.F.slot_list_append PySem.F.type_list_append mt_append (dv 0) (da_cons (de_lst (da_cons de_str (da_cons de_int da_nil))) da_nil)))
      (db_cons (ds_expr (de_bm sim_append PySem.F.plainAttrs_list PySem.F.slot_list_append PySem.F.type_list_append mt_append (dv 0) (da_cons (de_lst (da_cons de_str (da_cons de_int da_nil))) da_nil)))
      (db_cons (ds_expr (de_bm sim_append PySem.F.plainAttrs_list PySem.F.slot_list_append PySem.F.type_list_append mt_append (dv 0) (da_cons (de_lst (da_cons de_str (da_cons de_int da_nil))) da_nil)))
      (db_cons (ds_expr (de_bm sim_append PySem.F.plainAttrs_list PySem.F.slot_list_append PySem.F.type_list_append mt_append (dv 0) (da_cons (de_lst (da_cons de_str (da_cons de_int da_nil))) da_nil)))
      (db_cons (ds_expr (de_bm sim_append PySem.F.plainAttrs_list PySem.F.slot_list_append PySem.F.type_list_append mt_append (dv 0) (da_cons (de_lst (da_cons de_str (da_cons de_int da_nil))) da_nil)))
      (db_cons (ds_expr (de_bm sim_append PySem.F.plainAttrs_list PySem.F.slot_list_append PySem.F.type_list_append mt_append (dv 0) (da_cons (de_lst (da_cons de_str (da_cons de_int da_nil))) da_nil)))
      (db_cons (ds_expr (de_bm sim_append PySem.F.plainAttrs_list PySem.F.slot_list_append PySem.F.type_list_append mt_append (dv 0) (da_cons (de_lst (da_cons de_str (da_cons de_int da_nil))) da_nil)))
      (db_cons (ds_expr (de_bm sim_append PySem.F.plainAttrs_list PySem.F.slot_list_append PySem.F.type_list_append mt_append (dv 0) (da_cons (de_lst (da_cons de_str (da_cons de_int da_nil))) da_nil)))
      (db_one (ds_ret (dv 0))))))))))))))))))))))))))))
def d__law_row_of : List A → AH → Res A := defA 1 (aRet (aLst (aCons (aC (.str "on tap")) (aCons (aC (.str "one top")) (aCons (aBin fAdd (aC (.str "  go on tap if ")) (aVar 0)) (aCons (aC (.str "  leaf a")) aNil))))))
theorem ok__law_row_of {P : Program} {w : World} {K : PySem.W.Frag} {mg : Str → Option Value} {base : Heap} {A : Ads} (T : Txt K mg A) : FnOk P w K mg base (L2.CX P w) 2 A.a__law_row_of A.fd__law_row_of ["_law_line"] (spOf ⟨K, cl A⟩ 1 d__law_row_of) := fd_of (k := 1) T.F__law_row_of sc__law_row_of (fun cdv Ar outer s H E hr => (db_one (ds_ret (de_lst (da_cons de_str (da_cons de_str (da_cons (de_op op_addU sim_add de_str (dv 0)) (da_cons de_str da_nil))))))))
end K06
set_option Elab.async false
set_option linter.all false
set_option maxRecDepth 100000
set_option maxHeartbeats 8000000
namespace K06
open PySem PySem.Spec PyProof.Rows L2 SA
def rc : List A → AH → Res A := pure1 d_read_chart
section
variable {P : Program} {w : World} {K : PySem.W.Frag} {mg : Str → Option Value} {base : Heap} {A : Ads}
theorem ok_rc (T : Txt K mg A) : FnOk P w K mg base (L2.CX P w) 159 A.a_read_chart A.fd_read_chart ["text"] (spOf ⟨K, cl A⟩ 1 rc) := fd_pure1 (ok_read_chart T)
theorem ok_good (T : Txt K mg A) : FnOk P w K mg base (L2.CX P w) 2 A.a__law_good A.fd__law_good [] (spOf ⟨K, cl A⟩ 0 (frm d__law_good)) := fd_frm (ok__law_good T)
theorem ok_bad (T : Txt K mg A) : FnOk P w K mg base (L2.CX P w) 2 A.a__law_bad A.fd__law_bad [] (spOf ⟨K, cl A⟩ 0 (frm d__law_bad)) := fd_frm (ok__law_bad T)
end
def w_law_0 : AC := (aSeq (aAsg (gSq 2 (gsCons (gNm 9) (gsCons (gNm 10) gsNil))) (aCallF 2 d__law_pick (aCons (aVar 2) (aCons (aCallF 0 (frm d__law_good) aNil) aNil))))
    (aSeq (aSet 4 (aBin fIx (aLst (aCons (aC (.str "")) (aCons (aC (.str " do say hi n - ( 1 - k )")) aNil))) (aCallF 2 d__law_take (aCons (aVar 2) (aCons (aC (.int 2)) aNil)))))
    (aSeq (aSet 5 (aBin fIx (aBin fIx (aBin fIx (aCallF 1 rc (aCons (aCallF 1 d__law_row_of (aCons (aBin fAdd (aVar 9) (aVar 4)) aNil)) aNil)) (aC (.int 2))) (aC (.int 5))) (aC (.int 0))))
    (aSeq (aIfS (aOr (aTest (aBin (eqA true) (aSl (aVar 5) aNoPart (aPart (aC (.int 2)))) (aTup (aCons (aTup (aCons (aC (.str "on")) (aCons (aC (.str "tap")) aNil))) (aCons (aVar 10) aNil))))) (aTest (aBin (eqA true) (aBin fIx (aVar 5) (aC (.int 3))) (aTup aNil)))) (aRet (aC (.bl false))) aPass)
    (aSeq (aSet 6 (aTup (aCons (aTup (aCons (aC (.str "say")) (aCons (aC (.str "hi")) (aCons (aTup (aCons (aC (.str "less")) (aCons (aTup (aCons (aC (.str "fact")) (aCons (aC (.str "n")) aNil))) (aCons (aTup (aCons (aC (.str "less")) (aCons (aTup (aCons (aC (.str "num")) (aCons (aC (.int 1)) aNil))) (aCons (aTup (aCons (aC (.str "fact")) (aCons (aC (.str "k")) aNil))) aNil)))) aNil)))) aNil)))) aNil)))
    (aSeq (aIfS (aTest (aBin (eqA true) (aBin fIx (aVar 5) (aC (.int 2))) (aBin fIx (aLst (aCons (aTup aNil) (aCons (aVar 6) aNil))) (aCall cInt (aCons (aBin (eqA true) (aVar 4) (aC (.str ""))) aNil))))) (aRet (aC (.bl false))) aPass)
    (aSeq (aAsg (gSq 2 (gsCons (gNm 9) (gsCons (gNm 11) gsNil))) (aCallF 2 d__law_pick (aCons (aVar 2) (aCons (aCallF 0 (frm d__law_bad) aNil) aNil))))
    (aSeq (aSet 7 (aC .non))
    (aSeq (aTryT 2 8 7 "row" "column" (aExpr (aCallF 1 rc (aCons (aCallF 1 d__law_row_of (aCons (aVar 9) aNil)) aNil))))
    (aIfS (aTest (aBin (eqA true) (aVar 7) (aTup (aCons (aC (.int 3)) (aCons (aBin fAdd (aVar 11) (aC (.int 15))) aNil))))) (aRet (aC (.bl false))) aPass))))))))))
def w_law_1 : AC := (aSeq (aSet 2 (aCallF 2 d__law_purse (aCons (aCallF 2 d__law_at (aCons (aVar 0) (aCons (aVar 1) aNil))) (aCons (aVar 1) aNil))))
    (aFor (aRng1 (aCons (aC (.int 6)) aNil)) (gNm 3) w_law_0 200))
def d_law : List A → AH → Res A := defA 12 (aSeq (aFor (aRng1 (aCons (aBin fAdd (aC (.int 2)) (aCall cMin (aCons (aCall cLen (aCons (aVar 0) aNil)) (aCons (aC (.int 4)) aNil)))) aNil)) (gNm 1) w_law_1 200)
    (aRet (aC (.bl true))))
theorem ok_law {P : Program} {w : World} {K : PySem.W.Frag} {mg : Str → Option Value} {base : Heap} {A : Ads} (T : Txt K mg A) : FnOk P w K mg base (L2.CX P w) 160 A.a_law A.fd_law ["_law_script"] (spOf ⟨K, cl A⟩ 1 d_law) := fd_of (k := 159) T.F_law sc_law (fun cdv Ar outer s H E hr => (db_cons (ds_for 200 (passes_of rfl) rfl (di_rng1 (by rfl) T.n_range (da_cons (de_op op_addU sim_add de_int (de_callB sim_min (call_min2 rfl) (by rfl) T.n_min (by decide +kernel) (da_cons (de_callB sim_len call_lenU (by rfl) T.n_len (by decide +kernel) (da_cons (dv 0) da_nil)) (da_cons de_int da_nil)))) da_nil)) (dg_name (i := 1) sc_law.nd rfl (by first | exact Or.inl rfl | exact Or.inr rfl)) (db_cons (ds_set (i := 2) sc_law.nd rfl (by first | exact Or.inl rfl | exact Or.inr rfl) (de_call (ok__law_purse (P := P) (w := w) (base := base) T) (hr.mono (by first | decide | omega)) rfl T.g__law_purse T.F__law_purse.kp T.b__law_purse (takes_of rfl rfl rfl rfl) (da_cons (de_call (ok__law_at (P := P) (w := w) (base := base) T) (hr.mono (by first | decide | omega)) rfl T.g__law_at T.F__law_at.kp T.b__law_at (takes_of rfl rfl rfl rfl) (da_cons (dv 0) (da_cons (dv 1) da_nil))) (da_cons (dv 1) da_nil))))
      (db_one (ds_for 200 (passes_of rfl) rfl (di_rng1 (by rfl) T.n_range (da_cons de_int da_nil)) (dg_name (i := 3) sc_law.nd rfl (by first | exact Or.inl rfl | exact Or.inr rfl)) (db_cons (ds_asg (de_call (ok__law_pick (P := P) (w := w) (base := base) T) (hr.mono (by first | decide | omega)) rfl T.g__law_pick T.F__law_pick.kp T.b__law_pick (takes_of rfl rfl rfl rfl) (da_cons (dv 2) (da_cons (de_call0 (ok_good (P := P) (w := w) (base := base) T) (hr.mono (by first | decide | omega)) rfl T.g__law_good T.F__law_good.kp T.b__law_good (takes_of rfl rfl rfl rfl)) da_nil))) (dg_seq rfl (dgs_cons (dg_name (i := 9) sc_law.nd rfl (by first | exact Or.inl rfl | exact Or.inr rfl)) (dgs_cons (dg_name (i := 10) sc_law.nd rfl (by first | exact Or.inl rfl | exact Or.inr rfl)) dgs_nil))))
      (db_cons (ds_set (i := 4) sc_law.nd rfl (by first | exact Or.inl rfl | exact Or.inr rfl) (de_ix (hu_of hr) (de_lst (da_cons de_str (da_cons de_str da_nil))) (de_call (ok__law_take (P := P) (w := w) (base := base) T) (hr.mono (by first | decide | omega)) rfl T.g__law_take T.F__law_take.kp T.b__law_take (takes_of rfl rfl rfl rfl) (da_cons (dv 2) (da_cons de_int da_nil))) (fun _ _ => rfl)))
      (db_cons (ds_set (i := 5) sc_law.nd rfl (by first | exact Or.inl rfl | exact Or.inr rfl) (de_ix (hu_of hr) (de_ix (hu_of hr) (de_ix (hu_of hr) (de_call (ok_rc (P := P) (w := w) (base := base) T) (hr.mono (by first | decide | omega)) rfl T.g_read_chart T.F_read_chart.kp T.b_read_chart (takes_of rfl rfl rfl rfl) (da_cons (de_call (ok__law_row_of (P := P) (w := w) (base := base) T) (hr.mono (by first | decide | omega)) rfl T.g__law_row_of T.F__law_row_of.kp T.b__law_row_of (takes_of rfl rfl rfl rfl) (da_cons (de_op op_addU sim_add (dv 9) (dv 4)) da_nil)) da_nil)) de_int (fun _ _ => rfl)) de_int (fun _ _ => rfl)) de_int (fun _ _ => rfl)))
      (db_cons (ds_if (dt_w (dw_or (dt_cmp (op_neU hr.units) sim_eq (de_sl (dv 5) dp_none (dp_some de_int)) (de_tup (da_cons (de_tup (da_cons de_str (da_cons de_str da_nil))) (da_cons (dv 10) da_nil))) (nomark _)) (dw_or1 (dt_cmp (op_neU hr.units) sim_eq (de_ix (hu_of hr) (dv 5) de_int (fun _ _ => rfl)) (de_tup da_nil) (nomark _))))) (db_one (ds_ret de_bl)) db_nil)
      (db_cons (ds_set (i := 6) sc_law.nd rfl (by first | exact Or.inl rfl | exact Or.inr rfl) (de_tup (da_cons (de_tup (da_cons de_str (da_cons de_str (da_cons (de_tup (da_cons de_str (da_cons (de_tup (da_cons de_str (da_cons de_str da_nil))) (da_cons (de_tup (da_cons de_str (da_cons (de_tup (da_cons de_str (da_cons de_int da_nil))) (da_cons (de_tup (da_cons de_str (da_cons de_str da_nil))) da_nil)))) da_nil)))) da_nil)))) da_nil)))
      (db_cons (ds_if (dt_cmp (op_neU hr.units) sim_eq (de_ix (hu_of hr) (dv 5) de_int (fun _ _ => rfl)) (de_ix (hu_of hr) (de_lst (da_cons (de_tup da_nil) (da_cons (dv 6) da_nil))) (de_callTy sim_intU call_intU (by rfl) T.n_int (by decide +kernel) (da_cons (de_cmp (op_neU hr.units) sim_eq (dv 4) de_str (nomark _)) da_nil)) (fun _ _ => rfl)) (nomark _)) (db_one (ds_ret de_bl)) db_nil)
      (db_cons (ds_asg (de_call (ok__law_pick (P := P) (w := w) (base := base) T) (hr.mono (by first | decide | omega)) rfl T.g__law_pick T.F__law_pick.kp T.b__law_pick (takes_of rfl rfl rfl rfl) (da_cons (dv 2) (da_cons (de_call0 (ok_bad (P := P) (w := w) (base := base) T) (hr.mono (by first | decide | omega)) rfl T.g__law_bad T.F__law_bad.kp T.b__law_bad (takes_of rfl rfl rfl rfl)) da_nil))) (dg_seq rfl (dgs_cons (dg_name (i := 9) sc_law.nd rfl (by first | exact Or.inl rfl | exact Or.inr rfl)) (dgs_cons (dg_name (i := 11) sc_law.nd rfl (by first | exact Or.inl rfl | exact Or.inr rfl)) dgs_nil))))
      (db_cons (ds_set (i := 7) sc_law.nd rfl (by first | exact Or.inl rfl | exact Or.inr rfl) de_non)
      (db_cons (ds_tryT (i := 8) (y := 7) (C := 2) rfl rfl sc_law.nd rfl rfl rfl rfl (by decide) (by decide) (by decide) ⟨rfl, by decide, .inl T.g_NoText⟩ (takes_of rfl rfl rfl rfl) T.te_NoText T.xf_NoText T.no_NoText_row T.no_NoText_column (fun W pn xe tk po => (db_one (ds_expr (de_call (ok_rc (P := P) (w := w) (base := base) T) (hr.mono (by first | decide | omega)) rfl T.g_read_chart T.F_read_chart.kp T.b_read_chart tk (da_cons (de_call (ok__law_row_of (P := P) (w := w) (base := base) T) (hr.mono (by first | decide | omega)) rfl T.g__law_row_of T.F__law_row_of.kp T.b__law_row_of tk (da_cons (dv 9) da_nil)) da_nil))))) (fun a oe cls d pn hz hf => pss_one (ps_set (i := 7) sc_law.nd rfl (by first | exact Or.inl rfl | exact Or.inr rfl) (pe_tup (pa_cons (pe_xf T.xf_NoText T.no_NoText_row hz hf (pv 8)) (pa_cons (pe_xf T.xf_NoText T.no_NoText_column hz hf (pv 8)) pa_nil))))))
      (db_one (ds_if (dt_cmp (op_neU hr.units) sim_eq (dv 7) (de_tup (da_cons de_int (da_cons (de_op op_addU sim_add (dv 11) de_int) da_nil))) (nomark _)) (db_one (ds_ret de_bl)) db_nil)))))))))))))))
      (db_one (ds_ret de_bl))))
end K06
set_option Elab.async false
set_option linter.all false
set_option maxRecDepth 100000
set_option maxHeartbeats 4000000
namespace K06
open PySem PySem.Spec PyProof.Rows L2 SA
theorem pow_ok {i j : Int} {h : AH} (hc : (decide (0 ≤ j) && decide ((Builtin.Int.intBits i : Int) * j ≤ 2 ^ 27)) = true) : fPow (.int i) (.int j) h = .ok (.int (i ^ j.toNat)) h := ifB_pos hc
theorem p18 (h : AH) : fPow (.int 10) (.int 18) h = .ok (.int 1000000000000000000) h := pow_ok (by decide +kernel)
theorem p60 (h : AH) : fPow (.int 10) (.int 60) h = .ok (.int 1000000000000000000000000000000000000000000000000000000000000) h := pow_ok (by decide +kernel)
theorem p600 (h : AH) : fPow (.int 1000000000000000000000000000000000000000000000000000000000000) (.int 10) h = .ok (.int (1000000000000000000000000000000000000000000000000000000000000 ^ 10)) h := pow_ok (by decide +kernel)
def mx (c k : Int) : Int :=
  ((((c % 1000000000000000009 + 7 * k) * 739108512309184756019283746561 + 7919 * k + 1) * ((c % 1000000000000000009 + 7 * k) * 739108512309184756019283746561 + 7919 * k + 1)) % 1000000000000000000000000000000000000000000000000000000000007 + 40503) *
  ((((c % 1000000000000000009 + 7 * k) * 739108512309184756019283746561 + 7919 * k + 1) * ((c % 1000000000000000009 + 7 * k) * 739108512309184756019283746561 + 7919 * k + 1)) % 1000000000000000000000000000000000000000000000000000000000007 + 57) % 1000000000000000000000000000000000000000000000000000000000007
theorem mx_lo (c k : Int) : 0 ≤ mx c k := Int.emod_nonneg _ (by decide)
theorem mx_hi (c k : Int) : mx c k < 1000000000000000000000000000000000000000000000000000000000007 := Int.emod_lt_of_pos _ (by decide)
theorem e_mixed {c k : Int} {h : AH} (h0 : 0 ≤ k) (h1 : k < 18446744073709551616) : d__law_mixed [.int c, .int k] h = .ok (.int (mx c k)) h := by
  have r0 : 0 ≤ c % 1000000000000000009 := Int.emod_nonneg _ (by decide)
  have r1 : c % 1000000000000000009 < 1000000000000000009 := Int.emod_lt_of_pos _ (by decide)
  have q18 : ∀ (ρ : AS) (h : AH), aBin fAdd (aBin fPow (aC (.int 10)) (aC (.int 18))) (aC (.int 9)) ρ h = .ok (.int 1000000000000000009) h := fun ρ h => (ok_bin ((ok_bin ok_c ok_c).trans (p18 h)) ok_c).trans fAdd_int
  have q60 : ∀ (ρ : AS) (h : AH), aBin fAdd (aBin fPow (aC (.int 10)) (aC (.int 60))) (aC (.int 7)) ρ h = .ok (.int 1000000000000000000000000000000000000000000000000000000000007) h := fun ρ h => (ok_bin ((ok_bin ok_c ok_c).trans (p60 h)) ok_c).trans fAdd_int
  refine def_rt ?_
  refine (aSeq_nx (nx_set (a := .int ((c % 1000000000000000009 + 7 * k) * 739108512309184756019283746561 + 7919 * k + 1)) (h1 := h) ?_)).trans ?_
  · refine (ok_bin ((ok_bin ((ok_bin ((ok_bin ((ok_bin rfl (q18 _ _)).trans (mod_ok (by decide))) ((ok_bin ok_c rfl).trans (mul_ok (n := 4) (m := 64) (by decide) (by omega) (by decide) (by decide) (by decide)))).trans fAdd_int) ok_c).trans (mul_ok (n := 70) (m := 100) (by omega) (by decide) (by decide) (by decide) (by decide))) ((ok_bin ok_c rfl).trans (mul_ok (n := 13) (m := 64) (by decide) (by omega) (by decide) (by decide) (by decide)))).trans fAdd_int) ok_c).trans fAdd_int
  have b1 : 0 ≤ (c % 1000000000000000009 + 7 * k) * 739108512309184756019283746561 + 7919 * k + 1 := by omega
  have b2 : (c % 1000000000000000009 + 7 * k) * 739108512309184756019283746561 + 7919 * k + 1 < 2 ^ 180 := by omega
  unfold mx
  generalize (c % 1000000000000000009 + 7 * k) * 739108512309184756019283746561 + 7919 * k + 1 = n at b1 b2 ⊢
  refine (aSeq_nx (nx_set (a := .int (n * n % 1000000000000000000000000000000000000000000000000000000000007)) (h1 := h) ?_)).trans ?_
  · exact (ok_bin ((ok_bin rfl rfl).trans (mul_ok (n := 180) (m := 180) (by omega) (by omega) (by decide) (by decide) (by decide))) (q60 _ _)).trans (mod_ok (by decide))
  have b3 : 0 ≤ n * n % 1000000000000000000000000000000000000000000000000000000000007 := Int.emod_nonneg _ (by decide)
  have b4 : n * n % 1000000000000000000000000000000000000000000000000000000000007 < 1000000000000000000000000000000000000000000000000000000000007 := Int.emod_lt_of_pos _ (by decide)
  generalize n * n % 1000000000000000000000000000000000000000000000000000000000007 = r at b3 b4 ⊢
  refine rt_ret ?_
  exact (ok_bin ((ok_bin ((ok_bin rfl ok_c).trans fAdd_int) ((ok_bin rfl ok_c).trans fAdd_int)).trans (mul_ok (n := 210) (m := 210) (by omega) (by omega) (by decide) (by decide) (by decide))) (q60 _ _)).trans (mod_ok (by decide))
/-! ### drawn -/
def tkA (a b c far : Int) : Int := if a < far then a + far * mx c (11 * (b + 1) + 5) else a
def tkB (a b far : Int) : Int := if a < far then b + 1 else b
theorem set_set {h : AH} {n : Nat} {x y : AO} : (h.set n x).set n y = h.set n y := List.set_set ..
theorem e_take {h : AH} {p : Nat} {a b c far : Int} (hp : lstAt h p = some [.int a, .int b, .int c]) (hb : 0 ≤ b) (hb2 : b < 1000) (hf : 0 < far) (hf2 : far ≤ 1000) :
    d__law_take [.loc p, .int far] h = .ok (.int (tkA a b c far % far)) (h.set p (.lst [.int (tkA a b c far / far), .int (tkB a b far), .int c])) := by
  have hl := lstAt_lt hp
  refine def_rt ?_
  have fin : ∀ (h : AH) (a b : Int), lstAt h p = some [.int a, .int b, .int c] → (aSeq (aSet 2 (aBin fMod (aBin fIx (aVar 0) (aC (.int 0))) (aVar 1))) (aSeq (aSetL (aVar 0) (aC (.int 0)) (aBin fDiv (aBin fIx (aVar 0) (aC (.int 0))) (aVar 1))) (aRet (aVar 2)))) [some (.loc p), some (.int far), none] h = .rt (.int (a % far)) (h.set p (.lst [.int (a / far), .int b, .int c])) := by
    intro h a b hp
    refine (aSeq_nx (nx_set (a := .int (a % far)) (h1 := h) ((ok_bin ((ok_bin rfl ok_c).trans (ix_lst hp rfl)) rfl).trans (mod_ok hf)))).trans ?_
    refine (aSeq_nx (nx_setL (j := 0) (v := .int (a / far)) (h1 := h) ((ok_bin ((ok_bin rfl ok_c).trans (ix_lst hp rfl)) rfl).trans (div_ok (m := 10) hf (by omega) (by decide) (by decide))) rfl ok_c hp rfl)).trans ?_
    exact rt_ret rfl
  by_cases z : a < far
  · unfold tkA tkB
    rw [if_pos z, if_pos z]
    have h1p : lstAt (h.set p (.lst [.int a, .int (b + 1), .int c])) p = some [.int a, .int (b + 1), .int c] := lstAt_set hl
    have h2p : lstAt ((h.set p (.lst [.int a, .int (b + 1), .int c])).set p (.lst [.int (a + far * mx c (11 * (b + 1) + 5)), .int (b + 1), .int c])) p = some [.int (a + far * mx c (11 * (b + 1) + 5)), .int (b + 1), .int c] := lstAt_set (by rw [List.length_set]; exact hl)
    refine (aSeq_nx (ρ' := [some (.loc p), some (.int far), none]) (h' := (h.set p (.lst [.int a, .int (b + 1), .int c])).set p (.lst [.int (a + far * mx c (11 * (b + 1) + 5)), .int (b + 1), .int c])) ?_).trans ?_
    · refine (if_t' (h1 := h) ?_).trans ?_
      · refine ok_test ((ok_bin ((ok_bin rfl ok_c).trans (ix_lst hp rfl)) rfl).trans ?_)
        rw [fLt_int, decide_eq_true z]
      · refine (aSeq_nx (nx_setL (j := 1) (v := .int (b + 1)) (h1 := h) ((ok_bin ((ok_bin rfl ok_c).trans (ix_lst hp rfl)) ok_c).trans fAdd_int) rfl ok_c hp rfl)).trans ?_
        have m1 := mx_lo c (11 * (b + 1) + 5)
        have m2 := mx_hi c (11 * (b + 1) + 5)
        refine nx_setL (j := 0) (h1 := (h.set p (.lst [.int a, .int (b + 1), .int c]))) ((ok_bin ((ok_bin rfl ok_c).trans (ix_lst h1p rfl)) ((ok_bin rfl ((ok_callF (ok_cons ((ok_bin rfl ok_c).trans (ix_lst h1p rfl)) (ok_cons ((ok_bin ((ok_bin ok_c ((ok_bin rfl ok_c).trans (ix_lst h1p rfl))).trans (mul_ok (n := 4) (m := 11) (by decide) (by omega) (by decide) (by decide) (by decide))) ok_c).trans fAdd_int) ok_nil)) rfl).trans (e_mixed (by omega) (by omega)))).trans (mul_ok (n := 11) (m := 210) (by omega) (by omega) (by decide) (by decide) (by decide)))).trans fAdd_int) rfl ok_c h1p rfl
    · have := fin _ _ _ h2p
      rw [set_set, set_set] at this
      rw [set_set]
      exact this
  · unfold tkA tkB
    rw [if_neg z, if_neg z]
    refine (aSeq_nx (ρ' := [some (.loc p), some (.int far), none]) (h' := h) ?_).trans (fin h a b hp)
    refine (if_f' (h1 := h) ?_).trans rfl
    refine ok_test ((ok_bin ((ok_bin rfl ok_c).trans (ix_lst hp rfl)) rfl).trans ?_)
    rw [fLt_int, decide_eq_false z]
end K06
set_option Elab.async false
set_option linter.all false
set_option maxRecDepth 100000
set_option maxHeartbeats 4000000
namespace K06
open PySem PySem.Spec PyProof.Rows L2 SA
theorem e_purse {c k : Int} {h : AH} (h0 : 0 ≤ k) (h1 : k < 1000) : ∃ a d, d__law_purse [.int c, .int k] h = .ok (.loc h.length) (h ++ [.lst [.int a, .int 0, .int d]]) := by
  have q18 : ∀ (ρ : AS) (h : AH), aBin fAdd (aBin fPow (aC (.int 10)) (aC (.int 18))) (aC (.int 9)) ρ h = .ok (.int 1000000000000000009) h := fun ρ h => (ok_bin ((ok_bin ok_c ok_c).trans (p18 h)) ok_c).trans fAdd_int
  by_cases z : 1000000000000000000 ≤ c
  · refine ⟨(c - 1000000000000000000) % (1000000000000000000000000000000000000000000000000000000000000 ^ 10), k, def_rt ?_⟩
    refine aSeq_rt ((if_t' (h1 := h) (ok_test ((ok_bin rfl ((ok_bin ok_c ok_c).trans (p18 h))).trans ?_))).trans ?_)
    · rw [fGe_int, decide_eq_true z]
    · refine rt_ret (ok_lst (ok_cons ((ok_bin ((ok_bin rfl ((ok_bin ok_c ok_c).trans (p18 h))).trans fSub_int) ((ok_bin ((ok_bin ok_c ok_c).trans (p60 h)) ok_c).trans (p600 h))).trans (mod_ok (by decide))) (ok_cons ok_c (ok_cons rfl ok_nil))) (by show 3 ≤ 100000; decide))
  · refine ⟨mx c k, c % 1000000000000000009 + k, def_rt ?_⟩
    refine (aSeq_nx (h' := h) (ρ' := [some (.int c), some (.int k)]) ((if_f' (h1 := h) (ok_test ((ok_bin rfl ((ok_bin ok_c ok_c).trans (p18 h))).trans ?_))).trans rfl)).trans ?_
    · rw [fGe_int, decide_eq_false z]
    · refine rt_ret (ok_lst (ok_cons ((ok_callF (ok_cons rfl (ok_cons rfl ok_nil)) rfl).trans (e_mixed h0 (by omega))) (ok_cons ok_c (ok_cons ((ok_bin ((ok_bin rfl (q18 _ _)).trans (mod_ok (by decide))) rfl).trans fAdd_int) ok_nil))) (by show 3 ≤ 100000; decide))
theorem len_fz {h : AH} {ns : List Int} : cLen [.fz ns] h = .ok (.int (ns.length : Int)) h := rfl
theorem len_lst {h : AH} {s : Nat} {xs : List A} (e : lstAt h s = some xs) : cLen [.loc s] h = .ok (.int (xs.length : Int)) h := by
  show withO (lenO h[s]?) _ = _
  rw [lstAt_of e]
  rfl
theorem e_at {h : AH} {ns : List Int} {k : Int} (h0 : 0 ≤ k) (h1 : k < 1000) : ∃ x, d__law_at [.fz ns, .int k] h = .ok (.int x) h := by
  have hlen := len_fz (h := h) (ns := ns)
  by_cases z : k < (ns.length : Int)
  · have hk : k.toNat < ns.length := by omega
    refine ⟨ns[k.toNat], def_rt (aSeq_rt ((if_t' (h1 := h) (ok_test ((ok_bin rfl ((ok_call (ok_cons rfl ok_nil)).trans hlen)).trans ?_))).trans (rt_ret ((ok_bin rfl rfl).trans ?_))))⟩
    · rw [fLt_int, decide_eq_true z]
    · show withO (atI ns k) _ = _
      have ea : atI ns k = some ns[k.toNat] := by
        unfold atI ixN
        rw [if_pos h0, if_pos z]
        exact List.getElem?_eq_getElem hk
      rw [ea]
      rfl
  · refine ⟨3 * k + 1, def_rt ((aSeq_nx (h' := h) (ρ' := [some (.fz ns), some (.int k)]) ((if_f' (h1 := h) (ok_test ((ok_bin rfl ((ok_call (ok_cons rfl ok_nil)).trans hlen)).trans ?_))).trans rfl)).trans (rt_ret ((ok_bin ((ok_bin ok_c rfl).trans (mul_ok (n := 2) (m := 10) (by decide) (by omega) (by decide) (by decide) (by decide))) ok_c).trans fAdd_int)))⟩
    rw [fLt_int, decide_eq_false z]
theorem tkB_bd {a b far : Int} (hb : 0 ≤ b) : 0 ≤ tkB a b far ∧ tkB a b far ≤ b + 1 := by
  unfold tkB
  split <;> omega
theorem atI_of {α : Type} {xs : List α} {i : Int} (h0 : 0 ≤ i) (h1 : i < xs.length) : ∃ x, xs[i.toNat]? = some x ∧ atI xs i = some x := by
  have hk : i.toNat < xs.length := by omega
  refine ⟨xs[i.toNat], List.getElem?_eq_getElem hk, ?_⟩
  unfold atI ixN
  rw [if_pos h0, if_pos h1]
  exact List.getElem?_eq_getElem hk
theorem e_pick {h : AH} {p n : Nat} {a b c : Int} {xs : List A} (hp : lstAt h p = some [.int a, .int b, .int c]) (hn : lstAt h n = some xs) (hnp : n ≠ p) (hb : 0 ≤ b) (hb2 : b < 1000) (hx : 0 < xs.length) (hx2 : xs.length ≤ 1000) :
    ∃ (i : Nat) (a' b' : Int) (x : A), xs[i]? = some x ∧ 0 ≤ b' ∧ b' ≤ b + 1 ∧ d__law_pick [.loc p, .loc n] h = .ok x (h.set p (.lst [.int a', .int b', .int c])) := by
  have hf : (0 : Int) < (xs.length : Int) := by omega
  have r0 : 0 ≤ tkA a b c xs.length % (xs.length : Int) := Int.emod_nonneg _ (by omega)
  have r1 : tkA a b c xs.length % (xs.length : Int) < (xs.length : Int) := Int.emod_lt_of_pos _ hf
  obtain ⟨x, e1, e2⟩ := atI_of r0 r1
  obtain ⟨t1, t2⟩ := tkB_bd (a := a) (far := xs.length) hb
  refine ⟨_, _, _, x, e1, t1, t2, def_rt (rt_ret ((ok_bin rfl ((ok_callF (ok_cons rfl (ok_cons ((ok_call (ok_cons rfl ok_nil)).trans (len_lst hn)) ok_nil)) rfl).trans (e_take hp hb hb2 hf (by omega)))).trans (ix_lst ?_ e2)))⟩
  rw [lstAt_eq (List.getElem?_set_ne (Ne.symm hnp))]
  exact hn
theorem e_row {t : Str} {h : AH} (ht : t.length ≤ 50000) : d__law_row_of [.str t] h = .ok (.loc h.length) (h ++ [.lst [.str "on tap", .str "one top", .str ("  go on tap if " ++ t), .str "  leaf a"]]) :=
  def_rt (rt_ret (ok_lst (ok_cons ok_c (ok_cons ok_c (ok_cons ((ok_bin ok_c rfl).trans (fAdd_str (Nat.le_trans (Nat.add_le_add_left ht _) (by decide +kernel)))) (ok_cons ok_c ok_nil)))) (by show 4 ≤ 100000; decide)))
/-! ### the tables -/
def rows (t : Str) : List A := [.str "on tap", .str "one top", .str ("  go on tap if " ++ t), .str "  leaf a"]
def mores : List Str := ["", " do say hi n - ( 1 - k )"]
def deedsT : A := .tup [.tup [.str "say", .str "hi", .tup [.str "less", .tup [.str "fact", .str "n"], .tup [.str "less", .tup [.str "num", .int 1], .tup [.str "fact", .str "k"]]]]]
def ixO (x : A) (i : Int) : Option A := match x with
  | .tup xs => atI xs i
  | _ => none
def cutO (x : A) : Option A := match x with
  | .tup xs => some (.tup (cutA xs none (some 2)))
  | _ => none
def isF (o : Option Bool) : Bool := match o with
  | some false => true
  | _ => false
def movOk (mv d dd : A) : Bool := match cutO mv, ixO mv 3, ixO mv 2 with
  | some c, some y3, some y2 => lf c && (lf y3 && (lf y2 && (isF (eqL true c (.tup [.tup [.str "on", .str "tap"], d])) && (isF (eqL true y3 (.tup [])) && isF (eqL true y2 dd)))))
  | _, _, _ => false
def chk1 (t : Str) (d : A) (more : Str) (dd : A) : Bool := match d_read_chart [.loc 0] [.lst (rows (t ++ more))] with
  | .ok ch h0 => match lstAt h0 0, (ixO ch 2).bind fun x => (ixO x 5).bind fun y => ixO y 0 with
    | some ys, some mv => lf ch && (lfs ys && movOk mv d dd)
    | _, _ => false
  | _ => false
def entG : AO → Bool
  | .lst [.str t, d] => lf d && (decide (t.length ≤ 200) && (chk1 t d "" (.tup []) && chk1 t d " do say hi n - ( 1 - k )" deedsT))
  | _ => false
def chkB (t : Str) (col : Int) : Bool := match d_read_chart [.loc 0] [.lst (rows t)] with
  | .exc 2 (some fl) h0 => match lstAt h0 0, fl.lookup ("row" : Str), fl.lookup ("column" : Str) with
    | some ys, some a, some b => lff fl && (lfs ys && (lf a && (lf b && isF (eqL true (.tup [a, b]) (.tup [.int 3, .int (col + 15)])))))
    | _, _, _ => false
  | _ => false
def entB : AO → Bool
  | .lst [.str t, .int c] => decide (t.length ≤ 200) && chkB t c
  | _ => false
def locsOk : Nat → List A → Bool
  | _, [] => true
  | k, .loc n :: r => n == k && locsOk (k + 1) r
  | _, _ => false
def tabOk (ent : AO → Bool) (r : Res A) : Bool := match r with
  | .ok (.loc 0) (.lst ls :: es) => locsOk 1 ls && ((ls.length == es.length) && (decide (0 < ls.length) && (decide (ls.length ≤ 1000) && es.all ent)))
  | _ => false
def eG_0 : AO := .lst [.str "in a and in b or in c", .tup [.str "either", .tup [.str "both", .tup [.str "in", .str "a"], .tup [.str "in", .str "b"]], .tup [.str "in", .str "c"]]]
theorem cG_0 : entG eG_0 = true := by decide +kernel
def eG_1 : AO := .lst [.str "in a or in b and in c", .tup [.str "either", .tup [.str "in", .str "a"], .tup [.str "both", .tup [.str "in", .str "b"], .tup [.str "in", .str "c"]]]]
theorem cG_1 : entG eG_1 = true := by decide +kernel
def eG_2 : AO := .lst [.str "in a or in b or in c", .tup [.str "either", .tup [.str "either", .tup [.str "in", .str "a"], .tup [.str "in", .str "b"]], .tup [.str "in", .str "c"]]]
theorem cG_2 : entG eG_2 = true := by decide +kernel
def eG_3 : AO := .lst [.str "( in a or in b ) and in c", .tup [.str "both", .tup [.str "either", .tup [.str "in", .str "a"], .tup [.str "in", .str "b"]], .tup [.str "in", .str "c"]]]
theorem cG_3 : entG eG_3 = true := by decide +kernel
def eG_4 : AO := .lst [.str "in a and ( in b and in c )", .tup [.str "both", .tup [.str "in", .str "a"], .tup [.str "both", .tup [.str "in", .str "b"], .tup [.str "in", .str "c"]]]]
theorem cG_4 : entG eG_4 = true := by decide +kernel
def eG_5 : AO := .lst [.str "not in a and in b", .tup [.str "both", .tup [.str "not", .tup [.str "in", .str "a"]], .tup [.str "in", .str "b"]]]
theorem cG_5 : entG eG_5 = true := by decide +kernel
def eG_6 : AO := .lst [.str "not ( in a and in b )", .tup [.str "not", .tup [.str "both", .tup [.str "in", .str "a"], .tup [.str "in", .str "b"]]]]
theorem cG_6 : entG eG_6 = true := by decide +kernel
def eG_7 : AO := .lst [.str "not not yes", .tup [.str "not", .tup [.str "not", .tup [.str "yes"]]]]
theorem cG_7 : entG eG_7 = true := by decide +kernel
def eG_8 : AO := .lst [.str "n < 1", .tup [.str "below", .tup [.str "fact", .str "n"], .tup [.str "num", .int 1]]]
theorem cG_8 : entG eG_8 = true := by decide +kernel
def eG_9 : AO := .lst [.str "( n ) < 1", .tup [.str "below", .tup [.str "fact", .str "n"], .tup [.str "num", .int 1]]]
theorem cG_9 : entG eG_9 = true := by decide +kernel
def eG_10 : AO := .lst [.str "( n < 1 )", .tup [.str "below", .tup [.str "fact", .str "n"], .tup [.str "num", .int 1]]]
theorem cG_10 : entG eG_10 = true := by decide +kernel
def eG_11 : AO := .lst [.str "(((n))<(1))", .tup [.str "below", .tup [.str "fact", .str "n"], .tup [.str "num", .int 1]]]
theorem cG_11 : entG eG_11 = true := by decide +kernel
def eG_12 : AO := .lst [.str "not n < 1", .tup [.str "not", .tup [.str "below", .tup [.str "fact", .str "n"], .tup [.str "num", .int 1]]]]
theorem cG_12 : entG eG_12 = true := by decide +kernel
def eG_13 : AO := .lst [.str "( n + 1 ) - k = 1", .tup [.str "same", .tup [.str "less", .tup [.str "sum", .tup [.str "fact", .str "n"], .tup [.str "num", .int 1]], .tup [.str "fact", .str "k"]], .tup [.str "num", .int 1]]]
theorem cG_13 : entG eG_13 = true := by decide +kernel
def eG_14 : AO := .lst [.str "n - k - 1 < n - ( k - 1 )", .tup [.str "below", .tup [.str "less", .tup [.str "less", .tup [.str "fact", .str "n"], .tup [.str "fact", .str "k"]], .tup [.str "num", .int 1]], .tup [.str "less", .tup [.str "fact", .str "n"], .tup [.str "less", .tup [.str "fact", .str "k"], .tup [.str "num", .int 1]]]]]
theorem cG_14 : entG eG_14 = true := by decide +kernel
def eG_15 : AO := .lst [.str "( n < 1 and in a ) or ( yes )", .tup [.str "either", .tup [.str "both", .tup [.str "below", .tup [.str "fact", .str "n"], .tup [.str "num", .int 1]], .tup [.str "in", .str "a"]], .tup [.str "yes"]]]
theorem cG_15 : entG eG_15 = true := by decide +kernel
def eG_16 : AO := .lst [.str "( ( n ) + 1 ) = ( ( k ) )", .tup [.str "same", .tup [.str "sum", .tup [.str "fact", .str "n"], .tup [.str "num", .int 1]], .tup [.str "fact", .str "k"]]]
theorem cG_16 : entG eG_16 = true := by decide +kernel
def eG_17 : AO := .lst [.str "((n)<1 or in b)and yes", .tup [.str "both", .tup [.str "either", .tup [.str "below", .tup [.str "fact", .str "n"], .tup [.str "num", .int 1]], .tup [.str "in", .str "b"]], .tup [.str "yes"]]]
theorem cG_17 : entG eG_17 = true := by decide +kernel
def eG_18 : AO := .lst [.str "n<1 and k=1", .tup [.str "both", .tup [.str "below", .tup [.str "fact", .str "n"], .tup [.str "num", .int 1]], .tup [.str "same", .tup [.str "fact", .str "k"], .tup [.str "num", .int 1]]]]
theorem cG_18 : entG eG_18 = true := by decide +kernel
def eG_19 : AO := .lst [.str "1 = 1 or 1 < n", .tup [.str "either", .tup [.str "same", .tup [.str "num", .int 1], .tup [.str "num", .int 1]], .tup [.str "below", .tup [.str "num", .int 1], .tup [.str "fact", .str "n"]]]]
theorem cG_19 : entG eG_19 = true := by decide +kernel
def eG_20 : AO := .lst [.str "not ( n ) < 1", .tup [.str "not", .tup [.str "below", .tup [.str "fact", .str "n"], .tup [.str "num", .int 1]]]]
theorem cG_20 : entG eG_20 = true := by decide +kernel
def eG_21 : AO := .lst [.str "in a and ( n ) < 1", .tup [.str "both", .tup [.str "in", .str "a"], .tup [.str "below", .tup [.str "fact", .str "n"], .tup [.str "num", .int 1]]]]
theorem cG_21 : entG eG_21 = true := by decide +kernel
def tabG : List AO := [eG_0, eG_1, eG_2, eG_3, eG_4, eG_5, eG_6, eG_7, eG_8, eG_9, eG_10, eG_11, eG_12, eG_13, eG_14, eG_15, eG_16, eG_17, eG_18, eG_19, eG_20, eG_21]
theorem allG : tabG.all entG = true := by
  simp only [tabG, List.all_cons, List.all_nil, Bool.and_true, cG_0, cG_1, cG_2, cG_3, cG_4, cG_5, cG_6, cG_7, cG_8, cG_9, cG_10, cG_11, cG_12, cG_13, cG_14, cG_15, cG_16, cG_17, cG_18, cG_19, cG_20, cG_21, Bool.and_self]
theorem isG : d__law_good [] [] = .ok (.loc 0) (.lst [.loc 1, .loc 2, .loc 3, .loc 4, .loc 5, .loc 6, .loc 7, .loc 8, .loc 9, .loc 10, .loc 11, .loc 12, .loc 13, .loc 14, .loc 15, .loc 16, .loc 17, .loc 18, .loc 19, .loc 20, .loc 21, .loc 22] :: tabG) := by with_unfolding_all rfl
def eB_0 : AO := .lst [.str "n", .int 2]
theorem cB_0 : entB eB_0 = true := by decide +kernel
def eB_1 : AO := .lst [.str "( n )", .int 6]
theorem cB_1 : entB eB_1 = true := by decide +kernel
def eB_2 : AO := .lst [.str "n and in a", .int 3]
theorem cB_2 : entB eB_2 = true := by decide +kernel
def eB_3 : AO := .lst [.str "( n and yes )", .int 5]
theorem cB_3 : entB eB_3 = true := by decide +kernel
def eB_4 : AO := .lst [.str "( n < 1 ) < 1", .int 11]
theorem cB_4 : entB eB_4 = true := by decide +kernel
def eB_5 : AO := .lst [.str "( yes ) + 1", .int 9]
theorem cB_5 : entB eB_5 = true := by decide +kernel
def eB_6 : AO := .lst [.str "in 3", .int 4]
theorem cB_6 : entB eB_6 = true := by decide +kernel
def eB_7 : AO := .lst [.str "not n", .int 6]
theorem cB_7 : entB eB_7 = true := by decide +kernel
def eB_8 : AO := .lst [.str "n < ( in a )", .int 7]
theorem cB_8 : entB eB_8 = true := by decide +kernel
def eB_9 : AO := .lst [.str "n + ( k < 1 ) = 1", .int 9]
theorem cB_9 : entB eB_9 = true := by decide +kernel
def eB_10 : AO := .lst [.str "n < 1 < 2", .int 7]
theorem cB_10 : entB eB_10 = true := by decide +kernel
def eB_11 : AO := .lst [.str "yes yes", .int 5]
theorem cB_11 : entB eB_11 = true := by decide +kernel
def eB_12 : AO := .lst [.str "( ( n )", .int 8]
theorem cB_12 : entB eB_12 = true := by decide +kernel
def eB_13 : AO := .lst [.str "n < 1 or", .int 9]
theorem cB_13 : entB eB_13 = true := by decide +kernel
def eB_14 : AO := .lst [.str "n = = 1", .int 5]
theorem cB_14 : entB eB_14 = true := by decide +kernel
def eB_15 : AO := .lst [.str "and", .int 1]
theorem cB_15 : entB eB_15 = true := by decide +kernel
def eB_16 : AO := .lst [.str "( )", .int 3]
theorem cB_16 : entB eB_16 = true := by decide +kernel
def eB_17 : AO := .lst [.str "n < 01", .int 6]
theorem cB_17 : entB eB_17 = true := by decide +kernel
def eB_18 : AO := .lst [.str "n < 1x", .int 6]
theorem cB_18 : entB eB_18 = true := by decide +kernel
def eB_19 : AO := .lst [.str "nine45678 < 1", .int 9]
theorem cB_19 : entB eB_19 = true := by decide +kernel
def eB_20 : AO := .lst [.str "n < 1234567891", .int 14]
theorem cB_20 : entB eB_20 = true := by decide +kernel
def eB_21 : AO := .lst [.str "not ( n < 1 ) < 1", .int 15]
theorem cB_21 : entB eB_21 = true := by decide +kernel
def eB_22 : AO := .lst [.str "yes and ( n )", .int 14]
theorem cB_22 : entB eB_22 = true := by decide +kernel
def tabB : List AO := [eB_0, eB_1, eB_2, eB_3, eB_4, eB_5, eB_6, eB_7, eB_8, eB_9, eB_10, eB_11, eB_12, eB_13, eB_14, eB_15, eB_16, eB_17, eB_18, eB_19, eB_20, eB_21, eB_22]
theorem allB : tabB.all entB = true := by
  simp only [tabB, List.all_cons, List.all_nil, Bool.and_true, cB_0, cB_1, cB_2, cB_3, cB_4, cB_5, cB_6, cB_7, cB_8, cB_9, cB_10, cB_11, cB_12, cB_13, cB_14, cB_15, cB_16, cB_17, cB_18, cB_19, cB_20, cB_21, cB_22, Bool.and_self]
theorem isB : d__law_bad [] [] = .ok (.loc 0) (.lst [.loc 1, .loc 2, .loc 3, .loc 4, .loc 5, .loc 6, .loc 7, .loc 8, .loc 9, .loc 10, .loc 11, .loc 12, .loc 13, .loc 14, .loc 15, .loc 16, .loc 17, .loc 18, .loc 19, .loc 20, .loc 21, .loc 22, .loc 23] :: tabB) := by with_unfolding_all rfl
end K06
set_option Elab.async false
set_option linter.all false
set_option maxRecDepth 100000
set_option maxHeartbeats 4000000
namespace K06
open PySem PySem.Spec PyProof.Rows L2 SA
mutual
theorem sh_lf {k : Nat} : ∀ x : A, lf x = true → sh k x = x
  | .non, _ => rfl
  | .bl _, _ => rfl
  | .int _, _ => rfl
  | .str _, _ => rfl
  | .tup xs, e => by
    show A.tup (shs k xs) = A.tup xs
    rw [shs_lf xs e]
  | .loc _, e => by cases e
  | .cls _, _ => rfl
  | .ty _, _ => rfl
  | .fz _, _ => rfl
theorem shs_lf {k : Nat} : ∀ xs : List A, lfs xs = true → shs k xs = xs
  | [], _ => rfl
  | x :: xs, e => by
    have e : (lf x && lfs xs) = true := e
    obtain ⟨e1, e2⟩ := Bool.and_eq_true_iff.mp e
    show sh k x :: shs k xs = x :: xs
    rw [sh_lf x e1, shs_lf xs e2]
end
theorem shs_len {k : Nat} : ∀ xs : List A, (shs k xs).length = xs.length
  | [] => rfl
  | x :: xs => congrArg (· + 1) (shs_len xs)
theorem shs_get {k : Nat} : ∀ (xs : List A) (i : Nat), (shs k xs)[i]? = xs[i]?.map (sh k)
  | [], _ => rfl
  | x :: xs, 0 => rfl
  | x :: xs, i + 1 => shs_get xs i
theorem locs_at : ∀ (k : Nat) (ls : List A) (i : Nat) (x : A), locsOk k ls = true → ls[i]? = some x → x = .loc (k + i)
  | _, [], i, x, _, q => by simp at q
  | k, .loc n :: r, 0, x, e, q => by
    have e : (n == k && locsOk (k + 1) r) = true := e
    have := beq_iff_eq.mp (Bool.and_eq_true_iff.mp e).1
    cases q
    rw [this]
    rfl
  | k, .loc n :: r, i + 1, x, e, q => by
    have e : (n == k && locsOk (k + 1) r) = true := e
    have := locs_at (k + 1) r i x (Bool.and_eq_true_iff.mp e).2 q
    rw [this]
    congr 1
    omega
  | k, .non :: r, _, _, e, _ => by cases e
  | k, .bl _ :: r, _, _, e, _ => by cases e
  | k, .int _ :: r, _, _, e, _ => by cases e
  | k, .str _ :: r, _, _, e, _ => by cases e
  | k, .tup _ :: r, _, _, e, _ => by cases e
  | k, .cls _ :: r, _, _, e, _ => by cases e
  | k, .ty _ :: r, _, _, e, _ => by cases e
theorem draw_tab {d : List A → AH → Res A} {ls : List A} {tab : List AO} {ent : AO → Bool} (hd : d [] [] = .ok (.loc 0) (.lst ls :: tab)) (hl : locsOk 1 ls = true) (hlen : ls.length = tab.length) (hz : 0 < ls.length) (hz1 : ls.length ≤ 1000) (hall : tab.all ent = true)
    {h : AH} {p : Nat} {a b c : Int} {ρ : AS} (hρ : ρ[2]? = some (some (.loc p))) (hp : lstAt h p = some [.int a, .int b, .int c]) (hb : 0 ≤ b) (hb2 : b < 1000) :
    ∃ (q : Nat) (e : AO) (a' b' : Int) (h' : AH), aCallF 2 d__law_pick (aCons (aVar 2) (aCons (aCallF 0 (frm d) aNil) aNil)) ρ h = .ok (.loc q) h' ∧ ent e = true ∧ h'[q]? = some (shO h.length e) ∧ lstAt h' p = some [.int a', .int b', .int c] ∧ 0 ≤ b' ∧ b' ≤ b + 1 ∧ Keep p h h' ∧ h.length ≤ q := by
  have hpl := lstAt_lt hp
  have hv : aVar 2 ρ h = .ok (.loc p) h := by
    unfold aVar
    rw [hρ]
  have ef : frm d [] h = .ok (.loc h.length) (h ++ (AO.lst (shs h.length ls) :: tab.map (shO h.length))) := by
    unfold frm
    rw [hd]
    rfl
  have hn : lstAt (h ++ (AO.lst (shs h.length ls) :: tab.map (shO h.length))) h.length = some (shs h.length ls) := by
    apply lstAt_get
    rw [List.getElem?_append_right (Nat.le_refl _), Nat.sub_self]
    rfl
  have hp1 : lstAt (h ++ (AO.lst (shs h.length ls) :: tab.map (shO h.length))) p = some [.int a, .int b, .int c] := by
    rw [lstAt_app hpl]
    exact hp
  obtain ⟨i, a', b', x, e1, b0, b1, e2⟩ := e_pick hp1 hn (by omega) hb hb2 (by rw [shs_len]; exact hz) (by rw [shs_len]; exact hz1)
  rw [shs_get] at e1
  obtain ⟨y, e3, e4⟩ := Option.map_eq_some_iff.mp e1
  have e5 := locs_at 1 ls i y hl e3
  subst e5 e4
  have hi : i < tab.length := by
    rw [← hlen]
    exact (List.getElem?_eq_some_iff.mp e3).1
  refine ⟨h.length + (1 + i), tab[i], a', b', _, (ok_callF (ok_cons hv (ok_cons ((ok_callF ok_nil rfl).trans ef) ok_nil)) rfl).trans e2, ?_, ?_, ?_, b0, b1, (Keep.app p h _).trans Keep.set, by omega⟩
  · exact (List.all_eq_true.mp hall) _ (List.getElem_mem hi)
  · rw [List.getElem?_set_ne (by omega), List.getElem?_append_right (by omega)]
    have : h.length + (1 + i) - h.length = i + 1 := by omega
    rw [this, List.getElem?_cons_succ, List.getElem?_map, List.getElem?_eq_getElem hi]
    rfl
  · exact lstAt_set (by rw [List.length_append]; omega)
theorem isF_of {o : Option Bool} (h : isF o = true) : o = some false := by
  cases o with
  | none => cases h
  | some b => cases b with
    | false => rfl
    | true => cases h
theorem ix_tup {xs : List A} {i : Int} {a : A} {h : AH} (e : atI xs i = some a) : fIx (.tup xs) (.int i) h = .ok a h := by
  show withO (atI xs i) _ = _
  rw [e]
  rfl
theorem ixO_ok {x a : A} {i : Int} {h : AH} (e : ixO x i = some a) : fIx x (.int i) h = .ok a h := by
  unfold ixO at e
  split at e
  · exact ix_tup e
  · cases e
theorem cutO_ok {x c : A} {h : AH} (e : cutO x = some c) : fSl x none (some 2) h = .ok c h := by
  unfold cutO at e
  split at e
  · cases e
    rfl
  · cases e
theorem rc_ok {t : Str} {ch : A} {h0 h : AH} {q : Nat} {ys : List A} (hd : d_read_chart [.loc 0] [.lst (rows t)] = .ok ch h0) (hq : lstAt h q = some (rows t)) (hy : lstAt h0 0 = some ys) (l1 : lf ch = true) (l2 : lfs ys = true) : rc [.loc q] h = .ok ch (h.set q (.lst ys)) := by
  show withO (lstAt h q) _ = _
  rw [hq]
  show ifB (lfs (rows t)) (back1 q h (d_read_chart [.loc 0] [.lst (rows t)])) = _
  rw [hd]
  show ifB true (withO (lstAt h0 0) _) = _
  rw [hy]
  show ifB (lf ch && lfs ys) _ = _
  rw [l1, l2]
  rfl
theorem rc_exc {t : Str} {fl : List (Str × A)} {h0 h : AH} {q : Nat} {ys : List A} (hd : d_read_chart [.loc 0] [.lst (rows t)] = .exc 2 (some fl) h0) (hq : lstAt h q = some (rows t)) (hy : lstAt h0 0 = some ys) (l1 : lff fl = true) (l2 : lfs ys = true) : rc [.loc q] h = .exc 2 (some fl) (h.set q (.lst ys)) := by
  show withO (lstAt h q) _ = _
  rw [hq]
  show ifB (lfs (rows t)) (back1 q h (d_read_chart [.loc 0] [.lst (rows t)])) = _
  rw [hd]
  show ifB true (withO (lstAt h0 0) _) = _
  rw [hy]
  show ifB (lff fl && lfs ys) _ = _
  rw [l1, l2]
  rfl
end K06
set_option Elab.async false
set_option linter.all false
set_option maxRecDepth 100000
set_option maxHeartbeats 4000000
namespace K06
open PySem PySem.Spec PyProof.Rows L2 SA
theorem ok_sl {e : AE} {ρ : AS} {h h1 : AH} {x : A} {i : Int} (he : e ρ h = .ok x h1) : aSl e aNoPart (aPart (aC (.int i))) ρ h = fSl x none (some i) h1 := by
  unfold aSl
  rw [he, bind_ok]
  rfl
theorem eq_f {x y : A} {h : AH} (lx : lf x = true) (ly : lf y = true) (e : isF (eqL true x y) = true) : eqA true x y h = .ok (.bl false) h := eqA_lf lx ly (isF_of e)
theorem app_len (a b : Str) : (a ++ b).length = a.length + b.length := by
  show (a.cps ++ b.cps).size = _
  rw [Array.size_append]
  rfl
def After (p : Nat) (c b : Int) (x0 x1 x3 : Option A) (h : AH) (ρ' : AS) (h' : AH) : Prop := (∃ y4 y5 y6 y7 y8 y9 y10 y11 : Option A, ρ' = [x0, x1, some (.loc p), x3, y4, y5, y6, y7, y8, y9, y10, y11]) ∧ ∃ a' b' : Int, lstAt h' p = some [.int a', .int b', .int c] ∧ 0 ≤ b' ∧ b' ≤ b + 3 ∧ Keep p h h'
theorem turn {x0 x1 x3 x4 x5 x6 x7 x8 x9 x10 x11 : Option A} {h : AH} {p : Nat} {a b c : Int} (hp : lstAt h p = some [.int a, .int b, .int c]) (hb : 0 ≤ b) (hb2 : b < 900) :
    Ends w_law_0 [x0, x1, some (.loc p), x3, x4, x5, x6, x7, x8, x9, x10, x11] h (After p c b x0 x1 x3 h) := by
  have hpl := lstAt_lt hp
  obtain ⟨q, e, a1, b1, h1, d1, d2, d3, d4, d5, d6, d7, d8⟩ := draw_tab (ent := entG) isG rfl rfl (by decide) (by decide) allG (ρ := [x0, x1, some (.loc p), x3, x4, x5, x6, x7, x8, x9, x10, x11]) rfl hp hb (by omega)
  unfold entG at d2
  split at d2
  · rename_i t d
    obtain ⟨l1, d2⟩ := Bool.and_eq_true_iff.mp d2
    obtain ⟨l2, d2⟩ := Bool.and_eq_true_iff.mp d2
    obtain ⟨k1, k2⟩ := Bool.and_eq_true_iff.mp d2
    have l2 := of_decide_eq_true l2
    have d3 : h1[q]? = some (AO.lst [.str t, sh h.length d]) := d3
    rw [sh_lf d l1] at d3
    have d3 := lstAt_get d3
    have hpl1 := lstAt_lt d4
    -- the row and what is due
    refine ends_seq (nx_asg (ρ' := [x0, x1, some (.loc p), x3, x4, x5, x6, x7, x8, some (.str t), some d, x11]) d1 ?_) ?_
    · unfold gSq
      simp only [d3]
      rfl
    -- more of it
    have f1 : lstAt (h1 ++ [AO.lst [.str "", .str " do say hi n - ( 1 - k )"]]) p = some [.int a1, .int b1, .int c] := by
      rw [lstAt_app hpl1]
      exact d4
    have tk := e_take (far := 2) f1 d5 (by omega) (by decide) (by decide)
    obtain ⟨t1, t2⟩ := tkB_bd (a := a1) (far := 2) d5
    obtain ⟨more, dd, bb, m1, m2, m3, m4, m5, m6⟩ : ∃ (more : Str) (dd : A) (bb : Bool), atI [A.str "", A.str " do say hi n - ( 1 - k )"] (tkA a1 b1 c 2 % 2) = some (.str more) ∧ chk1 t d more dd = true ∧ lf dd = true ∧ (∀ h : AH, eqA true (.str more) (.str "") h = .ok (.bl bb) h) ∧ atI [A.tup [], deedsT] (if bb then 1 else 0) = some dd ∧ more.length ≤ 100 := by
      have r : tkA a1 b1 c 2 % 2 = 0 ∨ tkA a1 b1 c 2 % 2 = 1 := by omega
      rcases r with r | r
      · rw [r]
        exact ⟨"", .tup [], false, rfl, k1, rfl, fun h => rfl, rfl, by decide⟩
      · rw [r]
        exact ⟨" do say hi n - ( 1 - k )", deedsT, true, rfl, k2, rfl, fun h => rfl, rfl, by decide +kernel⟩
    generalize hv2 : (h1 ++ [AO.lst [.str "", .str " do say hi n - ( 1 - k )"]]).set p (AO.lst [.int (tkA a1 b1 c 2 / 2), .int (tkB a1 b1 2), .int c]) = h2 at tk
    have g1 : lstAt h2 p = some [.int (tkA a1 b1 c 2 / 2), .int (tkB a1 b1 2), .int c] := by
      rw [← hv2]
      exact lstAt_set (by rw [List.length_append]; omega)
    have g2 : lstAt h2 h1.length = some [.str "", .str " do say hi n - ( 1 - k )"] := by
      rw [← hv2, lstAt_eq (List.getElem?_set_ne (by omega))]
      exact lstAt_new
    have g3 : Keep p h h2 := by
      rw [← hv2]
      exact (d7.trans (Keep.app p h1 _)).trans Keep.set
    generalize tkA a1 b1 c 2 / 2 = a2 at g1
    generalize tkB a1 b1 2 = b2 at g1 t1 t2
    refine ends_seq (nx_set (a := .str more) (h1 := h2) ((ok_bin (ok_lst (ok_cons ok_c (ok_cons ok_c ok_nil)) (by show 2 ≤ 100000; decide)) ((ok_callF (ok_cons rfl (ok_cons ok_c ok_nil)) rfl).trans tk)).trans (ix_lst g2 m1))) ?_
    clear f1 tk m1 hv2 g2
    have hpl2 := lstAt_lt g1
    -- what is read
    unfold chk1 at m2
    split at m2
    · rename_i ch h0 ec
      split at m2
      · rename_i ys mv ey em
        obtain ⟨c1, m2⟩ := Bool.and_eq_true_iff.mp m2
        obtain ⟨c2, m2⟩ := Bool.and_eq_true_iff.mp m2
        unfold movOk at m2
        split at m2
        · rename_i ct y3 y2 ect ey3 ey2
          obtain ⟨n1, m2⟩ := Bool.and_eq_true_iff.mp m2
          obtain ⟨n2, m2⟩ := Bool.and_eq_true_iff.mp m2
          obtain ⟨n3, m2⟩ := Bool.and_eq_true_iff.mp m2
          obtain ⟨n4, m2⟩ := Bool.and_eq_true_iff.mp m2
          obtain ⟨n5, n6⟩ := Bool.and_eq_true_iff.mp m2
          obtain ⟨u1, em1, em⟩ := Option.bind_eq_some_iff.mp em
          obtain ⟨u2, em2, em3⟩ := Option.bind_eq_some_iff.mp em
          have ht : (t ++ more).length ≤ 50000 := by rw [app_len]; omega
          have q1 : lstAt (h2 ++ [AO.lst (rows (t ++ more))]) h2.length = some (rows (t ++ more)) := lstAt_new
          have g4 : lstAt ((h2 ++ [AO.lst (rows (t ++ more))]).set h2.length (AO.lst ys)) p = some [.int a2, .int b2, .int c] := by
            rw [lstAt_eq (List.getElem?_set_ne (by omega)), lstAt_app hpl2]
            exact g1
          have g5 : Keep p h ((h2 ++ [AO.lst (rows (t ++ more))]).set h2.length (AO.lst ys)) := (g3.trans (Keep.app p h2 _)).set2 g3.len
          have s3 := rc_ok ec q1 ey c1 c2
          generalize (h2 ++ [AO.lst (rows (t ++ more))]).set h2.length (AO.lst ys) = h3 at g4 g5 s3
          refine ends_seq (nx_set (a := mv) (h1 := h3) ((ok_bin ((ok_bin ((ok_bin ((ok_callF (ok_cons ((ok_callF (ok_cons ((ok_bin rfl rfl).trans (fAdd_str (by omega))) ok_nil) rfl).trans (e_row ht)) ok_nil) rfl).trans s3) ok_c).trans (ixO_ok em1)) ok_c).trans (ixO_ok em2)) ok_c).trans (ixO_ok em3))) ?_
          clear s3
          -- when and guard
          refine ends_seq (ρ1 := [x0, x1, some (.loc p), x3, some (.str more), some mv, x6, x7, x8, some (.str t), some d, x11]) (h1 := h3) ((if_f' (h1 := h3) ?_).trans rfl) ?_
          · refine (ok_or_f (h1 := h3) (ok_test ((ok_bin ((ok_sl rfl).trans (cutO_ok ect)) (ok_tup (ok_cons (ok_tup (ok_cons ok_c (ok_cons ok_c ok_nil)) (by show 2 ≤ 100000; decide)) (ok_cons rfl ok_nil)) (by show 2 ≤ 100000; decide))).trans (eq_f n1 ?_ n4)))).trans (ok_test ((ok_bin ((ok_bin rfl ok_c).trans (ixO_ok ey3)) (ok_tup ok_nil (by decide))).trans (eq_f n2 rfl n5)))
            show (lf (.tup [.str "on", .str "tap"]) && (lf d && true)) = true
            rw [l1]
            rfl
          -- deeds
          refine ends_seq (nx_set (a := deedsT) (h1 := h3) rfl) ?_
          have g6 : lstAt (h3 ++ [AO.lst [.tup [], deedsT]]) p = some [.int a2, .int b2, .int c] := by
            rw [lstAt_app (lstAt_lt g4)]
            exact g4
          refine ends_seq (ρ1 := [x0, x1, some (.loc p), x3, some (.str more), some mv, some deedsT, x7, x8, some (.str t), some d, x11]) (h1 := h3 ++ [AO.lst [.tup [], deedsT]]) ((if_f' (h1 := h3 ++ [AO.lst [.tup [], deedsT]]) ?_).trans rfl) ?_
          · refine ok_test ((ok_bin ((ok_bin rfl ok_c).trans (ixO_ok ey2)) ((ok_bin (ok_lst (ok_cons (ok_tup ok_nil (by decide)) (ok_cons rfl ok_nil)) (by show 2 ≤ 100000; decide)) ((ok_call (ok_cons ((ok_bin rfl ok_c).trans (m4 _)) ok_nil)).trans ?_)).trans (ix_lst lstAt_new m5))).trans (eq_f n3 m3 n6))
            rfl
          have g7 := g5.trans (Keep.app p h3 [AO.lst [.tup [], deedsT]])
          generalize h3 ++ [AO.lst [.tup [], deedsT]] = h4 at g6 g7
          clear g5 g4
          -- one that is none
          obtain ⟨q', e', a5, b5, h5, f1, f2, f3, f4, f5, f6, f7, f8⟩ := draw_tab (ent := entB) isB rfl rfl (by decide) (by decide) allB (ρ := [x0, x1, some (.loc p), x3, some (.str more), some mv, some deedsT, x7, x8, some (.str t), some d, x11]) rfl g6 t1 (by omega)
          unfold entB at f2
          split at f2
          · rename_i t' col
            obtain ⟨w1, w2⟩ := Bool.and_eq_true_iff.mp f2
            have w1 := of_decide_eq_true w1
            have f3 : h5[q']? = some (AO.lst [.str t', .int col]) := f3
            have f3 := lstAt_get f3
            refine ends_seq (nx_asg (ρ' := [x0, x1, some (.loc p), x3, some (.str more), some mv, some deedsT, x7, x8, some (.str t'), some d, some (.int col)]) f1 ?_) ?_
            · unfold gSq
              simp only [f3]
              rfl
            refine ends_seq (nx_set (a := .non) (h1 := h5) rfl) ?_
            unfold chkB at w2
            split at w2
            · rename_i fl h0' eb
              split at w2
              · rename_i ys' ra rb ey' era erb
                obtain ⟨v1, w2⟩ := Bool.and_eq_true_iff.mp w2
                obtain ⟨v2, w2⟩ := Bool.and_eq_true_iff.mp w2
                obtain ⟨v3, w2⟩ := Bool.and_eq_true_iff.mp w2
                obtain ⟨v4, v5⟩ := Bool.and_eq_true_iff.mp w2
                have q2 : lstAt (h5 ++ [AO.lst (rows t')]) h5.length = some (rows t') := lstAt_new
                have s9 := rc_exc eb q2 ey' v1 v2
                have g8 : lstAt ((h5 ++ [AO.lst (rows t')]).set h5.length (AO.lst ys')) p = some [.int a5, .int b5, .int c] := by
                  have := lstAt_lt f4
                  rw [lstAt_eq (List.getElem?_set_ne (by omega)), lstAt_app this]
                  exact f4
                have g9 : Keep p h ((h5 ++ [AO.lst (rows t')]).set h5.length (AO.lst ys')) := ((g7.trans f7).trans (Keep.app p h5 _)).set2 (g7.trans f7).len
                generalize (h5 ++ [AO.lst (rows t')]).set h5.length (AO.lst ys') = h6 at g8 g9 s9
                refine ends_seq (ρ1 := [x0, x1, some (.loc p), x3, some (.str more), some mv, some deedsT, some (.tup [ra, rb]), none, some (.str t'), some d, some (.int col)]) (h1 := h6) ?_ ?_
                · have ex : aExpr (aCallF 1 rc (aCons (aCallF 1 d__law_row_of (aCons (aVar 9) aNil)) aNil)) [x0, x1, some (.loc p), x3, some (.str more), some mv, some deedsT, some .non, x8, some (.str t'), some d, some (.int col)] h5 = .exc 2 (some fl) [x0, x1, some (.loc p), x3, some (.str more), some mv, some deedsT, some .non, x8, some (.str t'), some d, some (.int col)] h6 := by
                    have cx : aCallF 1 rc (aCons (aCallF 1 d__law_row_of (aCons (aVar 9) aNil)) aNil) [x0, x1, some (.loc p), x3, some (.str more), some mv, some deedsT, some .non, x8, some (.str t'), some d, some (.int col)] h5 = .exc 2 (some fl) h6 := (ok_callF (ok_cons ((ok_callF (ok_cons rfl ok_nil) rfl).trans (e_row (by omega))) ok_nil) rfl).trans s9
                    unfold aExpr
                    rw [cx]
                    rfl
                  unfold aTryT
                  simp only [List.set_cons_succ, List.set_cons_zero, ex, era, erb]
                  rfl
                · refine ends_of (ρ1 := [x0, x1, some (.loc p), x3, some (.str more), some mv, some deedsT, some (.tup [ra, rb]), none, some (.str t'), some d, some (.int col)]) (h1 := h6) ((if_f' (h1 := h6) ?_).trans rfl) ?_
                  · refine ok_test ((ok_bin rfl (ok_tup (ok_cons ok_c (ok_cons ((ok_bin rfl ok_c).trans fAdd_int) ok_nil)) (by show 2 ≤ 100000; decide))).trans (eq_f ?_ rfl v5))
                    show (lf ra && (lf rb && true)) = true
                    rw [v3, v4]
                    rfl
                  · exact ⟨⟨_, _, _, _, _, _, _, _, rfl⟩, a5, b5, g8, f5, by omega, g9⟩
              · cases w2
            · cases w2
          · cases f2
        · cases m2
      · cases m2
    · cases m2
  · cases d2
end K06
set_option Elab.async false
set_option linter.all false
set_option maxRecDepth 100000
set_option maxHeartbeats 4000000
namespace K06
open PySem PySem.Spec PyProof.Rows L2 SA
def InvT (p : Nat) (x0 x1 : Option A) (h0 : AH) (i : Nat) (ρ : AS) (h : AH) : Prop := (∃ y3 y4 y5 y6 y7 y8 y9 y10 y11 : Option A, ρ = [x0, x1, some (.loc p), y3, y4, y5, y6, y7, y8, y9, y10, y11]) ∧ ∃ a b c : Int, lstAt h p = some [.int a, .int b, .int c] ∧ 0 ≤ b ∧ b ≤ 3 * i ∧ Keep p h0 h
def InvK (ns : List Int) (_i : Nat) (ρ : AS) (_h : AH) : Prop := (∃ y1 y2 y3 y4 y5 y6 y7 y8 y9 y10 y11 : Option A, ρ = [some (.fz ns), y1, y2, y3, y4, y5, y6, y7, y8, y9, y10, y11])
theorem turns {x0 x1 x3 x4 x5 x6 x7 x8 x9 x10 x11 : Option A} {h : AH} {p : Nat} {a c : Int} (hp : lstAt h p = some [.int a, .int 0, .int c]) :
    ∃ ρ' h', aFor (aRng1 (aCons (aC (.int 6)) aNil)) (gNm 3) w_law_0 200 [x0, x1, some (.loc p), x3, x4, x5, x6, x7, x8, x9, x10, x11] h = .nx ρ' h' ∧ InvT p x0 x1 h 6 ρ' h' := by
  have := forF_rng (lo := 0) (n := 6) (g := gNm 3) (b := w_law_0) (InvT p x0 x1 h) (by
    intro i ρ h1 hi q
    obtain ⟨⟨y3, y4, y5, y6, y7, y8, y9, y10, y11, e⟩, a, b, c, q1, q2, q3, q4⟩ := q
    subst e
    obtain ⟨ρ', h', e1, ⟨z4, z5, z6, z7, z8, z9, z10, z11, e2⟩, a', b', e3, e4, e5, e6⟩ := turn (x0 := x0) (x1 := x1) (x3 := some (.int (0 + (i : Int)))) (x4 := y4) (x5 := y5) (x6 := y6) (x7 := y7) (x8 := y8) (x9 := y9) (x10 := y10) (x11 := y11) q1 q2 (by omega)
    exact ⟨_, ρ', h', rfl, e1, ⟨_, _, _, _, _, _, _, _, _, e2⟩, a', b', c, e3, e4, by omega, q4.trans e6⟩)
    200 0 [x0, x1, some (.loc p), x3, x4, x5, x6, x7, x8, x9, x10, x11] h (by decide) (by decide) ⟨⟨_, _, _, _, _, _, _, _, _, rfl⟩, a, 0, c, hp, by decide, by decide, Keep.refl p h⟩
  exact this
theorem keys {ns : List Int} {n : Nat} (hn : n ≤ 6) {ρ : AS} {h : AH} (q : InvK ns 0 ρ h) : ∃ ρ' h', aForF (itRng 0 n) (gNm 1) w_law_1 200 0 ρ h = .nx ρ' h' ∧ InvK ns n ρ' h' := by
  refine forF_rng (lo := 0) (n := n) (g := gNm 1) (b := w_law_1) (InvK ns) ?_ 200 0 ρ h (by omega) (by omega) q
  intro i ρ h hi q
  obtain ⟨y1, y2, y3, y4, y5, y6, y7, y8, y9, y10, y11, e⟩ := q
  subst e
  obtain ⟨x, ex⟩ := e_at (ns := ns) (h := h) (k := 0 + (i : Int)) (by omega) (by omega)
  obtain ⟨a, d, ep⟩ := e_purse (c := x) (k := 0 + (i : Int)) (h := h) (by omega) (by omega)
  obtain ⟨ρ', h', e1, ⟨z3, z4, z5, z6, z7, z8, z9, z10, z11, e2⟩, a', b', c', e3, e4, e5, e6⟩ := turns (x0 := some (.fz ns)) (x1 := some (.int (0 + (i : Int)))) (x3 := y3) (x4 := y4) (x5 := y5) (x6 := y6) (x7 := y7) (x8 := y8) (x9 := y9) (x10 := y10) (x11 := y11) (h := h ++ [.lst [.int a, .int 0, .int d]]) (p := h.length) (a := a) (c := d) lstAt_new
  refine ⟨_, ρ', h', rfl, ?_, _, _, _, _, _, _, _, _, _, _, _, e2⟩
  exact (aSeq_nx (nx_set ((ok_callF (ok_cons ((ok_callF (ok_cons rfl (ok_cons rfl ok_nil)) rfl).trans ex) (ok_cons rfl ok_nil)) rfl).trans ep))).trans e1
theorem law_ok (ns : List Int) (h : AH) : ∃ h', d_law [.fz ns] h = .ok (.bl true) h' := by
  obtain ⟨ρ', h', e, q⟩ := keys (ns := ns) (n := (2 + (if (4 : Int) < ((ns.length : Nat) : Int) then (4 : Int) else ((ns.length : Nat) : Int))).toNat) (by split <;> omega) (ρ := startA 12 [.fz ns]) (h := h) ⟨_, _, _, _, _, _, _, _, _, _, _, rfl⟩
  refine ⟨h', def_rt ((aSeq_nx (ρ' := ρ') (h' := h') ?_).trans (rt_ret ok_c))⟩
  have er : aRng1 (aCons (aBin fAdd (aC (.int 2)) (aCall cMin (aCons (aCall cLen (aCons (aVar 0) aNil)) (aCons (aC (.int 4)) aNil)))) aNil) (startA 12 [.fz ns]) h = .ok (itRng 0 (2 + (if (4 : Int) < ((ns.length : Nat) : Int) then (4 : Int) else ((ns.length : Nat) : Int))).toNat) h := by
    unfold aRng1
    rw [ok_cons ((ok_bin ok_c ((ok_call (ok_cons ((ok_call (ok_cons rfl ok_nil)).trans len_fz) (ok_cons ok_c ok_nil))).trans rfl)).trans fAdd_int) ok_nil, bind_ok]
    have z : in62 (2 + (if (4 : Int) < ((ns.length : Nat) : Int) then (4 : Int) else ((ns.length : Nat) : Int))) = true := by
      unfold in62
      rw [decide_eq_true (by split <;> omega), decide_eq_true (by split <;> omega)]
      rfl
    show (match in62 (2 + (if (4 : Int) < ((ns.length : Nat) : Int) then (4 : Int) else ((ns.length : Nat) : Int))) with
      | true => _
      | false => _) = _
    rw [z]
  unfold aFor
  rw [er]
  exact e
end K06
set_option Elab.async false
set_option linter.all false
set_option maxRecDepth 100000
set_option maxHeartbeats 4000000
/-! SM: the law's own promise, and what the top has written. -/
namespace SA
open PySem PySem.Spec PyProof.Rows L2
/-- the script is handed in, True comes back -/
def spLaw (n : Nat) (K : PySem.W.Frag) : Sp := fun vs H Q _ => ∃ (a : Addr) (ns : List Int), vs = [.ref a] ∧ FzL K H a (ns.map V.int) ∧ ns.length ≤ n ∧ ∀ H', Q (.bl true) H'
section
variable {P : Program} {w : World} {K : PySem.W.Frag} {mg : Str → Option Value} {base : Heap} {cl : Nat → Addr}
theorem law_end {CX : CXT} {k n : Nat} {f : Addr} {fd : FuncData} {ps : List Str} {d : List A → AH → Res A} (F : FnOk P w K mg base CX k f fd ps (spOf ⟨K, cl⟩ 1 d)) (hd : ∀ ns : List Int, ns.length ≤ n → ∃ h', d [.fz ns] [] = .ok (.bl true) h') :
    FnOk P w K mg base CX k f fd ps (spLaw n K) := F.imp fun vs H Q E ⟨a, ns, e, hf, hl, q⟩ => by
  subst e
  obtain ⟨h', e⟩ := hd ns hl
  refine ⟨[], [], [.fz ns], hr_nil, .cons (.fz hf) .nil, rfl, ?_⟩
  rw [e]
  intro m' v H' _ _ r
  cases r
  exact q H'
theorem rel_int {i : Int} {t : Tok} : L2.RelV (.int i) (.int i t) := ⟨t, rfl⟩
theorem rel_str {x : Str} {t : Tok} : L2.RelV (.str x) (.str x t) := ⟨t, rfl⟩
theorem rel_non : L2.RelV .non .none := rfl
theorem rel_bl {b : Bool} : L2.RelV (.bl b) (.bool b) := rfl
theorem rel_ref {a : Addr} : L2.RelV (.ref a) (.ref a) := rfl
/-- a tuple that the top has written -/
theorem sqt_mk {a : Addr} {d2 : Option Addr} {its : List Value} {n : Nat} {sl : Array (Option Value)} {xs : List V} (l : K.lookup a = some ⟨.type "tuple", d2, .seq its.toArray n, sl⟩) (hz : its.length ≤ 1000) (hv : Vals xs its) : ∀ H, SqT K H a xs :=
  fun _ => .inr ⟨_, its.toArray, n, l, rfl, rfl, by rw [List.size_toArray]; exact Nat.le_trans hz (by decide), by simpa using hv⟩
/-- an __init__ that has defaults -/
theorem fdd_mk {x qual : Str} {st : Stmt} {f Td : Addr} {oc : Value} {od an d2 : Option Addr} {osl sl2 : Array (Option Value)} {kV doc pm cdv ct tc : Value} {its : List Value} {n : Nat} {dvs : List V} (l : K.lookup f = some ⟨oc, od, .func (PySem.W.fnOf x qual (defArgs st) (defBody st) (defScope st) (.ref Td) kV doc pm an cdv ct), osl⟩)
    (c : PySem.W.codeIn K cdv qual = true) (k : PySem.W.keepIn K (.ref f) = true) (lT : K.lookup Td = some ⟨tc, d2, .seq its.toArray n, sl2⟩) (hd : dvs ≠ []) {j : Nat} (hv : Vals dvs its) (hj : dvs.length = j) :
    ∃ ds : List V, ds.length = j ∧ FunD K x qual (defArgs st) (defBody st) (defScope st) ds [] f (PySem.W.fnOf x qual (defArgs st) (defBody st) (defScope st) (.ref Td) kV doc pm an cdv ct) :=
  ⟨dvs, hj, ⟨oc, od, .ref Td, kV, doc, pm, an, cdv, ct, osl, rfl, l, c, .inr ⟨hd, Td, _, its, n, rfl, lT, rfl, hv⟩, .inl rfl⟩, k⟩
theorem oex_mk {C : Addr} {nm q : Str} {N : Addr} {bs bm : List Value} {sn : List Str} {sub : List Value} {ab : Bool} {col : Option Bool} {dd : Option Addr} {k0 k1 k2 k3 k5 : Option Value}
    (xl : K.lookup C = some (excClassObj nm q C N bs bm true sn sub ab col dd k0 k1 k2 k3 k5 "ValueError.__new__")) (ve : PySem.HandSPX.refsVE bm = true)
    (sa : PySem.W.findIn K (.ref C) "__setattr__" = some (some (.builtin "object.__setattr__"))) (xC : PySem.W.subIn K (.ref C) (.type "BaseException") = some true) (tC : PySem.W.typeIn K (.ref C) = some (.type "type")) (kC : PySem.W.keepIn K (.ref C) = true) : OexC K C :=
  ⟨⟨nm, q, N, bs, bm, sn, sub, ab, col, dd, k0, k1, k2, k3, k5, xl, ve⟩, sa, xC, tC, kC⟩
end
theorem walkA {l : PySem.W.OpenLaw} {q : Program} {loose : List Str} {XP : (Str → Option Value) → Heap → Prop} {YP : World → Heap → Prop} {d : DefRec} {K : Params → PySem.W.Frag} {k : Nat} {x : Str} (hn : l.most = some 63) (hdf : d.params.defaults = []) (hr : Room k callerA)
    (hY : ∀ (w : World) (h : Heap), YP w h → (K w.params).In h)
    (F : ∀ (w : World) (mg : Str → Option Value) (fa : Addr) (h : Heap), (K w.params).In h → h.Ns mainGlobals mg → mg d.name = some (.ref fa) →
      ∃ fd : FuncData, (∀ (s : Shared) (u : Value), BindsTo s fd ⟨[u], []⟩ [(x, u)]) ∧ ∀ base : Heap, (K w.params).In base → base.Ns mainGlobals mg → FnOk l.prog w (K w.params) mg base (L2.CX l.prog w) k fa fd [x] (spLaw 63 (K w.params))) :
    PySem.W.WalkO q loose XP YP l.row.toRowW d [] (fun f vs => PySem.call f vs) :=
  L2.walk_of (n := 63) (k := k) (x := x) (CX := fun w => L2.CX l.prog w) (sp := fun w => spLaw 63 (K w.params)) hn (by decide) hdf hr hY F
    (fun _ H a ns hl hO hS => by
      refine ⟨a, ns, rfl, ?_, hl, fun _ => rfl⟩
      rcases hS with (z | z) | z
      · rcases hO a with y | ⟨o, xs, y⟩ <;> (rw [z] at y; cases y)
      · exact .inl z
      · exact .inr z)
    fun _ _ _ _ _ h => by
      obtain ⟨_, _, _, _, _, _, _, _, _, _, _, _, z⟩ := h
      exact z
end SA
set_option Elab.async false
set_option linter.all false
set_option maxRecDepth 100000
set_option maxHeartbeats 8000000
namespace K06
open PySem PySem.Spec PyProof.Rows L2 SA
theorem all_mk {l : PySem.W.OpenLaw} {w : World} {K : PySem.W.Frag} {h : Heap} {mg : Str → Option Value} {fa : Addr} (X : K.In h) (G : h.Ns mainGlobals mg) (hfa : mg "law" = some (.ref fa))
    {C_Line : Addr}
    {C_Reading : Addr}
    {C_NoText f_NoText : Addr} {fd_NoText : FuncData}
    {a_run_end : Addr} {fd_run_end : FuncData}
    {a_word_end : Addr} {fd_word_end : FuncData}
    {a_words_of : Addr} {fd_words_of : FuncData}
    {a_Line___init__ : Addr} {fd_Line___init__ : FuncData}
    {a_Line_refuse : Addr} {fd_Line_refuse : FuncData}
    {a_Line_is_next : Addr} {fd_Line_is_next : FuncData}
    {a_Line_is_sort : Addr} {fd_Line_is_sort : FuncData}
    {a_Line_taken : Addr} {fd_Line_taken : FuncData}
    {a_Line_want : Addr} {fd_Line_want : FuncData}
    {a_Line_a_name : Addr} {fd_Line_a_name : FuncData}
    {a_Line_whole : Addr} {fd_Line_whole : FuncData}
    {a_Line_signed : Addr} {fd_Line_signed : FuncData}
    {a_Line_ends : Addr} {fd_Line_ends : FuncData}
    {a_Line_term : Addr} {fd_Line_term : FuncData}
    {a_Line_sums : Addr} {fd_Line_sums : FuncData}
    {a_Line_piece : Addr} {fd_Line_piece : FuncData}
    {a_Line_guard : Addr} {fd_Line_guard : FuncData}
    {a_Line_must : Addr} {fd_Line_must : FuncData}
    {a_Line_either : Addr} {fd_Line_either : FuncData}
    {a_Line_both : Addr} {fd_Line_both : FuncData}
    {a_Line_single : Addr} {fd_Line_single : FuncData}
    {a_Line_compared : Addr} {fd_Line_compared : FuncData}
    {a_Line_some_deeds : Addr} {fd_Line_some_deeds : FuncData}
    {a_Line_a_deed : Addr} {fd_Line_a_deed : FuncData}
    {a_Line_goals : Addr} {fd_Line_goals : FuncData}
    {a_Reading___init__ : Addr} {fd_Reading___init__ : FuncData}
    {a_Reading_here : Addr} {fd_Reading_here : FuncData}
    {a_Reading_next_blanks : Addr} {fd_Reading_next_blanks : FuncData}
    {a_Reading_finished : Addr} {fd_Reading_finished : FuncData}
    {a_Reading_flush : Addr} {fd_Reading_flush : FuncData}
    {a_Reading_a_chart : Addr} {fd_Reading_a_chart : FuncData}
    {a_Reading_a_stand : Addr} {fd_Reading_a_stand : FuncData}
    {a_Reading_is_below : Addr} {fd_Reading_is_below : FuncData}
    {a_Reading_deeds_of : Addr} {fd_Reading_deeds_of : FuncData}
    {a_Reading_a_move : Addr} {fd_Reading_a_move : FuncData}
    {a_read_chart : Addr} {fd_read_chart : FuncData}
    {a__law_mixed : Addr} {fd__law_mixed : FuncData}
    {a__law_purse : Addr} {fd__law_purse : FuncData}
    {a__law_take : Addr} {fd__law_take : FuncData}
    {a__law_at : Addr} {fd__law_at : FuncData}
    {a__law_pick : Addr} {fd__law_pick : FuncData}
    {a__law_good : Addr} {fd__law_good : FuncData}
    {a__law_bad : Addr} {fd__law_bad : FuncData}
    {a__law_row_of : Addr} {fd__law_row_of : FuncData}
    {a_law : Addr} {fd_law : FuncData}
    {t_SMALL : Tok}
    {t_FIGURES : Tok}
    {t_SIGNS : Tok}
    {w_WORDS : Addr}
    {t_MOST_SIGNS : Tok}
    {t_MOST_FIGURES : Tok}
    {w_NESTS : Addr}
    {w_MARKERS : Addr}
    {w_SORTS : Addr}
    (m_Line : PySem.W.nsIn K mainGlobals "Line" = some (some (.ref C_Line)))
    (q_Line : Cls K C_Line)
    (m_Reading : PySem.W.nsIn K mainGlobals "Reading" = some (some (.ref C_Reading)))
    (q_Reading : Cls K C_Reading)
    (na_Line_number : PySem.W.findIn K (.ref C_Line) "number" = some none)
    (na_Line_blanks : PySem.W.findIn K (.ref C_Line) "blanks" = some none)
    (na_Line_left : PySem.W.findIn K (.ref C_Line) "left" = some none)
    (na_Reading_lines : PySem.W.findIn K (.ref C_Reading) "lines" = some none)
    (na_Reading_end : PySem.W.findIn K (.ref C_Reading) "end" = some none)
    (na_Reading_at : PySem.W.findIn K (.ref C_Reading) "at" = some none)
    (na_Reading_noted : PySem.W.findIn K (.ref C_Reading) "noted" = some none)
    (m_NoText : PySem.W.nsIn K mainGlobals "NoText" = some (some (.ref C_NoText)))
    (te_NoText : PySem.W.exmOne K (.ref C_NoText) (.ref C_NoText) = some true)
    (xf_NoText : XfC K C_NoText)
    (ox_NoText : OexC K C_NoText)
    (it_NoText : PySem.W.findIn K (.ref C_NoText) "__init__" = some (some (.ref f_NoText)))
    (ty_NoText : PySem.W.typeIn K (.ref f_NoText) = some (.type "function"))
    (no_NoText_row : PySem.W.findIn K (.ref C_NoText) "row" = some none)
    (no_NoText_column : PySem.W.findIn K (.ref C_NoText) "column" = some none)
    (FD_NoText : ∃ dvs : List V, dvs.length = 2 ∧ FunD K "__init__" "NoText.__init__" (defArgs s_NoText) (defBody s_NoText) (defScope s_NoText) dvs [] f_NoText fd_NoText)
    (m_run_end : PySem.W.nsIn K mainGlobals "run_end" = some (some (.ref a_run_end)))
    (F_run_end : Fun K "run_end" "run_end" s_run_end a_run_end fd_run_end)
    (m_word_end : PySem.W.nsIn K mainGlobals "word_end" = some (some (.ref a_word_end)))
    (F_word_end : Fun K "word_end" "word_end" s_word_end a_word_end fd_word_end)
    (m_words_of : PySem.W.nsIn K mainGlobals "words_of" = some (some (.ref a_words_of)))
    (F_words_of : Fun K "words_of" "words_of" s_words_of a_words_of fd_words_of)
    (i_Line___init__ : PySem.W.findIn K (.ref C_Line) "__init__" = some (some (.ref a_Line___init__)))
    (y_Line___init__ : PySem.W.isFn K (.ref a_Line___init__) = true)
    (w_Line___init__ : PySem.W.makesIn K C_Line = true)
    (v_Line___init__ : PySem.W.keepIn K (.ref C_Line) = true)
    (F_Line___init__ : Fun K "__init__" "Line.__init__" s_Line___init__ a_Line___init__ fd_Line___init__)
    (i_Line_refuse : PySem.W.findIn K (.ref C_Line) "refuse" = some (some (.ref a_Line_refuse)))
    (y_Line_refuse : PySem.W.isFn K (.ref a_Line_refuse) = true)
    (F_Line_refuse : Fun K "refuse" "Line.refuse" s_Line_refuse a_Line_refuse fd_Line_refuse)
    (i_Line_is_next : PySem.W.findIn K (.ref C_Line) "is_next" = some (some (.ref a_Line_is_next)))
    (y_Line_is_next : PySem.W.isFn K (.ref a_Line_is_next) = true)
    (F_Line_is_next : Fun K "is_next" "Line.is_next" s_Line_is_next a_Line_is_next fd_Line_is_next)
    (i_Line_is_sort : PySem.W.findIn K (.ref C_Line) "is_sort" = some (some (.ref a_Line_is_sort)))
    (y_Line_is_sort : PySem.W.isFn K (.ref a_Line_is_sort) = true)
    (F_Line_is_sort : Fun K "is_sort" "Line.is_sort" s_Line_is_sort a_Line_is_sort fd_Line_is_sort)
    (i_Line_taken : PySem.W.findIn K (.ref C_Line) "taken" = some (some (.ref a_Line_taken)))
    (y_Line_taken : PySem.W.isFn K (.ref a_Line_taken) = true)
    (F_Line_taken : Fun K "taken" "Line.taken" s_Line_taken a_Line_taken fd_Line_taken)
    (i_Line_want : PySem.W.findIn K (.ref C_Line) "want" = some (some (.ref a_Line_want)))
    (y_Line_want : PySem.W.isFn K (.ref a_Line_want) = true)
    (F_Line_want : Fun K "want" "Line.want" s_Line_want a_Line_want fd_Line_want)
    (i_Line_a_name : PySem.W.findIn K (.ref C_Line) "a_name" = some (some (.ref a_Line_a_name)))
    (y_Line_a_name : PySem.W.isFn K (.ref a_Line_a_name) = true)
    (F_Line_a_name : Fun K "a_name" "Line.a_name" s_Line_a_name a_Line_a_name fd_Line_a_name)
    (i_Line_whole : PySem.W.findIn K (.ref C_Line) "whole" = some (some (.ref a_Line_whole)))
    (y_Line_whole : PySem.W.isFn K (.ref a_Line_whole) = true)
    (F_Line_whole : Fun K "whole" "Line.whole" s_Line_whole a_Line_whole fd_Line_whole)
    (i_Line_signed : PySem.W.findIn K (.ref C_Line) "signed" = some (some (.ref a_Line_signed)))
    (y_Line_signed : PySem.W.isFn K (.ref a_Line_signed) = true)
    (F_Line_signed : Fun K "signed" "Line.signed" s_Line_signed a_Line_signed fd_Line_signed)
    (i_Line_ends : PySem.W.findIn K (.ref C_Line) "ends" = some (some (.ref a_Line_ends)))
    (y_Line_ends : PySem.W.isFn K (.ref a_Line_ends) = true)
    (F_Line_ends : Fun K "ends" "Line.ends" s_Line_ends a_Line_ends fd_Line_ends)
    (i_Line_term : PySem.W.findIn K (.ref C_Line) "term" = some (some (.ref a_Line_term)))
    (y_Line_term : PySem.W.isFn K (.ref a_Line_term) = true)
    (F_Line_term : Fun K "term" "Line.term" s_Line_term a_Line_term fd_Line_term)
    (i_Line_sums : PySem.W.findIn K (.ref C_Line) "sums" = some (some (.ref a_Line_sums)))
    (y_Line_sums : PySem.W.isFn K (.ref a_Line_sums) = true)
    (F_Line_sums : Fun K "sums" "Line.sums" s_Line_sums a_Line_sums fd_Line_sums)
    (i_Line_piece : PySem.W.findIn K (.ref C_Line) "piece" = some (some (.ref a_Line_piece)))
    (y_Line_piece : PySem.W.isFn K (.ref a_Line_piece) = true)
    (F_Line_piece : Fun K "piece" "Line.piece" s_Line_piece a_Line_piece fd_Line_piece)
    (i_Line_guard : PySem.W.findIn K (.ref C_Line) "guard" = some (some (.ref a_Line_guard)))
    (y_Line_guard : PySem.W.isFn K (.ref a_Line_guard) = true)
    (F_Line_guard : Fun K "guard" "Line.guard" s_Line_guard a_Line_guard fd_Line_guard)
    (i_Line_must : PySem.W.findIn K (.ref C_Line) "must" = some (some (.ref a_Line_must)))
    (y_Line_must : PySem.W.isFn K (.ref a_Line_must) = true)
    (F_Line_must : Fun K "must" "Line.must" s_Line_must a_Line_must fd_Line_must)
    (i_Line_either : PySem.W.findIn K (.ref C_Line) "either" = some (some (.ref a_Line_either)))
    (y_Line_either : PySem.W.isFn K (.ref a_Line_either) = true)
    (F_Line_either : Fun K "either" "Line.either" s_Line_either a_Line_either fd_Line_either)
    (i_Line_both : PySem.W.findIn K (.ref C_Line) "both" = some (some (.ref a_Line_both)))
    (y_Line_both : PySem.W.isFn K (.ref a_Line_both) = true)
    (F_Line_both : Fun K "both" "Line.both" s_Line_both a_Line_both fd_Line_both)
    (i_Line_single : PySem.W.findIn K (.ref C_Line) "single" = some (some (.ref a_Line_single)))
    (y_Line_single : PySem.W.isFn K (.ref a_Line_single) = true)
    (F_Line_single : Fun K "single" "Line.single" s_Line_single a_Line_single fd_Line_single)
    (i_Line_compared : PySem.W.findIn K (.ref C_Line) "compared" = some (some (.ref a_Line_compared)))
    (y_Line_compared : PySem.W.isFn K (.ref a_Line_compared) = true)
    (F_Line_compared : Fun K "compared" "Line.compared" s_Line_compared a_Line_compared fd_Line_compared)
    (i_Line_some_deeds : PySem.W.findIn K (.ref C_Line) "some_deeds" = some (some (.ref a_Line_some_deeds)))
    (y_Line_some_deeds : PySem.W.isFn K (.ref a_Line_some_deeds) = true)
    (F_Line_some_deeds : Fun K "some_deeds" "Line.some_deeds" s_Line_some_deeds a_Line_some_deeds fd_Line_some_deeds)
    (i_Line_a_deed : PySem.W.findIn K (.ref C_Line) "a_deed" = some (some (.ref a_Line_a_deed)))
    (y_Line_a_deed : PySem.W.isFn K (.ref a_Line_a_deed) = true)
    (F_Line_a_deed : Fun K "a_deed" "Line.a_deed" s_Line_a_deed a_Line_a_deed fd_Line_a_deed)
    (i_Line_goals : PySem.W.findIn K (.ref C_Line) "goals" = some (some (.ref a_Line_goals)))
    (y_Line_goals : PySem.W.isFn K (.ref a_Line_goals) = true)
    (F_Line_goals : Fun K "goals" "Line.goals" s_Line_goals a_Line_goals fd_Line_goals)
    (i_Reading___init__ : PySem.W.findIn K (.ref C_Reading) "__init__" = some (some (.ref a_Reading___init__)))
    (y_Reading___init__ : PySem.W.isFn K (.ref a_Reading___init__) = true)
    (w_Reading___init__ : PySem.W.makesIn K C_Reading = true)
    (v_Reading___init__ : PySem.W.keepIn K (.ref C_Reading) = true)
    (F_Reading___init__ : Fun K "__init__" "Reading.__init__" s_Reading___init__ a_Reading___init__ fd_Reading___init__)
    (i_Reading_here : PySem.W.findIn K (.ref C_Reading) "here" = some (some (.ref a_Reading_here)))
    (y_Reading_here : PySem.W.isFn K (.ref a_Reading_here) = true)
    (F_Reading_here : Fun K "here" "Reading.here" s_Reading_here a_Reading_here fd_Reading_here)
    (i_Reading_next_blanks : PySem.W.findIn K (.ref C_Reading) "next_blanks" = some (some (.ref a_Reading_next_blanks)))
    (y_Reading_next_blanks : PySem.W.isFn K (.ref a_Reading_next_blanks) = true)
    (F_Reading_next_blanks : Fun K "next_blanks" "Reading.next_blanks" s_Reading_next_blanks a_Reading_next_blanks fd_Reading_next_blanks)
    (i_Reading_finished : PySem.W.findIn K (.ref C_Reading) "finished" = some (some (.ref a_Reading_finished)))
    (y_Reading_finished : PySem.W.isFn K (.ref a_Reading_finished) = true)
    (F_Reading_finished : Fun K "finished" "Reading.finished" s_Reading_finished a_Reading_finished fd_Reading_finished)
    (i_Reading_flush : PySem.W.findIn K (.ref C_Reading) "flush" = some (some (.ref a_Reading_flush)))
    (y_Reading_flush : PySem.W.isFn K (.ref a_Reading_flush) = true)
    (F_Reading_flush : Fun K "flush" "Reading.flush" s_Reading_flush a_Reading_flush fd_Reading_flush)
    (i_Reading_a_chart : PySem.W.findIn K (.ref C_Reading) "a_chart" = some (some (.ref a_Reading_a_chart)))
    (y_Reading_a_chart : PySem.W.isFn K (.ref a_Reading_a_chart) = true)
    (F_Reading_a_chart : Fun K "a_chart" "Reading.a_chart" s_Reading_a_chart a_Reading_a_chart fd_Reading_a_chart)
    (i_Reading_a_stand : PySem.W.findIn K (.ref C_Reading) "a_stand" = some (some (.ref a_Reading_a_stand)))
    (y_Reading_a_stand : PySem.W.isFn K (.ref a_Reading_a_stand) = true)
    (F_Reading_a_stand : Fun K "a_stand" "Reading.a_stand" s_Reading_a_stand a_Reading_a_stand fd_Reading_a_stand)
    (i_Reading_is_below : PySem.W.findIn K (.ref C_Reading) "is_below" = some (some (.ref a_Reading_is_below)))
    (y_Reading_is_below : PySem.W.isFn K (.ref a_Reading_is_below) = true)
    (F_Reading_is_below : Fun K "is_below" "Reading.is_below" s_Reading_is_below a_Reading_is_below fd_Reading_is_below)
    (i_Reading_deeds_of : PySem.W.findIn K (.ref C_Reading) "deeds_of" = some (some (.ref a_Reading_deeds_of)))
    (y_Reading_deeds_of : PySem.W.isFn K (.ref a_Reading_deeds_of) = true)
    (F_Reading_deeds_of : Fun K "deeds_of" "Reading.deeds_of" s_Reading_deeds_of a_Reading_deeds_of fd_Reading_deeds_of)
    (i_Reading_a_move : PySem.W.findIn K (.ref C_Reading) "a_move" = some (some (.ref a_Reading_a_move)))
    (y_Reading_a_move : PySem.W.isFn K (.ref a_Reading_a_move) = true)
    (F_Reading_a_move : Fun K "a_move" "Reading.a_move" s_Reading_a_move a_Reading_a_move fd_Reading_a_move)
    (m_read_chart : PySem.W.nsIn K mainGlobals "read_chart" = some (some (.ref a_read_chart)))
    (F_read_chart : Fun K "read_chart" "read_chart" s_read_chart a_read_chart fd_read_chart)
    (m__law_mixed : PySem.W.nsIn K mainGlobals "_law_mixed" = some (some (.ref a__law_mixed)))
    (F__law_mixed : Fun K "_law_mixed" "_law_mixed" s__law_mixed a__law_mixed fd__law_mixed)
    (m__law_purse : PySem.W.nsIn K mainGlobals "_law_purse" = some (some (.ref a__law_purse)))
    (F__law_purse : Fun K "_law_purse" "_law_purse" s__law_purse a__law_purse fd__law_purse)
    (m__law_take : PySem.W.nsIn K mainGlobals "_law_take" = some (some (.ref a__law_take)))
    (F__law_take : Fun K "_law_take" "_law_take" s__law_take a__law_take fd__law_take)
    (m__law_at : PySem.W.nsIn K mainGlobals "_law_at" = some (some (.ref a__law_at)))
    (F__law_at : Fun K "_law_at" "_law_at" s__law_at a__law_at fd__law_at)
    (m__law_pick : PySem.W.nsIn K mainGlobals "_law_pick" = some (some (.ref a__law_pick)))
    (F__law_pick : Fun K "_law_pick" "_law_pick" s__law_pick a__law_pick fd__law_pick)
    (m__law_good : PySem.W.nsIn K mainGlobals "_law_good" = some (some (.ref a__law_good)))
    (F__law_good : Fun K "_law_good" "_law_good" s__law_good a__law_good fd__law_good)
    (m__law_bad : PySem.W.nsIn K mainGlobals "_law_bad" = some (some (.ref a__law_bad)))
    (F__law_bad : Fun K "_law_bad" "_law_bad" s__law_bad a__law_bad fd__law_bad)
    (m__law_row_of : PySem.W.nsIn K mainGlobals "_law_row_of" = some (some (.ref a__law_row_of)))
    (F__law_row_of : Fun K "_law_row_of" "_law_row_of" s__law_row_of a__law_row_of fd__law_row_of)
    (m_law : PySem.W.nsIn K mainGlobals "law" = some (some (.ref a_law)))
    (F_law : Fun K "law" "law" s_law a_law fd_law)
    (z_enumerate : PySem.W.nsIn K mainGlobals "enumerate" = some none)
    (z_int : PySem.W.nsIn K mainGlobals "int" = some none)
    (z_len : PySem.W.nsIn K mainGlobals "len" = some none)
    (z_min : PySem.W.nsIn K mainGlobals "min" = some none)
    (z_range : PySem.W.nsIn K mainGlobals "range" = some none)
    (z_tuple : PySem.W.nsIn K mainGlobals "tuple" = some none)
    (m_SMALL : PySem.W.nsIn K mainGlobals "SMALL" = some (some (.str "abcdefghijklmnopqrstuvwxyz" t_SMALL)))
    (m_FIGURES : PySem.W.nsIn K mainGlobals "FIGURES" = some (some (.str "0123456789" t_FIGURES)))
    (m_SIGNS : PySem.W.nsIn K mainGlobals "SIGNS" = some (some (.str "()+-<=," t_SIGNS)))
    (m_WORDS : PySem.W.nsIn K mainGlobals "WORDS" = some (some (.ref w_WORDS)))
    (u_WORDS : ∀ H, SqT K H w_WORDS ((["fact", "on", "one", "all", "leaf", "end", "back", "deep", "into", "out", "go", "after", "done", "if", "do", "to", "set", "raise", "say", "in", "not", "and", "or", "yes"] : List Str).map V.str))
    (m_MOST_SIGNS : PySem.W.nsIn K mainGlobals "MOST_SIGNS" = some (some (.int 8 t_MOST_SIGNS)))
    (m_MOST_FIGURES : PySem.W.nsIn K mainGlobals "MOST_FIGURES" = some (some (.int 9 t_MOST_FIGURES)))
    (m_NESTS : PySem.W.nsIn K mainGlobals "NESTS" = some (some (.ref w_NESTS)))
    (u_NESTS : ∀ H, SqT K H w_NESTS ((["one", "all"] : List Str).map V.str))
    (m_MARKERS : PySem.W.nsIn K mainGlobals "MARKERS" = some (some (.ref w_MARKERS)))
    (u_MARKERS : ∀ H, SqT K H w_MARKERS ((["back", "deep"] : List Str).map V.str))
    (m_SORTS : PySem.W.nsIn K mainGlobals "SORTS" = some (some (.ref w_SORTS)))
    (u_SORTS : ∀ H, SqT K H w_SORTS ((["one", "all", "leaf", "end", "back", "deep"] : List Str).map V.str)) :
    ∃ fd : FuncData, (∀ (s : Shared) (v : Value), BindsTo s fd ⟨[v], []⟩ [("_law_script", v)]) ∧ ∀ base : Heap, K.In base → base.Ns mainGlobals mg → FnOk l.prog w K mg base (L2.CX l.prog w) 160 fa fd ["_law_script"] (spLaw 63 K) := by
  have e := hfa.symm.trans (PySem.W.mg_of X G m_law)
  cases e
  let A : Ads := { C_Line := C_Line, C_Reading := C_Reading, C_NoText := C_NoText, f_NoText := f_NoText, fd_NoText := fd_NoText, a_run_end := a_run_end, fd_run_end := fd_run_end, a_word_end := a_word_end, fd_word_end := fd_word_end, a_words_of := a_words_of, fd_words_of := fd_words_of, a_Line___init__ := a_Line___init__, fd_Line___init__ := fd_Line___init__, a_Line_refuse := a_Line_refuse, fd_Line_refuse := fd_Line_refuse, a_Line_is_next := a_Line_is_next, fd_Line_is_next := fd_Line_is_next, a_Line_is_sort := a_Line_is_sort, fd_Line_is_sort := fd_Line_is_sort, a_Line_taken := a_Line_taken, fd_Line_taken := fd_Line_taken, a_Line_want := a_Line_want, fd_Line_want := fd_Line_want, a_Line_a_name := a_Line_a_name, fd_Line_a_name := fd_Line_a_name, a_Line_whole := a_Line_whole, fd_Line_whole := fd_Line_whole, a_Line_signed := a_Line_signed, fd_Line_signed := fd_Line_signed, a_Line_ends := a_Line_ends, fd_Line_ends := fd_Line_ends, a_Line_term := a_Line_term, fd_Line_term := fd_Line_term, a_Line_sums := a_Line_sums, fd_Line_sums := fd_Line_sums, a_Line_piece := a_Line_piece, fd_Line_piece := fd_Line_piece, a_Line_guard := a_Line_guard, fd_Line_guard := fd_Line_guard, a_Line_must := a_Line_must, fd_Line_must := fd_Line_must, a_Line_either := a_Line_either, fd_Line_either := fd_Line_either, a_Line_both := a_Line_both, fd_Line_both := fd_Line_both, a_Line_single := a_Line_single, fd_Line_single := fd_Line_single, a_Line_compared := a_Line_compared, fd_Line_compared := fd_Line_compared, a_Line_some_deeds := a_Line_some_deeds, fd_Line_some_deeds := fd_Line_some_deeds, a_Line_a_deed := a_Line_a_deed, fd_Line_a_deed := fd_Line_a_deed, a_Line_goals := a_Line_goals, fd_Line_goals := fd_Line_goals, a_Reading___init__ := a_Reading___init__, fd_Reading___init__ := fd_Reading___init__, a_Reading_here := a_Reading_here, fd_Reading_here := fd_Reading_here, a_Reading_next_blanks := a_Reading_next_blanks, fd_Reading_next_blanks := fd_Reading_next_blanks, a_Reading_finished := a_Reading_finished, fd_Reading_finished := fd_Reading_finished, a_Reading_flush := a_Reading_flush, fd_Reading_flush := fd_Reading_flush, a_Reading_a_chart := a_Reading_a_chart, fd_Reading_a_chart := fd_Reading_a_chart, a_Reading_a_stand := a_Reading_a_stand, fd_Reading_a_stand := fd_Reading_a_stand, a_Reading_is_below := a_Reading_is_below, fd_Reading_is_below := fd_Reading_is_below, a_Reading_deeds_of := a_Reading_deeds_of, fd_Reading_deeds_of := fd_Reading_deeds_of, a_Reading_a_move := a_Reading_a_move, fd_Reading_a_move := fd_Reading_a_move, a_read_chart := a_read_chart, fd_read_chart := fd_read_chart, a__law_mixed := a__law_mixed, fd__law_mixed := fd__law_mixed, a__law_purse := a__law_purse, fd__law_purse := fd__law_purse, a__law_take := a__law_take, fd__law_take := fd__law_take, a__law_at := a__law_at, fd__law_at := fd__law_at, a__law_pick := a__law_pick, fd__law_pick := fd__law_pick, a__law_good := a__law_good, fd__law_good := fd__law_good, a__law_bad := a__law_bad, fd__law_bad := fd__law_bad, a__law_row_of := a__law_row_of, fd__law_row_of := fd__law_row_of, a_law := fa, fd_law := fd_law, t_SMALL := t_SMALL, t_FIGURES := t_FIGURES, t_SIGNS := t_SIGNS, w_WORDS := w_WORDS, t_MOST_SIGNS := t_MOST_SIGNS, t_MOST_FIGURES := t_MOST_FIGURES, w_NESTS := w_NESTS, w_MARKERS := w_MARKERS, w_SORTS := w_SORTS }
  have T : Txt K mg A := by
    constructor
    case cl_Line => exact q_Line
    case g_Line => exact PySem.W.mg_of X G m_Line
    case cl_Reading => exact q_Reading
    case g_Reading => exact PySem.W.mg_of X G m_Reading
    case na_Line_number => exact na_Line_number
    case na_Line_blanks => exact na_Line_blanks
    case na_Line_left => exact na_Line_left
    case na_Reading_lines => exact na_Reading_lines
    case na_Reading_end => exact na_Reading_end
    case na_Reading_at => exact na_Reading_at
    case na_Reading_noted => exact na_Reading_noted
    case g_NoText => exact PySem.W.mg_of X G m_NoText
    case te_NoText => exact te_NoText
    case xf_NoText => exact xf_NoText
    case ox_NoText => exact ox_NoText
    case it_NoText => exact it_NoText
    case ty_NoText => exact ty_NoText
    case FD_NoText => exact FD_NoText
    case no_NoText_row => exact no_NoText_row
    case no_NoText_column => exact no_NoText_column
    case g_run_end => exact PySem.W.mg_of X G m_run_end
    case F_run_end => exact F_run_end
    case b_run_end => exact F_run_end.binds (ps := ["row", "at", "signs", "most"]) fun _ _ _ _ _ _ us hl => match us, hl with | [_, _, _, _], _ => rfl
    case g_word_end => exact PySem.W.mg_of X G m_word_end
    case F_word_end => exact F_word_end
    case b_word_end => exact F_word_end.binds (ps := ["row", "at"]) fun _ _ _ _ _ _ us hl => match us, hl with | [_, _], _ => rfl
    case g_words_of => exact PySem.W.mg_of X G m_words_of
    case F_words_of => exact F_words_of
    case b_words_of => exact F_words_of.binds (ps := ["row"]) fun _ _ _ _ _ _ us hl => match us, hl with | [_], _ => rfl
    case mk_Line => exact ⟨w_Line___init__, i_Line___init__, y_Line___init__, v_Line___init__⟩
    case F_Line___init__ => exact F_Line___init__
    case b_Line___init__ => exact F_Line___init__.binds (ps := ["self", "number", "row"]) fun _ _ _ _ _ _ us hl => match us, hl with | [_, _, _], _ => rfl
    case m_Line_refuse => exact ⟨i_Line_refuse, y_Line_refuse, F_Line_refuse.kp⟩
    case F_Line_refuse => exact F_Line_refuse
    case b_Line_refuse => exact F_Line_refuse.binds (ps := ["self"]) fun _ _ _ _ _ _ us hl => match us, hl with | [_], _ => rfl
    case m_Line_is_next => exact ⟨i_Line_is_next, y_Line_is_next, F_Line_is_next.kp⟩
    case F_Line_is_next => exact F_Line_is_next
    case b_Line_is_next => exact F_Line_is_next.binds (ps := ["self", "words"]) fun _ _ _ _ _ _ us hl => match us, hl with | [_, _], _ => rfl
    case m_Line_is_sort => exact ⟨i_Line_is_sort, y_Line_is_sort, F_Line_is_sort.kp⟩
    case F_Line_is_sort => exact F_Line_is_sort
    case b_Line_is_sort => exact F_Line_is_sort.binds (ps := ["self", "sort"]) fun _ _ _ _ _ _ us hl => match us, hl with | [_, _], _ => rfl
    case m_Line_taken => exact ⟨i_Line_taken, y_Line_taken, F_Line_taken.kp⟩
    case F_Line_taken => exact F_Line_taken
    case b_Line_taken => exact F_Line_taken.binds (ps := ["self"]) fun _ _ _ _ _ _ us hl => match us, hl with | [_], _ => rfl
    case m_Line_want => exact ⟨i_Line_want, y_Line_want, F_Line_want.kp⟩
    case F_Line_want => exact F_Line_want
    case b_Line_want => exact F_Line_want.binds (ps := ["self", "words"]) fun _ _ _ _ _ _ us hl => match us, hl with | [_, _], _ => rfl
    case m_Line_a_name => exact ⟨i_Line_a_name, y_Line_a_name, F_Line_a_name.kp⟩
    case F_Line_a_name => exact F_Line_a_name
    case b_Line_a_name => exact F_Line_a_name.binds (ps := ["self"]) fun _ _ _ _ _ _ us hl => match us, hl with | [_], _ => rfl
    case m_Line_whole => exact ⟨i_Line_whole, y_Line_whole, F_Line_whole.kp⟩
    case F_Line_whole => exact F_Line_whole
    case b_Line_whole => exact F_Line_whole.binds (ps := ["self"]) fun _ _ _ _ _ _ us hl => match us, hl with | [_], _ => rfl
    case m_Line_signed => exact ⟨i_Line_signed, y_Line_signed, F_Line_signed.kp⟩
    case F_Line_signed => exact F_Line_signed
    case b_Line_signed => exact F_Line_signed.binds (ps := ["self"]) fun _ _ _ _ _ _ us hl => match us, hl with | [_], _ => rfl
    case m_Line_ends => exact ⟨i_Line_ends, y_Line_ends, F_Line_ends.kp⟩
    case F_Line_ends => exact F_Line_ends
    case b_Line_ends => exact F_Line_ends.binds (ps := ["self"]) fun _ _ _ _ _ _ us hl => match us, hl with | [_], _ => rfl
    case m_Line_term => exact ⟨i_Line_term, y_Line_term, F_Line_term.kp⟩
    case F_Line_term => exact F_Line_term
    case b_Line_term => exact F_Line_term.binds (ps := ["self"]) fun _ _ _ _ _ _ us hl => match us, hl with | [_], _ => rfl
    case m_Line_sums => exact ⟨i_Line_sums, y_Line_sums, F_Line_sums.kp⟩
    case F_Line_sums => exact F_Line_sums
    case b_Line_sums => exact F_Line_sums.binds (ps := ["self", "found"]) fun _ _ _ _ _ _ us hl => match us, hl with | [_, _], _ => rfl
    case m_Line_piece => exact ⟨i_Line_piece, y_Line_piece, F_Line_piece.kp⟩
    case F_Line_piece => exact F_Line_piece
    case b_Line_piece => exact F_Line_piece.binds (ps := ["self"]) fun _ _ _ _ _ _ us hl => match us, hl with | [_], _ => rfl
    case m_Line_guard => exact ⟨i_Line_guard, y_Line_guard, F_Line_guard.kp⟩
    case F_Line_guard => exact F_Line_guard
    case b_Line_guard => exact F_Line_guard.binds (ps := ["self"]) fun _ _ _ _ _ _ us hl => match us, hl with | [_], _ => rfl
    case m_Line_must => exact ⟨i_Line_must, y_Line_must, F_Line_must.kp⟩
    case F_Line_must => exact F_Line_must
    case b_Line_must => exact F_Line_must.binds (ps := ["self", "pair"]) fun _ _ _ _ _ _ us hl => match us, hl with | [_, _], _ => rfl
    case m_Line_either => exact ⟨i_Line_either, y_Line_either, F_Line_either.kp⟩
    case F_Line_either => exact F_Line_either
    case b_Line_either => exact F_Line_either.binds (ps := ["self"]) fun _ _ _ _ _ _ us hl => match us, hl with | [_], _ => rfl
    case m_Line_both => exact ⟨i_Line_both, y_Line_both, F_Line_both.kp⟩
    case F_Line_both => exact F_Line_both
    case b_Line_both => exact F_Line_both.binds (ps := ["self"]) fun _ _ _ _ _ _ us hl => match us, hl with | [_], _ => rfl
    case m_Line_single => exact ⟨i_Line_single, y_Line_single, F_Line_single.kp⟩
    case F_Line_single => exact F_Line_single
    case b_Line_single => exact F_Line_single.binds (ps := ["self"]) fun _ _ _ _ _ _ us hl => match us, hl with | [_], _ => rfl
    case m_Line_compared => exact ⟨i_Line_compared, y_Line_compared, F_Line_compared.kp⟩
    case F_Line_compared => exact F_Line_compared
    case b_Line_compared => exact F_Line_compared.binds (ps := ["self", "found"]) fun _ _ _ _ _ _ us hl => match us, hl with | [_, _], _ => rfl
    case m_Line_some_deeds => exact ⟨i_Line_some_deeds, y_Line_some_deeds, F_Line_some_deeds.kp⟩
    case F_Line_some_deeds => exact F_Line_some_deeds
    case b_Line_some_deeds => exact F_Line_some_deeds.binds (ps := ["self"]) fun _ _ _ _ _ _ us hl => match us, hl with | [_], _ => rfl
    case m_Line_a_deed => exact ⟨i_Line_a_deed, y_Line_a_deed, F_Line_a_deed.kp⟩
    case F_Line_a_deed => exact F_Line_a_deed
    case b_Line_a_deed => exact F_Line_a_deed.binds (ps := ["self"]) fun _ _ _ _ _ _ us hl => match us, hl with | [_], _ => rfl
    case m_Line_goals => exact ⟨i_Line_goals, y_Line_goals, F_Line_goals.kp⟩
    case F_Line_goals => exact F_Line_goals
    case b_Line_goals => exact F_Line_goals.binds (ps := ["self"]) fun _ _ _ _ _ _ us hl => match us, hl with | [_], _ => rfl
    case mk_Reading => exact ⟨w_Reading___init__, i_Reading___init__, y_Reading___init__, v_Reading___init__⟩
    case F_Reading___init__ => exact F_Reading___init__
    case b_Reading___init__ => exact F_Reading___init__.binds (ps := ["self", "rows"]) fun _ _ _ _ _ _ us hl => match us, hl with | [_, _], _ => rfl
    case m_Reading_here => exact ⟨i_Reading_here, y_Reading_here, F_Reading_here.kp⟩
    case F_Reading_here => exact F_Reading_here
    case b_Reading_here => exact F_Reading_here.binds (ps := ["self"]) fun _ _ _ _ _ _ us hl => match us, hl with | [_], _ => rfl
    case m_Reading_next_blanks => exact ⟨i_Reading_next_blanks, y_Reading_next_blanks, F_Reading_next_blanks.kp⟩
    case F_Reading_next_blanks => exact F_Reading_next_blanks
    case b_Reading_next_blanks => exact F_Reading_next_blanks.binds (ps := ["self"]) fun _ _ _ _ _ _ us hl => match us, hl with | [_], _ => rfl
    case m_Reading_finished => exact ⟨i_Reading_finished, y_Reading_finished, F_Reading_finished.kp⟩
    case F_Reading_finished => exact F_Reading_finished
    case b_Reading_finished => exact F_Reading_finished.binds (ps := ["self", "line"]) fun _ _ _ _ _ _ us hl => match us, hl with | [_, _], _ => rfl
    case m_Reading_flush => exact ⟨i_Reading_flush, y_Reading_flush, F_Reading_flush.kp⟩
    case F_Reading_flush => exact F_Reading_flush
    case b_Reading_flush => exact F_Reading_flush.binds (ps := ["self"]) fun _ _ _ _ _ _ us hl => match us, hl with | [_], _ => rfl
    case m_Reading_a_chart => exact ⟨i_Reading_a_chart, y_Reading_a_chart, F_Reading_a_chart.kp⟩
    case F_Reading_a_chart => exact F_Reading_a_chart
    case b_Reading_a_chart => exact F_Reading_a_chart.binds (ps := ["self"]) fun _ _ _ _ _ _ us hl => match us, hl with | [_], _ => rfl
    case m_Reading_a_stand => exact ⟨i_Reading_a_stand, y_Reading_a_stand, F_Reading_a_stand.kp⟩
    case F_Reading_a_stand => exact F_Reading_a_stand
    case b_Reading_a_stand => exact F_Reading_a_stand.binds (ps := ["self", "blanks"]) fun _ _ _ _ _ _ us hl => match us, hl with | [_, _], _ => rfl
    case m_Reading_is_below => exact ⟨i_Reading_is_below, y_Reading_is_below, F_Reading_is_below.kp⟩
    case F_Reading_is_below => exact F_Reading_is_below
    case b_Reading_is_below => exact F_Reading_is_below.binds (ps := ["self", "blanks", "below"]) fun _ _ _ _ _ _ us hl => match us, hl with | [_, _, _], _ => rfl
    case m_Reading_deeds_of => exact ⟨i_Reading_deeds_of, y_Reading_deeds_of, F_Reading_deeds_of.kp⟩
    case F_Reading_deeds_of => exact F_Reading_deeds_of
    case b_Reading_deeds_of => exact F_Reading_deeds_of.binds (ps := ["self", "word", "blanks", "below"]) fun _ _ _ _ _ _ us hl => match us, hl with | [_, _, _, _], _ => rfl
    case m_Reading_a_move => exact ⟨i_Reading_a_move, y_Reading_a_move, F_Reading_a_move.kp⟩
    case F_Reading_a_move => exact F_Reading_a_move
    case b_Reading_a_move => exact F_Reading_a_move.binds (ps := ["self"]) fun _ _ _ _ _ _ us hl => match us, hl with | [_], _ => rfl
    case g_read_chart => exact PySem.W.mg_of X G m_read_chart
    case F_read_chart => exact F_read_chart
    case b_read_chart => exact F_read_chart.binds (ps := ["text"]) fun _ _ _ _ _ _ us hl => match us, hl with | [_], _ => rfl
    case g__law_mixed => exact PySem.W.mg_of X G m__law_mixed
    case F__law_mixed => exact F__law_mixed
    case b__law_mixed => exact F__law_mixed.binds (ps := ["_law_cell", "_law_k"]) fun _ _ _ _ _ _ us hl => match us, hl with | [_, _], _ => rfl
    case g__law_purse => exact PySem.W.mg_of X G m__law_purse
    case F__law_purse => exact F__law_purse
    case b__law_purse => exact F__law_purse.binds (ps := ["_law_cell", "_law_k"]) fun _ _ _ _ _ _ us hl => match us, hl with | [_, _], _ => rfl
    case g__law_take => exact PySem.W.mg_of X G m__law_take
    case F__law_take => exact F__law_take
    case b__law_take => exact F__law_take.binds (ps := ["_law_purse_here", "_law_far"]) fun _ _ _ _ _ _ us hl => match us, hl with | [_, _], _ => rfl
    case g__law_at => exact PySem.W.mg_of X G m__law_at
    case F__law_at => exact F__law_at
    case b__law_at => exact F__law_at.binds (ps := ["_law_script", "_law_k"]) fun _ _ _ _ _ _ us hl => match us, hl with | [_, _], _ => rfl
    case g__law_pick => exact PySem.W.mg_of X G m__law_pick
    case F__law_pick => exact F__law_pick
    case b__law_pick => exact F__law_pick.binds (ps := ["_law_purse_here", "_law_some"]) fun _ _ _ _ _ _ us hl => match us, hl with | [_, _], _ => rfl
    case g__law_good => exact PySem.W.mg_of X G m__law_good
    case F__law_good => exact F__law_good
    case b__law_good => exact F__law_good.binds (ps := []) fun _ _ _ _ _ _ us hl => match us, hl with | [], _ => rfl
    case g__law_bad => exact PySem.W.mg_of X G m__law_bad
    case F__law_bad => exact F__law_bad
    case b__law_bad => exact F__law_bad.binds (ps := []) fun _ _ _ _ _ _ us hl => match us, hl with | [], _ => rfl
    case g__law_row_of => exact PySem.W.mg_of X G m__law_row_of
    case F__law_row_of => exact F__law_row_of
    case b__law_row_of => exact F__law_row_of.binds (ps := ["_law_line"]) fun _ _ _ _ _ _ us hl => match us, hl with | [_], _ => rfl
    case g_law => exact PySem.W.mg_of X G m_law
    case F_law => exact F_law
    case b_law => exact F_law.binds (ps := ["_law_script"]) fun _ _ _ _ _ _ us hl => match us, hl with | [_], _ => rfl
    case n_enumerate => exact PySem.W.mg_none_of X G z_enumerate
    case n_int => exact PySem.W.mg_none_of X G z_int
    case n_len => exact PySem.W.mg_none_of X G z_len
    case n_min => exact PySem.W.mg_none_of X G z_min
    case n_range => exact PySem.W.mg_none_of X G z_range
    case n_tuple => exact PySem.W.mg_none_of X G z_tuple
    case g_SMALL => exact PySem.W.mg_of X G m_SMALL
    case g_FIGURES => exact PySem.W.mg_of X G m_FIGURES
    case g_SIGNS => exact PySem.W.mg_of X G m_SIGNS
    case g_WORDS => exact PySem.W.mg_of X G m_WORDS
    case w_WORDS => exact u_WORDS
    case g_MOST_SIGNS => exact PySem.W.mg_of X G m_MOST_SIGNS
    case g_MOST_FIGURES => exact PySem.W.mg_of X G m_MOST_FIGURES
    case g_NESTS => exact PySem.W.mg_of X G m_NESTS
    case w_NESTS => exact u_NESTS
    case g_MARKERS => exact PySem.W.mg_of X G m_MARKERS
    case w_MARKERS => exact u_MARKERS
    case g_SORTS => exact PySem.W.mg_of X G m_SORTS
    case w_SORTS => exact u_SORTS
  refine ⟨fd_law, fun s v => ?_, fun base _ _ => law_end (cl := cl A) (d := d_law) (ok_law T) fun ns _ => law_ok ns []⟩
  obtain ⟨oc, od, kV, doc, pm, an, cdv, ct', osl, rfl, lk, hcd⟩ := F_law.ex
  exact .of_eq rfl
end K06
set_option Elab.async false
set_option maxRecDepth 100000
open PySem PySem.W PyProof.Rows
set_option maxRecDepth 100000 in
set_option maxHeartbeats 0 in
theorem PySem.Challenge.cw_deepstands_k06_guards_and_terms_by_hand_holds : PySem.Challenge.rw_deepstands_k06_guards_and_terms_by_hand.Holds := by
  w_on; o_law; k_head; (case hw => w_witness2)
  k_fill
  refine SA.walkA (l := PySem.Challenge.rw_deepstands_k06_guards_and_terms_by_hand) (k := 160) (x := "_law_script") rfl rfl ⟨rfl, by decide, by decide⟩ (fun w h Y => PySem.W.kIn_of Y) ?F
  case F =>
    intro w mg fa h KX G hmg
    refine' K06.all_mk KX G hmg ?m_Line ?q_Line ?m_Reading ?q_Reading ?na_Line_number ?na_Line_blanks ?na_Line_left ?na_Reading_lines ?na_Reading_end ?na_Reading_at ?na_Reading_noted ?m_NoText ?te_NoText ?xf_NoText ?ox_NoText ?it_NoText ?ty_NoText ?no_NoText_row ?no_NoText_column ?FD_NoText ?m_run_end ?F_run_end ?m_word_end ?F_word_end ?m_words_of ?F_words_of ?i_Line___init__ ?y_Line___init__ ?w_Line___init__ ?v_Line___init__ ?F_Line___init__ ?i_Line_refuse ?y_Line_refuse ?F_Line_refuse ?i_Line_is_next ?y_Line_is_next ?F_Line_is_next ?i_Line_is_sort ?y_Line_is_sort ?F_Line_is_sort ?i_Line_taken ?y_Line_taken ?F_Line_taken ?i_Line_want ?y_Line_want ?F_Line_want ?i_Line_a_name ?y_Line_a_name ?F_Line_a_name ?i_Line_whole ?y_Line_whole ?F_Line_whole ?i_Line_signed ?y_Line_signed ?F_Line_signed ?i_Line_ends ?y_Line_ends ?F_Line_ends ?i_Line_term ?y_Line_term ?F_Line_term ?i_Line_sums ?y_Line_sums ?F_Line_sums ?i_Line_piece ?y_Line_piece ?F_Line_piece ?i_Line_guard ?y_Line_guard ?F_Line_guard ?i_Line_must ?y_Line_must ?F_Line_must ?i_Line_either ?y_Line_either ?F_Line_either ?i_Line_both ?y_Line_both ?F_Line_both ?i_Line_single ?y_Line_single ?F_Line_single ?i_Line_compared ?y_Line_compared ?F_Line_compared ?i_Line_some_deeds ?y_Line_some_deeds ?F_Line_some_deeds ?i_Line_a_deed ?y_Line_a_deed ?F_Line_a_deed ?i_Line_goals ?y_Line_goals ?F_Line_goals ?i_Reading___init__ ?y_Reading___init__ ?w_Reading___init__ ?v_Reading___init__ ?F_Reading___init__ ?i_Reading_here ?y_Reading_here ?F_Reading_here ?i_Reading_next_blanks ?y_Reading_next_blanks ?F_Reading_next_blanks ?i_Reading_finished ?y_Reading_finished ?F_Reading_finished ?i_Reading_flush ?y_Reading_flush ?F_Reading_flush ?i_Reading_a_chart ?y_Reading_a_chart ?F_Reading_a_chart ?i_Reading_a_stand ?y_Reading_a_stand ?F_Reading_a_stand ?i_Reading_is_below ?y_Reading_is_below ?F_Reading_is_below ?i_Reading_deeds_of ?y_Reading_deeds_of ?F_Reading_deeds_of ?i_Reading_a_move ?y_Reading_a_move ?F_Reading_a_move ?m_read_chart ?F_read_chart ?m__law_mixed ?F__law_mixed ?m__law_purse ?F__law_purse ?m__law_take ?F__law_take ?m__law_at ?F__law_at ?m__law_pick ?F__law_pick ?m__law_good ?F__law_good ?m__law_bad ?F__law_bad ?m__law_row_of ?F__law_row_of ?m_law ?F_law ?z_enumerate ?z_int ?z_len ?z_min ?z_range ?z_tuple ?m_SMALL ?m_FIGURES ?m_SIGNS ?m_WORDS ?u_WORDS ?m_MOST_SIGNS ?m_MOST_FIGURES ?m_NESTS ?u_NESTS ?m_MARKERS ?u_MARKERS ?m_SORTS ?u_SORTS
    (case m_Line => k_is)
    (case q_Line => exact ⟨by k_is, by k_is, by k_is, by k_is⟩)
    (case m_Reading => k_is)
    (case q_Reading => exact ⟨by k_is, by k_is, by k_is, by k_is⟩)
    (case na_Line_number => k_is)
    (case na_Line_blanks => k_is)
    (case na_Line_left => k_is)
    (case na_Reading_lines => k_is)
    (case na_Reading_end => k_is)
    (case na_Reading_at => k_is)
    (case na_Reading_noted => k_is)
    (case m_NoText => k_is)
    (case te_NoText => exact PySem.W.exm_ref (by k_is) (by k_is) (by k_is) (by k_is))
    (case xf_NoText => exact ⟨by k_is, by k_is, by k_is, by k_is⟩)
    (case ox_NoText => exact SA.oex_mk (by k_is) (by decide +kernel) (by k_is) (by k_is) (by k_is) (by k_is))
    (case it_NoText => k_is)
    (case ty_NoText => k_is)
    (case no_NoText_row => k_is)
    (case no_NoText_column => k_is)
    (case FD_NoText => exact SA.fdd_mk (st := K06.s_NoText) (by k_is) (by k_is) (by k_is) (by k_is) (by simp) (.cons SA.rel_int (.cons SA.rel_int .nil)) rfl)
    (case m_run_end => k_is)
    (case F_run_end => exact L2.fun_mk (st := K06.s_run_end) (by k_is) (by k_is) (by k_is))
    (case m_word_end => k_is)
    (case F_word_end => exact L2.fun_mk (st := K06.s_word_end) (by k_is) (by k_is) (by k_is))
    (case m_words_of => k_is)
    (case F_words_of => exact L2.fun_mk (st := K06.s_words_of) (by k_is) (by k_is) (by k_is))
    (case i_Line___init__ => k_is)
    (case y_Line___init__ => k_is)
    (case w_Line___init__ => k_is)
    (case v_Line___init__ => k_is)
    (case F_Line___init__ => exact L2.fun_mk (st := K06.s_Line___init__) (by k_is) (by k_is) (by k_is))
    (case i_Line_refuse => k_is)
    (case y_Line_refuse => k_is)
    (case F_Line_refuse => exact L2.fun_mk (st := K06.s_Line_refuse) (by k_is) (by k_is) (by k_is))
    (case i_Line_is_next => k_is)
    (case y_Line_is_next => k_is)
    (case F_Line_is_next => exact L2.fun_mk (st := K06.s_Line_is_next) (by k_is) (by k_is) (by k_is))
    (case i_Line_is_sort => k_is)
    (case y_Line_is_sort => k_is)
    (case F_Line_is_sort => exact L2.fun_mk (st := K06.s_Line_is_sort) (by k_is) (by k_is) (by k_is))
    (case i_Line_taken => k_is)
    (case y_Line_taken => k_is)
    (case F_Line_taken => exact L2.fun_mk (st := K06.s_Line_taken) (by k_is) (by k_is) (by k_is))
    (case i_Line_want => k_is)
    (case y_Line_want => k_is)
    (case F_Line_want => exact L2.fun_mk (st := K06.s_Line_want) (by k_is) (by k_is) (by k_is))
    (case i_Line_a_name => k_is)
    (case y_Line_a_name => k_is)
    (case F_Line_a_name => exact L2.fun_mk (st := K06.s_Line_a_name) (by k_is) (by k_is) (by k_is))
    (case i_Line_whole => k_is)
    (case y_Line_whole => k_is)
    (case F_Line_whole => exact L2.fun_mk (st := K06.s_Line_whole) (by k_is) (by k_is) (by k_is))
    (case i_Line_signed => k_is)
    (case y_Line_signed => k_is)
    (case F_Line_signed => exact L2.fun_mk (st := K06.s_Line_signed) (by k_is) (by k_is) (by k_is))
    (case i_Line_ends => k_is)
    (case y_Line_ends => k_is)
    (case F_Line_ends => exact L2.fun_mk (st := K06.s_Line_ends) (by k_is) (by k_is) (by k_is))
    (case i_Line_term => k_is)
    (case y_Line_term => k_is)
    (case F_Line_term => exact L2.fun_mk (st := K06.s_Line_term) (by k_is) (by k_is) (by k_is))
    (case i_Line_sums => k_is)
    (case y_Line_sums => k_is)
    (case F_Line_sums => exact L2.fun_mk (st := K06.s_Line_sums) (by k_is) (by k_is) (by k_is))
    (case i_Line_piece => k_is)
    (case y_Line_piece => k_is)
    (case F_Line_piece => exact L2.fun_mk (st := K06.s_Line_piece) (by k_is) (by k_is) (by k_is))
    (case i_Line_guard => k_is)
    (case y_Line_guard => k_is)
    (case F_Line_guard => exact L2.fun_mk (st := K06.s_Line_guard) (by k_is) (by k_is) (by k_is))
    (case i_Line_must => k_is)
    (case y_Line_must => k_is)
    (case F_Line_must => exact L2.fun_mk (st := K06.s_Line_must) (by k_is) (by k_is) (by k_is))
    (case i_Line_either => k_is)
    (case y_Line_either => k_is)
    (case F_Line_either => exact L2.fun_mk (st := K06.s_Line_either) (by k_is) (by k_is) (by k_is))
    (case i_Line_both => k_is)
    (case y_Line_both => k_is)
    (case F_Line_both => exact L2.fun_mk (st := K06.s_Line_both) (by k_is) (by k_is) (by k_is))
    (case i_Line_single => k_is)
    (case y_Line_single => k_is)
    (case F_Line_single => exact L2.fun_mk (st := K06.s_Line_single) (by k_is) (by k_is) (by k_is))
    (case i_Line_compared => k_is)
    (case y_Line_compared => k_is)
    (case F_Line_compared => exact L2.fun_mk (st := K06.s_Line_compared) (by k_is) (by k_is) (by k_is))
    (case i_Line_some_deeds => k_is)
    (case y_Line_some_deeds => k_is)
    (case F_Line_some_deeds => exact L2.fun_mk (st := K06.s_Line_some_deeds) (by k_is) (by k_is) (by k_is))
    (case i_Line_a_deed => k_is)
    (case y_Line_a_deed => k_is)
    (case F_Line_a_deed => exact L2.fun_mk (st := K06.s_Line_a_deed) (by k_is) (by k_is) (by k_is))
    (case i_Line_goals => k_is)
    (case y_Line_goals => k_is)
    (case F_Line_goals => exact L2.fun_mk (st := K06.s_Line_goals) (by k_is) (by k_is) (by k_is))
    (case i_Reading___init__ => k_is)
    (case y_Reading___init__ => k_is)
    (case w_Reading___init__ => k_is)
    (case v_Reading___init__ => k_is)
    (case F_Reading___init__ => exact L2.fun_mk (st := K06.s_Reading___init__) (by k_is) (by k_is) (by k_is))
    (case i_Reading_here => k_is)
    (case y_Reading_here => k_is)
    (case F_Reading_here => exact L2.fun_mk (st := K06.s_Reading_here) (by k_is) (by k_is) (by k_is))
    (case i_Reading_next_blanks => k_is)
    (case y_Reading_next_blanks => k_is)
    (case F_Reading_next_blanks => exact L2.fun_mk (st := K06.s_Reading_next_blanks) (by k_is) (by k_is) (by k_is))
    (case i_Reading_finished => k_is)
    (case y_Reading_finished => k_is)
    (case F_Reading_finished => exact L2.fun_mk (st := K06.s_Reading_finished) (by k_is) (by k_is) (by k_is))
    (case i_Reading_flush => k_is)
    (case y_Reading_flush => k_is)
    (case F_Reading_flush => exact L2.fun_mk (st := K06.s_Reading_flush) (by k_is) (by k_is) (by k_is))
    (case i_Reading_a_chart => k_is)
    (case y_Reading_a_chart => k_is)
    (case F_Reading_a_chart => exact L2.fun_mk (st := K06.s_Reading_a_chart) (by k_is) (by k_is) (by k_is))
    (case i_Reading_a_stand => k_is)
    (case y_Reading_a_stand => k_is)
    (case F_Reading_a_stand => exact L2.fun_mk (st := K06.s_Reading_a_stand) (by k_is) (by k_is) (by k_is))
    (case i_Reading_is_below => k_is)
    (case y_Reading_is_below => k_is)
    (case F_Reading_is_below => exact L2.fun_mk (st := K06.s_Reading_is_below) (by k_is) (by k_is) (by k_is))
    (case i_Reading_deeds_of => k_is)
    (case y_Reading_deeds_of => k_is)
    (case F_Reading_deeds_of => exact L2.fun_mk (st := K06.s_Reading_deeds_of) (by k_is) (by k_is) (by k_is))
    (case i_Reading_a_move => k_is)
    (case y_Reading_a_move => k_is)
    (case F_Reading_a_move => exact L2.fun_mk (st := K06.s_Reading_a_move) (by k_is) (by k_is) (by k_is))
    (case m_read_chart => k_is)
    (case F_read_chart => exact L2.fun_mk (st := K06.s_read_chart) (by k_is) (by k_is) (by k_is))
    (case m__law_mixed => k_is)
    (case F__law_mixed => exact L2.fun_mk (st := K06.s__law_mixed) (by k_is) (by k_is) (by k_is))
    (case m__law_purse => k_is)
    (case F__law_purse => exact L2.fun_mk (st := K06.s__law_purse) (by k_is) (by k_is) (by k_is))
    (case m__law_take => k_is)
    (case F__law_take => exact L2.fun_mk (st := K06.s__law_take) (by k_is) (by k_is) (by k_is))
    (case m__law_at => k_is)
    (case F__law_at => exact L2.fun_mk (st := K06.s__law_at) (by k_is) (by k_is) (by k_is))
    (case m__law_pick => k_is)
    (case F__law_pick => exact L2.fun_mk (st := K06.s__law_pick) (by k_is) (by k_is) (by k_is))
    (case m__law_good => k_is)
    (case F__law_good => exact L2.fun_mk (st := K06.s__law_good) (by k_is) (by k_is) (by k_is))
    (case m__law_bad => k_is)
    (case F__law_bad => exact L2.fun_mk (st := K06.s__law_bad) (by k_is) (by k_is) (by k_is))
    (case m__law_row_of => k_is)
    (case F__law_row_of => exact L2.fun_mk (st := K06.s__law_row_of) (by k_is) (by k_is) (by k_is))
    (case m_law => k_is)
    (case F_law => exact L2.fun_mk (st := K06.s_law) (by k_is) (by k_is) (by k_is))
    (case z_enumerate => k_is)
    (case z_int => k_is)
    (case z_len => k_is)
    (case z_min => k_is)
    (case z_range => k_is)
    (case z_tuple => k_is)
    (case m_SMALL => k_is)
    (case m_FIGURES => k_is)
    (case m_SIGNS => k_is)
    (case m_WORDS => k_is)
    (case u_WORDS => exact SA.sqt_mk (by k_is) (by decide) (.cons SA.rel_str (.cons SA.rel_str (.cons SA.rel_str (.cons SA.rel_str (.cons SA.rel_str (.cons SA.rel_str (.cons SA.rel_str (.cons SA.rel_str (.cons SA.rel_str (.cons SA.rel_str (.cons SA.rel_str (.cons SA.rel_str (.cons SA.rel_str (.cons SA.rel_str (.cons SA.rel_str (.cons SA.rel_str (.cons SA.rel_str (.cons SA.rel_str (.cons SA.rel_str (.cons SA.rel_str (.cons SA.rel_str (.cons SA.rel_str (.cons SA.rel_str (.cons SA.rel_str .nil)))))))))))))))))))))))))
    (case m_MOST_SIGNS => k_is)
    (case m_MOST_FIGURES => k_is)
    (case m_NESTS => k_is)
    (case u_NESTS => exact SA.sqt_mk (by k_is) (by decide) (.cons SA.rel_str (.cons SA.rel_str .nil)))
    (case m_MARKERS => k_is)
    (case u_MARKERS => exact SA.sqt_mk (by k_is) (by decide) (.cons SA.rel_str (.cons SA.rel_str .nil)))
    (case m_SORTS => k_is)
    (case u_SORTS => exact SA.sqt_mk (by k_is) (by decide) (.cons SA.rel_str (.cons SA.rel_str (.cons SA.rel_str (.cons SA.rel_str (.cons SA.rel_str (.cons SA.rel_str .nil)))))))
